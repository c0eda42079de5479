import PyProof.Rows.All
import Wide.All
import OpenK.AllK
import Wide.FinOn
import HandS.ForMost
import HandS.EndBits
import HandS.Wide
import HandS.IsInst
import HandS.Style
import HandS.Walk
import HandS.ClsMeth
import HandS.Conv
import HandS.ForExc
import HandS.ExcInit
import HandS.CallSlots
import HandS.Defaults
import HandS.ExcField
import HandS.Property
import HandS.WordsExc
import HandS.TryMany
import KE.KExcSuper
import HandS.HotCalls
import HandS.Dict
import HandS.Set
import HandS.SetBool
import HandS.SetFor
import HandS.Strs
import HandS.More
import PyProof.Rows.SortShellAny
import PyProof.Rows.SetFrom
import PyProof.Rows.SetObj
import HandS.TryOnly
import KE.SortData
import HandS.TupAny
import HandS.DictComp
import HandS.MakeKwOnly
import HandS.Codes
import HandS.StrMore
import HandS.Text
import HandS.List
import HandS.WideBits
import HandS.SetKeys
import KE.KxIndex
import KE.KCallOwn
import HandS.FStr
import PyProof.InstEq
import KE.KOpsOwn
import PySem.Challenge.RW_innercommits_k20_parts_of_libraries

set_option Elab.async false
set_option linter.all false
set_option maxRecDepth 100000
set_option maxHeartbeats 4000000
namespace Ic
open PySem L2
def top (i : Nat) : Stmt := PySem.Challenge.pw_innercommits_k20_parts_of_libraries.main.body.getD i (.Pass ⟨0, 0, 0, 0⟩)
abbrev P : Program := PySem.Challenge.pw_innercommits_k20_parts_of_libraries
/-! ### heaps -/
theorem sz_le {n m : Nat} (h : Nat.ble n m = true) : n ≤ m := Nat.le_of_ble_eq_true h
theorem sz_lt {n m : Nat} (h : Nat.blt n m = true) : n < m := Nat.le_of_ble_eq_true h
theorem upd_old {H : Hp} {p a : Addr} {o u : HO} (h : H a = some u) (hp : H p = none) : upd H p o a = some u := by
  rw [upd_ne (ne_of_none h hp)]; exact h
theorem upd_oth {H : Hp} {p a : Addr} {o u : HO} (hn : a ≠ p) (h : H a = some u) : upd H p o a = some u := by
  rw [upd_ne hn]; exact h
theorem cmul_l {i j : Int} (h : (decide (-(2 ^ 64) < i) && decide (i < 2 ^ 64)) = true) : CMul i j := by
  simp only [Bool.and_eq_true, decide_eq_true_eq] at h
  exact .inl h
theorem cmul_r {i j : Int} (h : (decide (-(2 ^ 64) < j) && decide (j < 2 ^ 64)) = true) : CMul i j := by
  simp only [Bool.and_eq_true, decide_eq_true_eq] at h
  exact .inr h
theorem cpow_lit {i j : Int} (h : (decide (0 ≤ j) && decide (j ≤ 1000000) && decide (i.natAbs < 2 ^ 64)) = true) : CPow i j := by
  simp only [Bool.and_eq_true, decide_eq_true_eq] at h
  exact ⟨h.1.1, h.1.2, h.2⟩
theorem cdiv_lit {i j : Int} (h : (decide (0 < j) && decide (j < 1073741824)) = true) : CDivW i j := by
  simp only [Bool.and_eq_true, decide_eq_true_eq] at h
  exact wide_div (b := 40) h.1 (by omega) (by decide) (by decide)
theorem none_upd {H : Hp} {p b : Addr} {o : HO} (h : upd H p o b = none) : b ≠ p ∧ H b = none := by
  by_cases e : b = p
  · rw [e, upd_same] at h; cases h
  · exact ⟨e, by rw [upd_ne e] at h; exact h⟩
/-- all that was tracked, but S, is as it was -/
def Kp (S : Addr → Prop) (H H' : Hp) : Prop := ∀ b u, H b = some u → ¬ S b → H' b = some u
theorem Kp.refl {S : Addr → Prop} {H : Hp} : Kp S H H := fun _ _ h _ => h
theorem Kp.trans {S : Addr → Prop} {H H1 H2 : Hp} (a : Kp S H H1) (b : Kp S H1 H2) : Kp S H H2 := fun c u h n => b c u (a c u h n) n
theorem Kp.new {S : Addr → Prop} {H H1 : Hp} {p : Addr} {o : HO} (a : Kp S H H1) (h : H1 p = none) : Kp S H (upd H1 p o) := fun c u e n => upd_old (a c u e n) h
theorem Kp.set {S : Addr → Prop} {H H1 : Hp} {p : Addr} {o : HO} (a : Kp S H H1) (h : S p) : Kp S H (upd H1 p o) := fun c u e n => upd_oth (fun z => n (z ▸ h)) (a c u e n)
theorem Kp.set1 {H H1 : Hp} {p : Addr} {o : HO} (a : Kp (fun b => b = p) H H1) : Kp (fun b => b = p) H (upd H1 p o) := a.set rfl
/-- p is none of H's -/
theorem Kp.fresh {S : Addr → Prop} {H H1 : Hp} {p : Addr} {o : HO} (a : Kp S H H1) (h : H p = none) : Kp S H (upd H1 p o) := fun c u e n => upd_oth (ne_of_none e h) (a c u e n)
theorem Kp.mono {S S' : Addr → Prop} {H H1 : Hp} (a : Kp S H H1) (h : ∀ b, S b → S' b) : Kp S' H H1 := fun c u e n => a c u e fun z => n (h c z)
theorem Kp.same {S : Addr → Prop} {H H1 H2 : Hp} (a : Same H H1) (b : Kp S H1 H2) (n : ∀ c, S c → H c = none) : Same H H2 := fun c u h => b c u (a c u h) fun z => by
  rw [n c z] at h; cases h
theorem Kp.of_same {S : Addr → Prop} {H H1 : Hp} (a : Same H H1) : Kp S H H1 := fun c u h _ => a c u h
theorem _root_.L2.Same.new {H H1 : Hp} {p : Addr} {o : HO} (a : Same H H1) (h : H1 p = none) : Same H (upd H1 p o) := fun c u e => upd_old (a c u e) h
theorem _root_.L2.Same.frsh {H H1 : Hp} {p : Addr} {o : HO} (a : Same H H1) (h : H p = none) : Same H (upd H1 p o) := fun c u e => upd_oth (ne_of_none e h) (a c u e)
theorem tyV_lst {K : PySem.W.Frag} {H : Hp} {p : Addr} {xs : List V} (h : SqL K H p xs) : tyV K "list" (.ref p) H := .inl ⟨rfl, xs, h⟩
class RdTy (α : Type) : Prop
instance : RdTy V := ⟨⟩
instance : RdTy Int := ⟨⟩
instance : RdTy Nat := ⟨⟩
instance : RdTy Bool := ⟨⟩
instance : RdTy Str := ⟨⟩
instance : RdTy HO := ⟨⟩
instance : RdTy Value := ⟨⟩
instance : RdTy Obj := ⟨⟩
instance {α : Type} : RdTy (List α) := ⟨⟩
instance {α : Type} : RdTy (Array α) := ⟨⟩
instance {α β : Type} : RdTy (Sum α β) := ⟨⟩
theorem exI {α : Type} [RdTy α] {p : α → Prop} (w : α) (h : p w) : Exists p := ⟨w, h⟩
/-! ### the pool -/
def PoolO (o : HO) (c : Nat) : Prop := ∃ a b n : Int, o = .lst [.int a, .int b, .int n] ∧ 0 ≤ a ∧ 0 ≤ b ∧ b < 2 ^ 62 ∧ 0 ≤ n ∧ n ≤ c
def PoolAt (H : Hp) (p : Addr) (c : Nat) : Prop := ∃ o, H p = some o ∧ PoolO o c
theorem PoolO.mono {o : HO} {c d : Nat} (h : PoolO o c) (l : c ≤ d) : PoolO o d := by
  obtain ⟨a, b, n, e, h1, h2, h3, h4, h5⟩ := h
  exact ⟨a, b, n, e, h1, h2, h3, h4, by omega⟩
def spPool (K : PySem.W.Frag) : Sp := fun vs H Q _ => ∃ (a : Addr) (ns : List Int) (i : Nat), vs = [.ref a, .int (i : Int)] ∧ SqL K H a (ns.map V.int) ∧ i < 1000 ∧
  ∀ p o, H p = none → PoolO o 0 → Q (.ref p) (upd H p o)
def spDraw : Sp := fun vs H Q _ => ∃ (p : Addr) (m : Int) (c : Nat) (o : HO), vs = [.ref p, .int m] ∧ H p = some o ∧ PoolO o c ∧ 0 < m ∧ m < 2 ^ 200 ∧ c < 2 ^ 40 ∧
  ∀ r o', 0 ≤ r → r < m → PoolO o' (c + 1) → Q (.int r) (upd H p o')
local macro_rules | `(tactic| walk_at "hp") => `(tactic| first | with_reducible assumption | with_reducible exact upd_same | (with_reducible apply upd_old; (focus (walk_at "hp")); (focus with_reducible assumption)) | (with_reducible apply upd_oth; (focus (first | with_reducible assumption | (with_reducible apply Ne.symm; with_reducible assumption))); walk_at "hp"))
local macro_rules | `(tactic| walk_at "sq") => `(tactic| first | with_reducible assumption | (with_reducible apply SqL.of; walk_at "hp") | (with_reducible apply SqT.of; walk_at "hp"))
local macro_rules | `(tactic| walk_at "side") => `(tactic| first | with_reducible assumption | exact ⟨_, rfl⟩ | walk_at "hp" | walk_at "sq" | (with_reducible apply tyV_lst; walk_at "sq") | (with_reducible apply Or.inl; walk_at "sq") | (with_reducible apply Or.inr; walk_at "sq") | with_reducible exact cmul_l (by decide) | with_reducible exact cmul_r (by decide) | with_reducible exact cpow_lit (by decide) | with_reducible exact cdiv_lit (by decide) | decide | exact sz_le rfl | exact sz_lt rfl | omega)
local macro_rules | `(tactic| walk_at "kp") => `(tactic| first | with_reducible assumption | with_reducible exact Kp.refl | (with_reducible apply Kp.set1; walk_at "kp") | (with_reducible apply Kp.new; (focus (walk_at "kp")); (focus with_reducible assumption)) | (with_reducible apply Kp.fresh; (focus (walk_at "kp")); (focus with_reducible assumption)))
local macro_rules | `(tactic| walk_at "rd1") => `(tactic| first
  | refine And.intro rfl ?_
  | apply exI
  | (refine Or.inl ?_; apply exI; refine And.intro rfl ?_)
  | (refine Or.inr ?_; apply exI; refine And.intro rfl ?_)
  | (refine And.intro ?_ ?_; (focus (walk_at "side"))))
local macro_rules | `(tactic| walk_at "rd") => `(tactic| repeat (walk_at "rd1"))
/-! ### further rules: a staticmethod called off its class, list of a text -/
/-- C.m is a staticmethod: its record at p, its def at f -/
structure SMet (K : PySem.W.Frag) (C : Addr) (mc : Value) (m : Str) (p f : Addr) : Prop where
  at_ : PySem.W.findCls K (.ref C) mc m = some (.get (.builtin "staticmethod.__get__") (.ref p) .none (.ref C))
  rc : ∃ rest, PySem.W.recIn K p "staticmethod" = some (.ref f :: rest)
def tSMeth (C : Addr) (sp : Sp) (dvs : List V) (E : XK) (ta : TE) (t : TA) : TE := fun σ H Q => ta σ H fun x H1 => x = .ref C ∧ t σ H1 fun vs H2 => sp (vs ++ dvs) H2 Q E
theorem pe_smeth {X : Cx} {CX : CXT} {k : Nat} {C p f : Addr} {fd : FuncData} {ps : List Str} {ds : List Value} {dvs : List V} {mc : Value} {sp : Sp} {E : XK} {o e : Expr} {es : List Expr} {m : Str} {pos apos : Pos} {ta : TE} {t : TA} {pl : Sem Bool}
    (he : PE X o ta) (r : ClX.CRead X.K C mc) (c : SMet X.K C mc m p f) (F : FnOk X.prog X.w X.K X.mg X.base CX k f fd ps sp) (hr : Room k X.A) (hk : PySem.W.keepIn X.K (.ref f) = true) (hb : Binds X.K fd ps ds) (hd : Vals dvs ds) (hx : Passes CX X E) (ha : PA X (e :: es) t)
    (hst : starEach (e :: es) X.env = (false, eval e X.env) :: starEach es X.env := by rfl) (hpl : (backTo pos (starEach es X.env)).any (·.1) = false := by rfl)
    (ht : eval (.Call (.Attribute o m apos) (e :: es) [] pos) X.env = (do
      let ov ← eval o X.env
      standAt apos.atName
      let (f, first) ← holding [ov] (getMethod ov m pl)
      callWith pos f first (backTo pos (starEach (e :: es) X.env)) (backToKw pos (keywordEach [] X.env))) := by rfl) :
    PE X (.Call (.Attribute o m apos) (e :: es) [] pos) (tSMeth C sp dvs E ta t) := by
  refine ⟨fun pins s σ H Q I h => ?_⟩
  refine PySem.W.methodCall_KW (pl := pl) (thn (he.run pins s σ H _ I h) fun u s1 ⟨x, H1, I1, rx, ex, q⟩ => ?_) ht
  subst ex
  obtain rfl : u = Value.ref C := rx
  obtain ⟨rest, hp⟩ := c.rc
  refine PySem.W.method_cls I1.kIn r.ga (PySem.W.cls_bind I1.kIn r.rd c.at_ ?_)
  refine wpAny_call (PySem.W.sm_get (s := { s1 with toks := s1.toks + 1 }) I1.kIn hp (PySem.W.handed_on rfl ?_))
  have I2 := I1.tok (s1.toks + 1)
  refine PySem.W.callWith_K (h₀ := X.base) (first := []) I2.ok.mod.kin hk (thn (ha.run pos pins _ σ H1 _ I2 q) fun us s3 ⟨vs, H2, I3, rv, q2⟩ => ⟨I3.kIn, ?_⟩) hst hpl
  exact run_fn F hr hb hd hx I3 rv q2
theorem call_list_text {X : Cx} (hc : X.calm = true) : CallR X (.type "list") (fun xs H Q => ∃ z : Str, xs = [.str z] ∧ z.length ≤ sizeLine ∧ ∀ l, H l = none → Q (.ref l) (upd H l (.lst (z.cps.toList.map fun c => .str ⟨#[c]⟩)))) := by
  intro pins s σ H xs us Q I r h
  obtain ⟨z, rfl, hz, q⟩ := h
  obtain ⟨u, rfl, t, rfl⟩ := vals1 r
  refine call_list_str (I.ok.hd hc) z t (fun h' tk acc c' kp e it => ?_) hz
  have hv : Vals (z.cps.toList.map fun c => V.str ⟨#[c]⟩) acc.toList := by
    refine vals_of_at (by rw [List.length_map, Array.length_toList, Array.length_toList, it.1]) fun j x u e1 e2 => ?_
    rw [Array.getElem?_toList] at e2
    obtain ⟨c, tk, hc1, rfl⟩ := it.2 j u e2
    rw [List.getElem?_map, Array.getElem?_toList, hc1] at e1
    cases e1
    exact ⟨tk, rfl⟩
  refine ⟨.ref s.heap.objs.size, _, I.laid (o := .lst (z.cps.toList.map fun c => V.str ⟨#[c]⟩)) (t' := tk) kp (Nat.le_refl _) ?_, rfl, q _ (I.hok.fresh (Nat.le_refl _))⟩
  exact ⟨by rw [List.length_map, Array.length_toList]; exact hz, acc.toList, c', hv, by simpa using e⟩
/-! ### data: == of lists and tuples -/
theorem eqvAll_nil {ds : List PyData} : PyData.eqvAll ds [] = ds.isEmpty := by
  cases ds <;> rfl
def asc (z : Str) : Prop := ∀ c ∈ z.cps.toList, c < 128
theorem asc_ok {z : Str} (h : asc z) : PyData.strOk z = true := by
  unfold PyData.strOk
  rw [Array.all_eq_true]
  intro i hi
  have := h z.cps[i] (by rw [Array.mem_toList_iff]; exact Array.getElem_mem hi)
  simp; omega
theorem dp_strs {K : PySem.W.Frag} {H : Hp} : ∀ ys : List Str, DpAll K H (ys.map V.str) (ys.map PyData.str)
  | [] => .nil
  | y :: r => .cons (.str y) (dp_strs r)
theorem lay_strs : ∀ {ys : List Str}, (∀ y ∈ ys, asc y) → PyData.canLayAll0 (ys.map PyData.str) = true
  | [], _ => rfl
  | y :: r, h => by
    show (PyData.strOk y && PyData.canLayAll0 (r.map PyData.str)) = true
    rw [asc_ok (h y List.mem_cons_self), lay_strs fun z hz => h z (List.mem_cons_of_mem _ hz)]; rfl
theorem depth_strs : ∀ ys : List Str, PyData.depthAll (ys.map PyData.str) = 0
  | [] => rfl
  | y :: r => by
    show max 0 (PyData.depthAll (r.map PyData.str)) = 0
    rw [depth_strs r]; rfl
theorem shaped_strs {ys : List Str} (h : ∀ y ∈ ys, asc y) : SeqAt.shaped (.list (ys.map PyData.str)) = true := by
  show (PyData.canLayAll0 (ys.map PyData.str) && decide (PyData.depthAll (ys.map PyData.str) + 1 ≤ 64)) = true
  rw [lay_strs h, depth_strs]; rfl
/-! ### letters -/
def Lets (cs : List Nat) : Prop := ∀ c ∈ cs, 97 ≤ c ∧ c ≤ 122
def chr1 (c : Nat) : Str := ⟨#[c]⟩
structure IsWord (w : Str) : Prop where
  lo : 1 ≤ w.cps.toList.length
  hi : w.cps.toList.length ≤ 8
  al : Lets w.cps.toList
def alpha : Str := "abcdefghijklmnopqrstuvwxyz"
theorem alpha_all : ∀ n : Nat, n < 26 → alpha.cps.toList[n]? = some (97 + n) := by
  have h : (List.range 26).all (fun n => decide (alpha.cps.toList[n]? = some (97 + n))) = true := by decide +kernel
  intro n hn
  exact of_decide_eq_true (List.all_eq_true.mp h n (List.mem_range.mpr hn))
theorem alpha_at {r : Int} (h0 : 0 ≤ r) (h1 : r < 26) : atI alpha.cps.toList r = some (97 + r.toNat) := by
  have e : ((r.toNat : Nat) : Int) = r := by omega
  have h := atI_nat (alpha_all r.toNat (by omega))
  rw [e] at h
  exact h
theorem join_chr : ∀ cs : List Nat, Txt.join (Str.ofString "") (cs.map chr1) = ⟨cs.toArray⟩ := by
  intro cs
  show Builtin.Str.glued (Str.ofString "") (cs.map chr1) = _
  rw [StrLaws.glued_eq_join]
  have e0 : (Str.ofString "") = Str.empty := by decide +kernel
  rw [e0]
  induction cs with
  | nil => rfl
  | cons c r ih =>
    cases r with
    | nil => rfl
    | cons b r =>
      show chr1 c ++ Str.empty ++ Str.join Str.empty ((b :: r).map chr1) = _
      rw [ih]
      show (⟨(#[c] ++ #[]) ++ (b :: r).toArray⟩ : Str) = ⟨(c :: b :: r).toArray⟩
      simp
theorem sum_chr : ∀ cs : List Nat, ((cs.map chr1).map (·.length)).sum = cs.length
  | [] => rfl
  | c :: r => by
    show 1 + ((r.map chr1).map (·.length)).sum = r.length + 1
    rw [sum_chr r]; omega
theorem alpha_len : alpha.length ≤ sizeLine := by decide +kernel
/-- [letters[draw(pool, 26)] for k in range(n)] -/
theorem lc_letters {n i0 i1 ik : Nat} {σ : St} {H1 : Hp} {D p : Addr} {o : HO} {c : Nat} {Qd : Hp → Prop} (hD : H1 D = none) (hp : H1 p = some o) (hc : PoolO o c) (hb : c + n < 2 ^ 40) (hn : n < 1000000)
    (s0 : σ[i0]? = some (some (.ref p))) (s1 : σ[i1]? = some (some (.str alpha))) (n0 : i0 ≠ ik) (n1 : i1 ≠ ik)
    (q : ∀ H' cs o', cs.length = n → Lets cs → Kp (fun b => b = p) H1 H' → H' p = some o' → PoolO o' (c + n) → H' D = some (.lst ((cs.map chr1).map V.str)) → Qd H') :
    ∃ W : Nat → Nat → Hp → Prop, (∃ m, W 0 m (upd H1 D (.lst []))) ∧ ∀ i m H, W i m H →
      ((Itr 0 n).stop i H ∧ Qd H) ∨ ((Itr 0 n).go i H ∧ ∃ Nx : Hp → Prop, (∀ H', Nx H' → ∃ m', m' < m ∧ W (i + 1) m' H') ∧ ∀ x H', (Itr 0 n).yld i H x H' → gName ik x (wipe σ [ik]) H' fun σ2 H2 => wipe σ2 [ik] = wipe σ [ik] ∧ tYes σ2 H2 fun b H3 =>
        if b = true then tOp rIxS (tVar i1) (tCall spDraw [] E0 (tCons (tVar i0) (tCons (tC (.int 26)) tNil))) σ2 H3 fun y H4 => ∃ acc, H4 D = some (.lst acc) ∧ acc.length < sizeLine ∧ Nx (upd H4 D (.lst (acc ++ [y]))) else Nx H3) := by
  have npD : p ≠ D := ne_of_none hp hD
  have w0 : ∀ v, ((wipe σ [ik]).set ik (some v))[i0]? = some (some (.ref p)) := fun v => by
    rw [List.getElem?_set_ne (Ne.symm n0), wipe_out (by simp [n0])]; exact s0
  have w1 : ∀ v, ((wipe σ [ik]).set ik (some v))[i1]? = some (some (.str alpha)) := fun v => by
    rw [List.getElem?_set_ne (Ne.symm n1), wipe_out (by simp [n1])]; exact s1
  refine lc_range (fun i H => ∃ cs o', cs.length = i ∧ Lets cs ∧ Kp (fun b => b = p) H1 H ∧ H p = some o' ∧ PoolO o' (c + i) ∧ H D = some (.lst ((cs.map chr1).map V.str))) ?_ ?_ ?_
  · exact ⟨[], o, rfl, (fun _ h => nomatch h), Kp.refl.new hD, upd_old hp hD, hc, upd_same⟩
  · rintro i H hi ⟨cs, o', e1, e2, e3, e4, e5, e6⟩
    refine ⟨?_, ?_⟩
    · show wipe ((wipe σ [ik]).set ik _) [ik] = wipe σ [ik]
      show (((σ.set ik none).set ik _).set ik none) = σ.set ik none
      rw [List.set_set, List.set_set]
    · refine ⟨_, w1 _, _, w0 _, p, 26, c + i, o', rfl, e4, e5, by decide, by decide, by omega, fun r o2 r0 r1 h2 => ?_⟩
      refine ⟨alpha, r, _, rfl, rfl, alpha_len, alpha_at r0 r1, (cs.map chr1).map V.str, upd_oth (Ne.symm npD) e6, ?_, ?_⟩
      · rw [List.length_map, List.length_map, e1, sizeLine_eq]; omega
      · refine ⟨cs ++ [97 + r.toNat], o2, ?_, ?_, ?_, ?_, h2, ?_⟩
        · rw [List.length_append, e1]; rfl
        · intro x hx
          rcases List.mem_append.mp hx with h | h
          · exact e2 x h
          · rw [List.mem_singleton] at h
            subst h
            omega
        · exact (e3.set rfl).fresh hD
        · exact upd_oth npD upd_same
        · rw [upd_same, List.map_append, List.map_append]; rfl
  · rintro H ⟨cs, o', e1, e2, e3, e4, e5, e6⟩
    exact q H cs o' e1 e2 e3 e4 e5 e6
def spWord : Sp := fun vs H Q _ => ∃ (p : Addr) (c : Nat) (o : HO), vs = [.ref p] ∧ H p = some o ∧ PoolO o c ∧ c < 2 ^ 39 ∧
  ∀ w o' H', IsWord w → PoolO o' (c + 9) → H' p = some o' → Kp (fun b => b = p) H H' → Q (.str w) H'
/-! ### words -/
def okC (c : Nat) : Bool := decide (97 ≤ c) && decide (c ≤ 122)
def wordS (z : Str) : Bool := decide (1 ≤ z.length) && decide (z.length ≤ 8) && z.cps.toList.all okC
def wordB : V → Bool
  | .str z => wordS z
  | _ => false
inductive Thing (H : Hp) : V → Prop
  | str (z : Str) (h : z.length ≤ 1000) (ha : asc z) : Thing H (.str z)
  | int (i : Int) : Thing H (.int i)
  | bl (b : Bool) : Thing H (.bl b)
  | non : Thing H .non
  | lst {p : Addr} {xs : List V} (h : H p = some (.lst xs)) : Thing H (.ref p)
  | tup {p : Addr} {xs : List V} (h : H p = some (.tup xs)) : Thing H (.ref p)
theorem Thing.same {H H' : Hp} {v : V} (s : Same H H') (t : Thing H v) : Thing H' v := by
  cases t with
  | str z h ha => exact .str z h ha
  | int i => exact .int i
  | bl b => exact .bl b
  | non => exact .non
  | lst h => exact .lst (s _ _ h)
  | tup h => exact .tup (s _ _ h)
def strB : V → Bool
  | .str _ => true
  | _ => false
theorem Thing.isi {K : PySem.W.Frag} {H : Hp} {v : V} (t : Thing H v) : ∃ ty, TyX K H v ty ∧ PySem.W.kitOne K ty (.type "str") = some (strB v) := by
  cases t with
  | str z h ha => exact ⟨_, .base (.str z), kit_ty (show kitB "str" "str" = some true by decide +kernel)⟩
  | int i => exact ⟨_, .base (.int i), kit_ty (show kitB "int" "str" = some false by decide +kernel)⟩
  | bl b => exact ⟨_, .base (.bl b), kit_ty (show kitB "bool" "str" = some false by decide +kernel)⟩
  | non => exact ⟨_, .base .non, kit_ty (by decide +kernel)⟩
  | lst h => exact ⟨_, .base (.lst h), kit_ty (show kitB "list" "str" = some false by decide +kernel)⟩
  | tup h => exact ⟨_, .base (.tup h), kit_ty (show kitB "tuple" "str" = some false by decide +kernel)⟩
theorem list1_lt (a b : Nat) : ([a] : List Nat) < [b] ↔ a < b := by
  constructor
  · intro h
    cases h with
    | rel h => exact h
    | cons h => cases h
  · intro h
    exact .rel h
theorem le_a (c : Nat) : (!decide ((⟨#[c]⟩ : Str).cps.toList < (Str.ofString "a").cps.toList)) = decide (97 ≤ c) := by
  have e : (Str.ofString "a").cps.toList = [97] := by decide +kernel
  rw [e, ← decide_not]
  apply decide_eq_decide.mpr
  show ¬ ([c] < [97]) ↔ _
  rw [list1_lt]; omega
theorem le_z (c : Nat) : (!decide ((Str.ofString "z").cps.toList < (⟨#[c]⟩ : Str).cps.toList)) = decide (c ≤ 122) := by
  have e : (Str.ofString "z").cps.toList = [122] := by decide +kernel
  rw [e, ← decide_not]
  apply decide_eq_decide.mpr
  show ¬ ([122] < [c]) ↔ _
  rw [list1_lt]; omega
theorem all_take {α : Type} {p : α → Bool} {l : List α} {i : Nat} {x : α} (h : l[i]? = some x) (a : (l.take i).all p = true) (b : p x = true) : (l.take (i + 1)).all p = true := by
  rw [List.take_add_one, h, List.all_append, a, Bool.true_and]
  show ([x] : List α).all p = true
  rw [List.all_cons, b]; rfl
theorem all_no {α : Type} {p : α → Bool} {l : List α} {i : Nat} {x : α} (h : l[i]? = some x) (b : p x = false) : l.all p = false := by
  cases e : l.all p with
  | false => rfl
  | true =>
    rw [List.all_eq_true.mp e x (List.mem_of_getElem? h)] at b
    cases b
theorem len_toList (z : Str) : z.cps.toList.length = z.length := by simp [Str.length]
theorem IsWord.ok {w : Str} (h : IsWord w) : wordS w = true := by
  unfold wordS
  rw [← len_toList, decide_eq_true h.lo, decide_eq_true h.hi, Bool.true_and, Bool.true_and, List.all_eq_true]
  intro c hc
  have := h.al c hc
  unfold okC
  rw [decide_eq_true this.1, decide_eq_true this.2]; rfl
theorem wordS_of {z : Str} (h : wordS z = true) : IsWord z := by
  unfold wordS at h
  rw [Bool.and_eq_true, Bool.and_eq_true, decide_eq_true_eq, decide_eq_true_eq, List.all_eq_true] at h
  refine ⟨by rw [len_toList]; exact h.1.1, by rw [len_toList]; exact h.1.2, fun c hc => ?_⟩
  have := h.2 c hc
  unfold okC at this
  rw [Bool.and_eq_true, decide_eq_true_eq, decide_eq_true_eq] at this
  exact this
def spIsWord : Sp := fun vs H Q _ => ∃ v, vs = [v] ∧ Thing H v ∧ Q (.bl (wordB v)) H
/-! ### own errors: an __init__ that says super().__init__(text) and stores fields -/
/-- the stores of an __init__: self.F = a parameter | a text -/
inductive Sts (ps : List Str) : List Stmt → List (Str × Sum Nat Str) → Prop
  | nil : Sts ps [] []
  | par {F p : Str} {i : Nat} {q1 q2 q3 q4 : Pos} {r : List Stmt} {fs : List (Str × Sum Nat Str)} (h : ps[i]? = some p) (t : Sts ps r fs) : Sts ps (.Assign [.Attribute (.Name "self" q1) F q2] (.Name p q3) q4 :: r) ((F, .inl i) :: fs)
  | con {F c : Str} {j : Nat} {q1 q2 q3 q4 : Pos} {r : List Stmt} {fs : List (Str × Sum Nat Str)} (t : Sts ps r fs) : Sts ps (.Assign [.Attribute (.Name "self" q1) F q2] (.Constant (.str c) j q3) q4 :: r) ((F, .inr c) :: fs)
def fldV (vs : List V) : Sum Nat Str → V
  | .inl i => vs.getD i .non
  | .inr c => .str c
def errF (vs : List V) : List (Str × Sum Nat Str) → List (Str × V) → List (Str × V)
  | [], acc => acc
  | p :: r, acc => errF vs r ((p.1, fldV vs p.2) :: acc)
/-- an exception while its __init__ runs -/
structure ErrAt (h0 h : Heap) (x C L : Addr) (m : Str → Option Value) (acc : List (Str × V)) (dd : Option Addr) : Prop where
  keep : ∀ b o, b ≠ x → h0.get? b = some o → h.get? b = some o
  sz : h0.objs.size ≤ h.objs.size
  ns : h.Ns L m
  obj : ∃ t1 : Addr, h.get? x = some ({ cls := .ref C, dict := dd, data := .fields #[.ref t1, .none, .none, .none, .bool false, .none] } : Obj)
  dct : match dd with | none => acc = [] | some dx => acc ≠ [] ∧ h0.objs.size ≤ dx ∧ dx ≠ x ∧ dx ≠ L ∧ ∃ mA, h.Ns1 dx mA ∧ ∀ f, RelO (acc.lookup f) (mA f)
theorem kept_but {K : PySem.W.Frag} {h h' : Heap} {x : Addr} (X : K.In h) (hx : K.lookup x = none) (k : ∀ b o, b ≠ x → h.get? b = some o → h'.get? b = some o) : K.In h' := fun a o e =>
  k a o (fun z => by rw [z, hx] at e; cases e) (X a o e)
/-- what the written part says of an error's class, at C; its __init__ at fI -/
structure ErrC (P : Program) (K : PySem.W.Frag) (C fI : Addr) (st : Stmt) (q : Str) (ps : List Str) (fs : List (Str × Sum Nat Str)) : Prop where
  cls : ∃ nm qn N bs bm sn sub ab col dd k0 k1 k2 k3 k5, K.lookup C = some (excClassObj nm qn C N bs bm true sn sub ab col dd k0 k1 k2 k3 k5 "ValueError.__new__") ∧ PySem.HandSPX.refsVE bm = true
  sa : PySem.W.findIn K (.ref C) "__setattr__" = some (some (.builtin "object.__setattr__"))
  ga : PySem.W.findIn K (.ref C) "__getattribute__" = some (some (.builtin "BaseException.__getattribute__"))
  gg : PySem.W.findIn K (.ref C) "__getattr__" = some none
  noF : ∀ p ∈ fs, PySem.W.findIn K (.ref C) p.1 = some none
  iC : PySem.W.findIn K (.ref C) "__init__" = some (some (.ref fI))
  tC : PySem.W.typeIn K (.ref fI) = some (.type "function")
  kC : PySem.W.keepIn K (.ref C) = true
  exC : PySem.W.subIn K (.ref C) (.type "BaseException") = some true
  veC : PySem.W.subIn K (.ref C) (.type "ValueError") = some true
  tyC : PySem.W.typeIn K (.ref C) = some (.type "type")
  hdC : PySem.W.hasDictIn K C = true
  su : PySem.W.ks_superIn K C C "__init__" = some (some (.builtin "ValueError.__init__"))
  mro : PySem.W.mroIn K C (.ref C) = some true
  te : PySem.W.exmOne K (.ref C) (.ref C) = some true
  op : PySem.W.nsIn K cStatics "thirdparty.any" = some none
  fn : ∃ (oc : Value) (od : Option Addr) (doc pm : Value) (an : Option Addr) (cda cc : Addr) (ct : Value) (osl : Array (Option Value)) (ccl : Value) (cdd : Option Addr) (vs : Array Value) (ccs : Array (Option Value)) (tf : Tok) (cl : Value) (cld : Option Addr) (csl : Array (Option Value)),
    K.lookup fI = some ⟨oc, od, .func (PySem.W.ksFn "__init__" q (defArgs st) (defBody st) (defScope st) .none .none doc pm an (.ref cda) ct cc), osl⟩ ∧ PySem.W.codeIn K (.ref cda) q = true ∧
    K.lookup cda = some ⟨ccl, cdd, .fields vs, ccs⟩ ∧ vs[2]? = some (.str P.main.file tf) ∧ K.lookup cc = some ⟨cl, cld, .cell (some (.ref C)), csl⟩
  hd : ∃ ar : Arg, ((defArgs st).posonlyargs ++ (defArgs st).args).head? = some ar ∧ ar.arg = "self"
  bd : ∀ (doc pm : Value) (an : Option Addr) (cda cc : Addr) (ct : Value) (us : List Value), us.length = ps.length + 1 → bindArgs (PySem.W.ksFn "__init__" q (defArgs st) (defBody st) (defScope st) .none .none doc pm an (.ref cda) ct cc) ⟨us, []⟩ = pure ((("self" : Str) :: ps).zip us)
  bo : ∃ (p0 p1 p2 p3 p4 p5 : Pos) (j : Nat) (msg : Str) (sts : List Stmt), defBody st = .Expr (.Call (.Attribute (.Call (.Name "super" p0) [] [] p1) "__init__" p2) [.Constant (.str msg) j p3] [] p4) p5 :: sts ∧ Sts ps sts fs ∧
    ∀ (L cda cc : Addr), ∃ pl : Sem Bool, eval (.Call (.Attribute (.Call (.Name "super" p0) [] [] p1) "__init__" p2) [.Constant (.str msg) j p3] [] p4) (PySem.W.ksEnv q (defScope st) L fI (.ref cda) cc) = (do
      let ov ← attributeBase (.Call (.Name "super" p0) [] [] p1) "__init__" (PySem.W.ksEnv q (defScope st) L fI (.ref cda) cc) (eval (.Call (.Name "super" p0) [] [] p1) (PySem.W.ksEnv q (defScope st) L fI (.ref cda) cc))
      standAt p2.atName
      let (f, first) ← holding [ov] (getMethod ov "__init__" pl)
      callWith p4 f first (backTo p4 (starEach [.Constant (.str msg) j p3] (PySem.W.ksEnv q (defScope st) L fI (.ref cda) cc))) [])
  sck : (defScope st).kind = .function
  scc : (defScope st).isCoroutine = false
  scg : (defScope st).isGenerator = false
  scn : ∀ x ∈ (defScope st).names, x.2 ≠ .cell
  scl : ∀ x ∈ (("self" : Str) :: ps), (defScope st).names.lookup x = some .local
  scs : (defScope st).names.lookup ("super" : Str) = some .globalImplicit
  scf : (defScope st).names.lookup ("__class__" : Str) = some .free
  nd : (("self" : Str) :: ps).Nodup
  top : (P.main.scope.names.lookup ("super" : Str)).isSome = false
section
open PySem PySem.W PySem.Calls PyProof.Rows PySem.HandSPX
variable {prog : Program} {w : World} {A : Around} {K : PySem.W.Frag} {C fI : Addr} {st : Stmt} {q : Str} {ps : List Str} {fs : List (Str × Sum Nat Str)}
theorem err_stores (T : ErrC prog K C fI st q ps fs) {h0 : Heap} {x L : Addr} {m : Str → Option Value} {vs : List V} {env : Env} {E : Value → Shared → Prop} (X0 : K.In h0) (hnx : K.lookup x = none) (hLx : L ≠ x)
    (hself : m "self" = some (.ref x)) (hpar : ∀ (i : Nat) p, ps[i]? = some p → ∃ v u, vs[i]? = some v ∧ RelV v u ∧ m p = some u)
    (hk : env.scope.kind = .function) (hlo : env.locals = L) (hkl : ∀ y ∈ (("self" : Str) :: ps), env.kindOf y = some .local) (hdb : ∀ y ∈ (("self" : Str) :: ps), (y == ("__debug__" : Str)) = false) :
    ∀ {sts : List Stmt} {fs' : List (Str × Sum Nat Str)}, Sts ps sts fs' → (∀ p ∈ fs', p ∈ fs) → ∀ {acc : List (Str × V)} {dd : Option Addr} {s : Shared} {Q : Flow → Shared → Prop}, ErrAt h0 s.heap x C L m acc dd → acc.length + fs'.length ≤ 100 →
      (∀ h' tk dd', ErrAt h0 h' x C L m (errF vs fs' acc) dd' → Q .next { s with heap := h', toks := tk }) → wpAny (model prog w) A (execs sts env) Q E s := by
  obtain ⟨nm, qn, N, bs, bm, sn, sub, ab, col, dd0, k0, k1, k2, k3, k5, hC, hbm⟩ := T.cls
  have hcl : clsIn K C = some { name := nm, bases := bs, mro := .ref C :: bm, ns := N, qualname := qn, hasDict := true, slotNames := sn, subclasses := sub, abstract := ab, collection := col, hasDel := false } := by unfold clsIn; rw [hC] <;> rfl
  have ldl : ∀ {y : Str} {u : Value} {pos : Pos} {s : Shared} {Q : Value → Shared → Prop}, y ∈ (("self" : Str) :: ps) → s.heap.Ns L m → m y = some u → Q u s → wpAny (model prog w) A (eval (.Name y pos) env) Q E s :=
    fun {y u pos s Q} hy hn hv h => wpAny_Name (wpAny_loadName_local hk (hkl y hy) (by rw [hlo]; exact hn) hv h) (hdb y hy)
  have hsf : ("self" : Str) ∈ (("self" : Str) :: ps) := List.mem_cons_self
  -- one store
  have one : ∀ {F : Str} {y : V} {u : Value} {acc : List (Str × V)} {dd : Option Addr} {s : Shared} {Q : Unit → Shared → Prop}, findIn K (.ref C) F = some none → RelV y u → ErrAt h0 s.heap x C L m acc dd → acc.length ≤ 99 →
      (∀ h' tk dd', ErrAt h0 h' x C L m ((F, y) :: acc) dd' → Q () { s with heap := h', toks := tk }) → wpAny (model prog w) A (setAttr (.ref x) F u) Q E s := by
    intro F y u acc dd s Q hF ry S hl hq
    obtain ⟨kp, sz, hn, ⟨t1, hx⟩, hd⟩ := S
    have X : K.In s.heap := kept_but X0 hnx kp
    obtain ⟨hp, g, d, tk, os⟩ := s
    obtain ⟨oL, esL, epL, hoL, hrL⟩ := id hn
    cases dd with
    | none =>
      have hd : acc = [] := hd
      subst hd
      refine set_plain X (ox := excO C t1) (od := none) ⟨hx, rfl, rfl, trivial⟩ T.sa ?_
      refine exc_osa X hx hcl (show refsVE (.ref C :: bm) = true from hbm) rfl hF (fun h₃ tk₃ dx k₃ dn dne hx₃ hn₃ => ?_)
      have dL : dx ≠ L := fun z => by
        have := Heap.lt_size hoL
        rw [← z] at this
        exact absurd (Nat.lt_of_lt_of_le this dn) (Nat.lt_irrefl _)
      have z3 : dx < h₃.objs.size := by
        obtain ⟨o, _, _, e, _⟩ := hn₃
        exact Heap.lt_size e
      refine hq h₃ tk₃ (some dx) ⟨fun b o hb e => k₃ b o hb (kp b o hb e), Nat.le_of_lt (Nat.lt_of_le_of_lt (Nat.le_trans sz dn) z3), ⟨oL, esL, epL, k₃ _ _ hLx hoL, hrL⟩, ⟨t1, hx₃⟩, ?_⟩
      exact ⟨List.cons_ne_nil _ _, Nat.le_trans sz dn, dne, dL, _, hn₃, relO_put (fs := []) ry fun g => True.intro⟩
    | some dx =>
      obtain ⟨_, d1, d2, d3, mA, hns, rel⟩ := hd
      have hw := within_of rel
      obtain ⟨oD, _, _, hoD, _, _⟩ := hns.count hw
      refine set_plain X (ox := { cls := .ref C, dict := some dx, data := .fields #[.ref t1, .none, .none, .none, .bool false, .none] }) (od := some oD) ⟨hx, rfl, rfl, hoD⟩ T.sa ?_
      refine PySem.OEX.osa_old X hx hns hw (by rw [List.length_map]; omega) hcl (show refsVE (.ref C :: bm) = true from hbm) rfl hF (fun h' tk' k hn' => ?_)
      have z3 : dx < h'.objs.size := by
        obtain ⟨o, _, _, e, _⟩ := hn'
        exact Heap.lt_size e
      refine hq h' tk' (some dx) ⟨fun b o hb e => k b o (fun z => ?_) (kp b o hb e), Nat.le_of_lt (Nat.lt_of_le_of_lt d1 z3), ⟨oL, esL, epL, k _ _ (Ne.symm d3) hoL, hrL⟩, ⟨t1, k _ _ (Ne.symm d2) hx⟩, ⟨List.cons_ne_nil _ _, d1, d2, d3, _, hn', relO_put ry rel⟩⟩
      have := Heap.lt_size e
      rw [z] at this
      exact absurd (Nat.lt_of_lt_of_le this d1) (Nat.lt_irrefl _)
  intro sts fs' S
  induction S with
  | nil =>
    intro hfs acc dd s Q S hl hq
    exact wpAny_execs_nil (by have := hq s.heap s.toks dd S; exact this)
  | @par F p i q1 q2 q3 q4 r fs1 h t ih =>
    intro hfs acc dd s Q S hl hq
    obtain ⟨v, u, hv, ru, hm⟩ := hpar i p h
    have hp : p ∈ (("self" : Str) :: ps) := List.mem_cons_of_mem _ (List.mem_of_getElem? h)
    refine wpAny_execs_cons (plainObj_wpAny_Assign_Attribute ?_)
    refine ldl hp S.ns hm (ldl hsf S.ns hself ?_)
    have hl2 : acc.length + (fs1.length + 1) ≤ 100 := hl
    refine one (hfs _ List.mem_cons_self |> T.noF _) ru S (by omega) fun h' tk dd' S' => ?_
    refine ih (fun z hz => hfs z (List.mem_cons_of_mem _ hz)) (s := { s with heap := h', toks := tk }) S' (by rw [List.length_cons]; omega) fun h'' tk' dd'' S'' => ?_
    have e : errF vs ((F, Sum.inl i) :: fs1) acc = errF vs fs1 ((F, v) :: acc) := by
      show errF vs fs1 ((F, vs.getD i .non) :: acc) = _
      rw [List.getD_eq_getElem?_getD, hv]; rfl
    rw [e] at hq
    exact hq h'' tk' dd'' S''
  | @con F c j q1 q2 q3 q4 r fs1 t ih =>
    intro hfs acc dd s Q S hl hq
    refine wpAny_execs_cons (plainObj_wpAny_Assign_Attribute ?_)
    refine Calls.Constant_str (ldl (s := { s with toks := s.toks + 1 }) hsf S.ns hself ?_)
    have hl2 : acc.length + (fs1.length + 1) ≤ 100 := hl
    refine one (y := .str c) (s := { s with toks := s.toks + 1 }) (hfs _ List.mem_cons_self |> T.noF _) ⟨_, rfl⟩ S (by omega) fun h' tk dd' S' => ?_
    refine ih (fun z hz => hfs z (List.mem_cons_of_mem _ hz)) (s := { s with heap := h', toks := tk }) S' (by rw [List.length_cons]; omega) fun h'' tk' dd'' S'' => ?_
    exact hq h'' tk' dd'' S''
end
section
open PySem PySem.W PySem.Calls PyProof.Rows PySem.HandSPX
variable {prog : Program} {w : World} {A : Around} {K : PySem.W.Frag} {C fI : Addr} {st : Stmt} {q : Str} {ps : List Str} {fs : List (Str × Sum Nat Str)}
theorem call_mw (T : ErrC prog K C fI st q ps fs) {E : Value → Shared → Prop} {h : Heap} {g : Array GenState} {d : Drawn} {t : Nat} {os : OsState} {u e t0 : Addr} {rest : List Value} {Q : Value → Shared → Prop} (X : K.In h)
    (he : h.get? e = some (excO C t0)) (hu : h.get? u = some (kxs_mw "ValueError.__init__" e)) (hrest : rest.length ≤ sizeLine)
    (hq : ∀ h' t1, (∀ b o, b ≠ e → h.get? b = some o → h'.get? b = some o) → h'.get? e = some (excO C t1) → Q .none ⟨h', g, d, t, os⟩) :
    wpAny (model prog w) A (call (.ref u) rest) Q E ⟨h, g, d, t, os⟩ := by
  obtain ⟨nm, qn, N, bs, bm, sn, sub, ab, col, dd0, k0, k1, k2, k3, k5, hC, hbm⟩ := T.cls
  refine wpAny_call (codeAny_of_tree ?_)
  show wpAny _ A.in1 (callAny (.ref u) ⟨rest, []⟩) _ _ _
  simp only [callAny]
  refine wpAny_bind (wpAny_load hu ?_)
  simp only [kxs_mw, show (Value.type "method-wrapper" == Value.type "method" || Value.type "method-wrapper" == Value.type "builtin_function_or_method" || Value.type "method-wrapper" == Value.type "method-wrapper") = true by decide, if_true]
  refine KFB.if_so (by decide) ?_
  refine wpAny_bind (check_bound_init F.excBase_ValueError.toExcCallFacts (X _ _ hC) he rfl ?_)
  refine wpAny_bind (wpAny_pure (wpAny_pure ?_))
  refine ⟨plainId_quiet F.excBase_ValueError.init.plain _, codeAny_builtin F.excBase_ValueError.initEntry ?_⟩
  exact exc_init_tree (cls := .ref C) (t0 := t0) (dv := none) (c2 := .none) (c3 := .none) (b4 := .bool false) he hrest fun h' k e1 _ => hq h' _ k e1
theorem err_initA {args : Args} (T : ErrC prog K C fI st q ps fs) {R : Result → Shared → Prop} {s : Shared} {x t0 : Addr} {vs : List V} {us : List Value} {mg : Str → Option Value} (X : K.In s.heap) (hlim : s.heap.NoLimit)
    (G : s.heap.Ns mainGlobals mg) (hsup : mg "super" = none) (B : ∃ mb, s.heap.Ns builtinsNs mb ∧ ∀ y : Str, y ≠ "__name__" → mb y = bootBuiltins y)
    (hx : s.heap.get? x = some (excO C t0)) (hnx : K.lookup x = none) (hroom : A.depth < recursionLimit) (hv : Vals vs us) (hlen : vs.length = ps.length) (hfs : fs.length ≤ 90) (hdb : ∀ y ∈ (("self" : Str) :: ps), (y == ("__debug__" : Str)) = false)
    (hba : ∀ (doc pm : Value) (an : Option Addr) (cda cc : Addr) (ct : Value), bindArgs (PySem.W.ksFn "__init__" q (defArgs st) (defBody st) (defScope st) .none .none doc pm an (.ref cda) ct cc) args = pure ((("self" : Str) :: ps).zip (.ref x :: us)))
    (hq : ∀ h' tk dd L m, L ≠ x → s.heap.objs.size ≤ L → ErrAt s.heap h' x C L m (errF vs fs []) dd → R (.ok (.ret .none)) { s with heap := h', toks := tk }) :
    codeAny (model prog w) A (.call (.ref fI) args) R s := by
  obtain ⟨oc, od, doc, pm, an, cda, cc, ct, osl, ccl, cdd, cvs, ccs, tf, cl, cld, csl, ho, hcd, hcode, hcv, hcell⟩ := T.fn
  obtain ⟨nm, qn, N, bs, bm, sn, sub, ab, col, dd0, k0, k1, k2, k3, k5, hC, hbm⟩ := T.cls
  obtain ⟨p0, p1, p2, p3, p4, p5, j, msg, sts, hbody, hsts, hev⟩ := T.bo
  obtain ⟨ar, har, hself⟩ := T.hd
  have hcl : clsIn K C = some { name := nm, bases := bs, mro := .ref C :: bm, ns := N, qualname := qn, hasDict := true, slotNames := sn, subclasses := sub, abstract := ab, collection := col, hasDel := false } := by unfold clsIn; rw [hC] <;> rfl
  have hul : us.length = ps.length := by rw [← hlen]; exact hv.length.symm
  have hbind := BindsTo.of_eq (s := s) (hba doc pm an cda cc ct)
  have binK : ∀ y ∈ ((("self" : Str) :: ps).zip (Value.ref x :: us)), (defScope st).names.lookup y.1 = some .local := fun ⟨n, u⟩ hy => T.scl n (List.of_mem_zip hy).1
  refine ks_codeAny_call_defAt (fd := ksFn "__init__" q (defArgs st) (defBody st) (defScope st) .none .none doc pm an (.ref cda) ct cc) (body := defBody st) (binds := (("self" : Str) :: ps).zip (Value.ref x :: us)) hroom (X _ _ ho) rfl hlim (codeRec_of X hcd) rfl hbind T.scn binK (fun h₁ hns hk₁ => ?_) T.scc T.scg T.sck
  have X₁ : K.In h₁ := X.keeps hk₁
  have hx₁ := hk₁ _ _ hx
  have hLx : s.heap.objs.size ≠ x := Nat.ne_of_gt (Heap.lt_size hx)
  have sz1 : s.heap.objs.size < h₁.objs.size := hns.lt
  generalize hm : (fun y => (List.reverse ((("self" : Str) :: ps).zip (Value.ref x :: us))).lookup y) = m at hns
  have key : ∀ (l1 : List Str) (l2 : List Value) (i : Nat) (y : Str) (u : Value), l1.Nodup → l1[i]? = some y → l2[i]? = some u → (List.reverse (l1.zip l2)).lookup y = some u := by
    intro l1
    induction l1 with
    | nil => intro l2 i y u _ h _; simp at h
    | cons a r ih =>
      intro l2 i y u nd h1 h2
      cases l2 with
      | nil => simp at h2
      | cons b l2 =>
        rw [List.zip_cons_cons, List.reverse_cons, List.lookup_append]
        cases i with
        | zero =>
          simp only [List.getElem?_cons_zero, Option.some.injEq] at h1 h2
          subst h1 h2
          have : (List.reverse (r.zip l2)).lookup a = none := by
            rw [List.lookup_eq_none_iff]
            intro p hp
            have hp' := List.mem_reverse.mp hp
            have := (List.of_mem_zip (show (p.1, p.2) ∈ r.zip l2 from hp')).1
            simp only [beq_eq_false_iff_ne, ne_eq, bne_iff_ne]
            intro e
            rw [e] at nd
            exact (List.nodup_cons.mp nd).1 this
          rw [this]
          simp [List.lookup]
        | succ i =>
          rw [ih l2 i y u (List.nodup_cons.mp nd).2 h1 h2]; rfl
  have mself : m "self" = some (.ref x) := by rw [← hm]; exact key _ _ 0 _ _ T.nd rfl rfl
  have mpar : ∀ (i : Nat) p, ps[i]? = some p → ∃ v u, vs[i]? = some v ∧ RelV v u ∧ m p = some u := fun i p hp => by
    have hi : i < vs.length := by rw [hlen]; exact (List.getElem?_eq_some_iff.mp hp).1
    obtain ⟨u, hu, ru⟩ := hv.get (List.getElem?_eq_getElem hi)
    refine ⟨_, u, List.getElem?_eq_getElem hi, ru, ?_⟩
    rw [← hm]
    exact key _ _ (i + 1) _ _ T.nd hp hu
  have hDget : h₁.get? C = some (excClassObj nm qn C N bs bm true sn sub ab col dd0 k0 k1 k2 k3 k5 "ValueError.__new__") := X₁ _ _ hC
  obtain ⟨pl, hev⟩ := hev s.heap.objs.size cda cc
  show _root_.PySem.wpAt _ (A.deeper (ksEnv q (defScope st) s.heap.objs.size fI (.ref cda) cc)) (.func (defBody st) (ksEnv q (defScope st) s.heap.objs.size fI (.ref cda) cc)) (execs (defBody st) (ksEnv q (defScope st) s.heap.objs.size fI (.ref cda) cc)) _ _ _
  generalize henv : ksEnv q (defScope st) s.heap.objs.size fI (.ref cda) cc = env at hev ⊢
  have e1 : env.scope = defScope st := by rw [← henv]
  have e2 : env.locals = s.heap.objs.size := by rw [← henv]
  have e3 : env.func = some fI := by rw [← henv]
  have e4 : env.code = .ref cda := by rw [← henv]
  have e5 : env.globals = mainGlobals := by rw [← henv]
  have e6 : env.builtins = builtinsNs := by rw [← henv]
  have e7 : env.cells.lookup ("__class__" : Str) = some cc := by rw [← henv]; rfl
  have kd : ∀ y, env.kindOf y = (defScope st).names.lookup y := fun y => by rw [← henv]; rfl
  have hkf : env.scope.kind = .function := by rw [e1]; exact T.sck
  generalize hbb : defBody st = body
  rw [hbb] at hbody
  have hbody2 : execs body env = execs (.Expr (.Call (.Attribute (.Call (.Name "super" p0) [] [] p1) "__init__" p2) [.Constant (.str msg) j p3] [] p4) p5 :: sts) env := by rw [hbody]
  rw [hbody2]
  refine ks_wpAt_execs_cons (ks_wpAt_Expr_any ?_ (by simp [interactive, hkf]) rfl)
  refine ks_wpAt_MethodCall (pl := pl) ?_ hev
  refine ks_wpAt_super_base ((kd _).trans T.scs) ((kd _).trans T.scf) (by decide) e3 (hk₁ _ _ (X _ _ ho)) rfl har e4 (X₁ _ _ hcode) rfl hcv (by simp) T.top ?_
  obtain ⟨mb, hB1, hB2⟩ := B
  refine ks_loadName_global hkf ((kd _).trans T.scs) (loadGlobal_builtin (by rw [e5]; exact G.keeps hk₁) hsup (by rw [e6]; exact hB1.keeps hk₁) ((hB2 _ (by decide)).trans (by decide +kernel)) ⟨rfl, ?_⟩)
  refine wpAny_loadName_free hkf ((kd _).trans T.scf) e7 ⟨_, X₁ _ _ hcell, rfl⟩ ?_
  rw [hself]
  refine wpAny_loadName_local hkf ((kd _).trans (T.scl _ List.mem_cons_self)) (by rw [e2]; exact hns) mself ?_
  refine ks_wpAny_isType_cls hDget rfl ⟨rfl, ?_⟩
  obtain ⟨hp0, g, d, tk, os⟩ := s
  refine ks_wpAny_call_super (ox := excO C t0) hDget rfl hx₁ rfl (fun c e => nomatch e) (looks_mroIn X₁ T.mro) (fun h₂ e₂ k₂ => ?_)
  have X₂ : K.In h₂ := X₁.keeps k₂
  have I₂ : InstAt h₂ x (excO C t0) C none := ⟨k₂ _ _ hx₁, rfl, rfl, trivial⟩
  have hsu := T.su
  unfold ks_superIn at hsu
  rw [hcl] at hsu
  refine kxs_getMethod kxs_ValueError e₂ (looks_opaque X₂ T.op) (l₀ := .ref C :: bm) ?_ rfl X₂ hsu (I₂.type.andThen (looks_subIn X₂ T.veC)) (ks_ne X₂ I₂ hcl) (by decide) ?_
  · exact fun A Q E s k q => wpAny_bind ((looks_clsIn X₂ hcl) A _ E s k (wpAny_pure q))
  have hu : (h₂.push (kxs_mw "ValueError.__init__" x)).get? h₂.objs.size = some (kxs_mw "ValueError.__init__" x) := Heap.get?_push_at rfl rfl
  have k₃ : ∀ b o, h₂.get? b = some o → (h₂.push (kxs_mw "ValueError.__init__" x)).get? b = some o := fun b o e => Heap.get?_push_of_some _ e
  show wpAny _ _ (callWith p4 (.ref h₂.objs.size) [] (backTo p4 (starEach [.Constant (.str msg) j p3] env)) []) _ _ _
  refine kxs_callWith (i := "ValueError.__init__") (x := x) rfl (evalArgs_plain ?_)
  show wpAny _ _ (spliced [(false, eval (.Constant (.str msg) j p3) env)]) _ _ _
  refine spliced_cons (Constant_str (spliced_nil ⟨hu, ?_⟩))
  refine call_mw T (X₂.keeps k₃) (k₃ _ _ (k₂ _ _ hx₁)) hu (by show 1 ≤ sizeLine; decide) fun h₄ t1 k₄ hx₄ => ?_
  show _root_.PySem.wpAt _ _ _ (execs sts env) _ _ _
  refine wpAt_of_wpAny ?_
  have keep4 : ∀ b o, b ≠ x → hp0.get? b = some o → h₄.get? b = some o := fun b o hb e => k₄ b o hb (k₃ _ _ (k₂ _ _ (hk₁ _ _ e)))
  obtain ⟨oL, esL, epL, hoL, hrL⟩ := id hns
  have hoL4 : h₄.get? hp0.objs.size = some oL := k₄ _ _ hLx (k₃ _ _ (k₂ _ _ hoL))
  have S0 : ErrAt hp0 h₄ x C hp0.objs.size m [] none := ⟨keep4, Nat.le_of_lt (Heap.lt_size hoL4), ⟨oL, esL, epL, hoL4, hrL⟩, ⟨t1, hx₄⟩, rfl⟩
  refine err_stores T (h0 := hp0) X hnx hLx mself mpar hkf e2 (fun y hy => (kd y).trans (T.scl y hy)) hdb hsts (fun _ z => z) (acc := []) (s := ⟨h₄, g, d, _, os⟩) S0 (by rw [List.length_nil]; omega) fun h' tk' dd' S' => ?_
  exact hq h' tk' dd' hp0.objs.size m hLx (Nat.le_refl _) S'
theorem err_init (T : ErrC prog K C fI st q ps fs) {R : Result → Shared → Prop} {s : Shared} {x t0 : Addr} {vs : List V} {us : List Value} {mg : Str → Option Value} (X : K.In s.heap) (hlim : s.heap.NoLimit)
    (G : s.heap.Ns mainGlobals mg) (hsup : mg "super" = none) (B : ∃ mb, s.heap.Ns builtinsNs mb ∧ ∀ y : Str, y ≠ "__name__" → mb y = bootBuiltins y)
    (hx : s.heap.get? x = some (excO C t0)) (hnx : K.lookup x = none) (hroom : A.depth < recursionLimit) (hv : Vals vs us) (hlen : vs.length = ps.length) (hfs : fs.length ≤ 90) (hdb : ∀ y ∈ (("self" : Str) :: ps), (y == ("__debug__" : Str)) = false)
    (hq : ∀ h' tk dd L m, L ≠ x → s.heap.objs.size ≤ L → ErrAt s.heap h' x C L m (errF vs fs []) dd → R (.ok (.ret .none)) { s with heap := h', toks := tk }) :
    codeAny (model prog w) A (.call (.ref fI) ⟨.ref x :: us, []⟩) R s :=
  err_initA T X hlim G hsup B hx hnx hroom hv hlen hfs hdb (fun doc pm an cda cc ct => T.bd doc pm an cda cc ct (.ref x :: us) (by rw [List.length_cons, ← hlen]; exact congrArg (· + 1) hv.length.symm)) hq
end
section
open PySem PySem.Spec PyProof.Rows
variable {X : Cx} {C fI : Addr} {st : Stmt} {q : Str} {ps : List Str} {fs : List (Str × Sum Nat Str)}
/-- what the making of such an error leaves: its class, its own dict (new), the fields -/
def errQ (C : Addr) (fs : List (Str × Sum Nat Str)) (vs : List V) (H1 : Hp) (Q : XK) : Prop := match fs with
  | [] => Q (.ref C) none H1
  | p :: r => ∀ d, H1 d = none → Q (.ref C) (some d) (upd H1 d (.xd (errF vs (p :: r) [])))
def tErr (C : Addr) (n : Nat) (fs : List (Str × Sum Nat Str)) (ta : TA) : L2.St → Hp → XK → Prop := fun σ H Q => ta σ H fun vs H1 => vs.length = n ∧ errQ C fs vs H1 Q
theorem errF_nil {vs : List V} : ∀ {fs : List (Str × Sum Nat Str)} {acc : List (Str × V)}, errF vs fs acc = [] → fs = [] ∧ acc = []
  | [], acc, e => ⟨rfl, e⟩
  | p :: r, acc, e => by
    obtain ⟨_, h⟩ := errF_nil (fs := r) (acc := (p.1, fldV vs p.2) :: acc) e
    cases h
theorem err_made (T : ErrC X.prog X.K C fI st q ps fs) {pins : List (Addr × Obj)} {σ : L2.St} {H1 : Hp} {s1 : Shared} {Q : XK} {vs : List V} {us : List Value} {k : Nat} (hsup : X.mg "super" = none) (hr : Room k X.A) (hfs : fs.length ≤ 90)
    (hdb : ∀ y ∈ (("self" : Str) :: ps), (y == ("__debug__" : Str)) = false) (I1 : Inv X pins σ H1 s1) (r : Vals vs us) (hl : vs.length = ps.length) (hz : us.length ≤ sizeLine)
    (q1 : errQ C fs vs H1 Q) :
    wpAny (model X.prog X.w) X.A (call (.ref C) us) (MkP X pins σ Q) X.xe s1 := by
  obtain ⟨nm, qn, N, bs, bm, sn, sub, ab, col, dd0, k0, k1, k2, k3, k5, hC, hbm⟩ := T.cls
  have hlim := I1.nolimit
  have KX := I1.kIn
  have G := I1.mod.glob.keeps I1.bk
  have B : ∃ mb, s1.heap.Ns builtinsNs mb ∧ ∀ y : Str, y ≠ "__name__" → mb y = bootBuiltins y := by
    obtain ⟨mb, b1, b2⟩ := I1.mod.blt
    exact ⟨mb, b1.keeps I1.bk, b2⟩
  obtain ⟨hp, g, dr, tk, os⟩ := s1
  have kk : ∀ b o, hp.get? b = some o → ((hp.push (PySem.W.kdv_tup us)).push (PySem.HandSPX.excO C hp.objs.size)).get? b = some o := fun b o e => Heap.get?_push_of_some _ (Heap.get?_push_of_some _ e)
  have hget : ((hp.push (PySem.W.kdv_tup us)).push (PySem.HandSPX.excO C hp.objs.size)).get? (hp.objs.size + 1) = some (PySem.HandSPX.excO C hp.objs.size) := by heap_get
  have hnx : X.K.lookup (hp.objs.size + 1) = none := by
    cases e : X.K.lookup (hp.objs.size + 1) with
    | none => rfl
    | some o =>
      have z : hp.get? (hp.objs.size + 1) = some o := KX _ _ e
      exact absurd (Nat.lt_of_succ_lt (Heap.lt_size z)) (Nat.lt_irrefl _)
  refine wpAny_call (PySem.HandSPX.call_own F.excBase_ValueError (fun Y => PySem.HandSPX.refsVE_contains Y bm hbm) (KX _ _ hC) (PySem.W.looks_findIn KX T.iC) (fun self => PySem.W.bind_fn KX self T.tC) hz ?_)
  have hdp := hr.dp
  refine err_init T (vs := vs) (mg := X.mg) (s := ⟨(hp.push (PySem.W.kdv_tup us)).push (PySem.HandSPX.excO C hp.objs.size), g, dr, tk, os⟩) (KX.keeps kk) (hlim.keeps kk) (G.keeps kk) hsup (let ⟨mb, b1, b2⟩ := B; ⟨mb, b1.keeps kk, b2⟩) hget hnx ?_ r hl hfs hdb fun h' tk' dd L m hLx hLz S => ?_
  · show X.A.depth + 1 < recursionLimit
    omega
  obtain ⟨kp, sz, hn, ⟨t1, hx⟩, hd⟩ := S
  have e2 : ((hp.push (PySem.W.kdv_tup us)).push (PySem.HandSPX.excO C hp.objs.size)).objs.size = hp.objs.size + 2 := by simp [Heap.size_push]
  have old0 : ∀ b o, hp.get? b = some o → h'.get? b = some o := fun b o e => kp b o (Nat.ne_of_lt (Nat.lt_succ_of_lt (Heap.lt_size e))) (kk b o e)
  obtain ⟨G', g1, g2⟩ := restrict h' fun b => decide (b ≠ hp.objs.size + 1)
  have gk : ∀ b, b ≠ hp.objs.size + 1 → G'.get? b = h'.get? b := fun b hb => g1 b (decide_eq_true hb)
  have ge : G'.get? (hp.objs.size + 1) = none := g2 _ (by simp)
  have old : ∀ b o, hp.get? b = some o → G'.get? b = some o := fun b o e => (gk b (Nat.ne_of_lt (Nat.lt_succ_of_lt (Heap.lt_size e)))).trans (old0 b o e)
  have sub2 : ∀ b o, G'.get? b = some o → h'.get? b = some o := fun b o e => by
    by_cases hb : b = hp.objs.size + 1
    · rw [hb, ge] at e; cases e
    · rw [← gk b hb]; exact e
  refine ⟨rfl, ?_⟩
  show MkP X pins σ Q (.ref (hp.objs.size + 1)) ⟨h', g, dr, tk', os⟩
  cases dd with
  | none =>
    have hd : errF vs fs [] = [] := hd
    obtain ⟨rfl, _⟩ := errF_nil hd
    have J : Inv X pins σ H1 ⟨G', g, dr, tk', os⟩ := I1.kept (t' := tk') old
    exact ⟨hp.objs.size + 1, _, _, ⟨G', g, dr, tk', os⟩, H1, .ref C, none, rfl, J, sub2, ge, hx, ⟨rfl, rfl⟩, rfl, rfl, I1.hok.fresh (Nat.le_succ _), rfl, I1.bare, raises_own T.exC T.tyC, q1⟩
  | some dx =>
    obtain ⟨d0, d1, d2, d3, mA, hns, rel⟩ := hd
    rw [e2] at d1
    have hdx : hp.objs.size ≤ dx := Nat.le_trans (Nat.le_add_right _ 2) d1
    have nd : H1 dx = none := I1.hok.fresh hdx
    have ob : ObjOk X.prog X.w (upd H1 dx (.xd (errF vs fs []))) G' dx (.xd (errF vs fs [])) := ⟨mA, hns.at (fun o q => (gk dx d2).trans q), rel⟩
    have J : Inv X pins σ (upd H1 dx (.xd (errF vs fs []))) ⟨G', g, dr, tk', os⟩ := I1.laid (t' := tk') old hdx ob
    refine ⟨hp.objs.size + 1, _, _, ⟨G', g, dr, tk', os⟩, _, .ref C, some dx, rfl, J, sub2, ge, hx, ⟨rfl, rfl⟩, rfl, rfl, ?_, rfl, I1.bare, raises_own T.exC T.tyC, ?_⟩
    · rw [upd_ne (Ne.symm d2)]
      exact I1.hok.fresh (Nat.le_succ _)
    · cases fs with
      | nil =>
        exact absurd rfl d0
      | cons p r => exact q1 dx nd
/-- C(e, ..) -/
theorem pmk_err {x : Str} {e : Expr} {es : List Expr} {ta : TA} {p pos : Pos} {k : Nat} (T : ErrC X.prog X.K C fI st q ps fs) (hm : X.mg x = some (.ref C)) (hsup : X.mg "super" = none) (hr : Room k X.A) (ha : PA X (e :: es) ta) (hg : Gl X x := by rfl)
    (hfs : fs.length ≤ 90 := by decide) (hps : ps.length ≤ 90 := by decide) (hdb : ∀ y ∈ (("self" : Str) :: ps), (y == ("__debug__" : Str)) = false := by decide) (hd : (x == ("__debug__" : Str)) = false := by decide)
    (he : starEach (e :: es) X.env = (false, eval e X.env) :: starEach es X.env := by rfl) (hpl : (backTo pos (starEach es X.env)).any (·.1) = false := by rfl) :
    PMk X (.Call (.Name x p) (e :: es) [] pos) (tErr C ps.length fs ta) := by
  intro pins s σ H Q I h
  refine wpAny_Call_Name_kw (ld_glob I hg hm ?_ hd)
  refine PySem.W.callWith_K (h₀ := X.base) I.ok.mod.kin T.kC (thn (ha.run pos pins s σ H _ I h) fun us s1 hh => ?_) he hpl
  obtain ⟨vs, H1, I1, r1, hl, q1⟩ := hh
  refine ⟨I1.kIn, ?_⟩
  exact err_made T hsup hr hfs hdb I1 r1 hl (by rw [List.nil_append, ← r1.length, hl, sizeLine_eq]; omega) q1
/-- C() -/
theorem pmk_err0 {x : Str} {p pos : Pos} {k : Nat} (T : ErrC X.prog X.K C fI st q [] fs) (hm : X.mg x = some (.ref C)) (hsup : X.mg "super" = none) (hr : Room k X.A) (hg : Gl X x := by rfl)
    (hfs : fs.length ≤ 90 := by decide) (hd : (x == ("__debug__" : Str)) = false := by decide) :
    PMk X (.Call (.Name x p) [] [] pos) (tErr C 0 fs tNil) := by
  intro pins s σ H Q I h
  refine wpAny_Call_Name_kw (ld_glob I hg hm ?_ hd)
  refine PySem.W.callWith_K0 I.kIn T.kC ?_
  obtain ⟨_, q1⟩ := h
  exact err_made T (vs := []) (us := []) hsup hr hfs (by decide) I .nil rfl (Nat.zero_le _) q1
end
/-! ### several except clauses, with or without a name -/
section
open PySem PySem.Spec PyProof.Rows
abbrev Cls1 := Value × Option Nat × (Addr → Value → Option Addr → TS)
def endsAs (i : Nat) (D : Ends) : Ends := { nx := fun σ' H' => D.nx (σ'.set i none) H', rt := D.rt, bk := fun σ' H' => D.bk (σ'.set i none) H', ct := fun σ' H' => D.ct (σ'.set i none) H' }
def wCl (D : Ends) (on : Option Nat) (ts : Addr → Value → Option Addr → TS) (a : Addr) (cls : Value) (d : Option Addr) (σ : L2.St) (H : Hp) : Prop := match on with
  | none => ts a cls d D σ H
  | some i => ts a cls d (endsAs i D) (σ.set i (some (.ref a))) H
/-- what the clauses wish of an exception of the body, one after the other -/
def wManyA (K : PySem.W.Frag) (Wout : WX) (D : Ends) : List Cls1 → WX
  | [] => Wout
  | (c, on, ts) :: r => fun cls d σ H => ∃ b, PySem.W.exmOne K cls c = some b ∧ (b = true → ∀ a, H a = none → wCl D on ts a cls d σ H) ∧ (b = false → wManyA K Wout D r cls d σ H)
inductive HdsA (X : Cx) : List ExceptHandler → List Cls1 → Prop
  | nil : HdsA X [] []
  | cons {x : Str} {c : Value} {ts : Addr → Value → Option Addr → TS} {b₀ : Stmt} {suite : List Stmt} {np pos' : Pos} {hds : List ExceptHandler} {l : List Cls1} (hc : Names X x c)
      (hsu : ∀ (a : Addr) (oe : Obj) (cls : Value) (d : Option Addr) (pn : List (Addr × Obj)), Zc cls d oe → (∃ vs, oe.data = .fields vs) → PSs (X.suite a ((a, oe) :: pn)) (b₀ :: suite) (ts a cls d)) (r : HdsA X hds l) :
      HdsA X (.ExceptHandler (some (.Name x np)) none (b₀ :: suite) pos' :: hds) ((c, none, ts) :: l)
  | consA {x n : Str} {c : Value} {i : Nat} {ts : Addr → Value → Option Addr → TS} {b₀ : Stmt} {suite : List Stmt} {np pos' : Pos} {hds : List ExceptHandler} {l : List Cls1} (hc : Names X x c) (hi : X.N[i]? = some n) (hln : X.env.kindOf n = some .local)
      (hsu : ∀ (a : Addr) (oe : Obj) (cls : Value) (d : Option Addr) (pn : List (Addr × Obj)), Zc cls d oe → (∃ vs, oe.data = .fields vs) → PSs (X.suite a ((a, oe) :: pn)) (b₀ :: suite) (ts a cls d)) (r : HdsA X hds l) :
      HdsA X (.ExceptHandler (some (.Name x np)) (some n) (b₀ :: suite) pos' :: hds) ((c, some i, ts) :: l)
variable {X : Cx} {body : List Stmt} {h₀ : ExceptHandler} {hds : List ExceptHandler} {l : List Cls1} {pos : Pos} {tb : WX → TS} {Wout : WX}
theorem ps_tryA (hs : X.stack = X.env :: X.outer) (hf : X.env.frame = some X.env.locals) (hN : X.N.Nodup) (tk : Takes X Wout)
    (hb : ∀ (W : WX) (pn : List (Addr × Obj)) (xe : Value → Shared → Prop), Takes (X.tr pn xe) W → PassesOwn (model X.prog X.w) X.A X.env xe → PSs (X.tr pn xe) body (tb W))
    (hh : HdsA X (h₀ :: hds) l) : PS X (.Try body (h₀ :: hds) [] [] pos) (fun D σ H => tb (wManyA X.K Wout D l) D σ H) := by
  refine ⟨fun pins s σ H D I h => ?_⟩
  have ok := I.ok
  have hfr : X.A.frames = some (X.env :: X.outer) := by rw [ok.frames, hs]
  refine wpAny_Try_except ?_
  refine wpAny_mono ((hb (wManyA X.K Wout D l) (X.pn ++ pins) (fun e s₁ => wpAny (model X.prog X.w) X.A (noteFrame e X.env) (fun _ s₂ => wpAny (model X.prog X.w) X.A (setFlight e none) (fun _ s₃ =>
    wpAny (model X.prog X.w) X.A (handleBy e X.env (h₀ :: hds)) (SP X pins D) X.xe s₃) X.xe s₂) X.xe s₁) (fun u s' xx => ?_) PassesOwn.looking).run [] s σ H D (I.toTry _) h) (fun f s1 hsp => ?_) (fun e s1 he => he)
  · -- the catch
    obtain ⟨a, B, sI, pins', σ', H', cls, d, rfl, J', nb, up, sky, na, os, ag, w⟩ := xx
    have J : Inv X pins σ' H' sI := J'.ofTry ok
    have sky' : Sky B (X.env :: X.outer) a (Zc cls d) X.env.locals s'.heap := by rw [← hs]; exact sky
    show wpAny (model X.prog X.w) X.A (noteFrame (.ref a) X.env) _ _ _
    refine Sky.land Zc.steady hfr hf sky' fun h3 fl3 up3 => ?_
    have J3 : Inv X pins σ' H' { s' with heap := h3 } := J.landed nb fl3.1 (up.trans up3) os ag
    obtain ⟨oe3, vs3, he3, hz3, hd3⟩ := fl3.there
    have notFr : ∀ {h : Heap} {o : Obj} {vs : Array Value}, h.FunFrames B (X.env :: X.outer) → h.get? a = some o → o.data = .fields vs → a ∉ frs (X.env :: X.outer) := fun {h o vs} ff e dd hm => by
      obtain ⟨_, o', e', hnf⟩ := ff.mem hm
      rw [e] at e'; cases e'
      exact hnf _ dd
    have nfr := notFr fl3.2.2.1 he3 hd3
    have nL : a ≠ X.env.locals := fun z => nfr (List.mem_filterMap.mpr ⟨X.env, List.mem_cons_self, by rw [hf, z]⟩)
    have nF : a ∉ X.fs := fun hm => by
      obtain ⟨e, he, q⟩ := List.mem_filterMap.mp hm
      exact nfr (List.mem_filterMap.mpr ⟨e, List.mem_cons_of_mem _ he, q⟩)
    have S3 := J3.suite he3 hd3 na nL nF
    have tst : ∀ {x : Str} {c : Value} {np : Pos}, Names X x c → ∀ {Q : Value → Shared → Prop} {E : Value → Shared → Prop}, Q c { s' with heap := h3 } → wpAny (model X.prog X.w) (X.A.mark (some (.ref a))) (eval (.Name x np) X.env) Q E { s' with heap := h3 } := fun {x c np} hc {Q E} q => by
      obtain ⟨hg, hdbg, hm | ⟨hm, hv, hnn⟩⟩ := hc
      · exact ld_glob (X := X.suite a ((a, oe3) :: (X.pn ++ pins))) S3 hg hm q hdbg
      · exact ld_blt (X := X.suite a ((a, oe3) :: (X.pn ++ pins))) S3 hg hm hv q hnn hdbg
    have LT : PySem.W.Looks (model X.prog X.w) h3 (typeOf (.ref a)) cls := fun A Q E s k q => wpAny_typeOf_ref (k _ _ he3) (by rw [hz3.1]; exact q)
    have go : ∀ {hds' : List ExceptHandler} {l' : List Cls1}, HdsA X hds' l' → wManyA X.K Wout D l' cls d σ' H' →
        wpAny (model X.prog X.w) X.A (handleBy (.ref a) X.env hds') (SP X pins D) X.xe { s' with heap := h3 } := by
      intro hds' l' hk
      induction hk with
      | nil =>
        intro w
        refine wpAny_handleBy_nil ?_
        obtain ⟨k1, k2, k3, oe, vs, T, oT, ts', he, hz, hd, h1, hr⟩ := id fl3
        unfold PySem.passOn
        refine wpAny_bind (wpAny_field he hd h1 ?_)
        rw [if_neg (show ¬ ((Value.ref T == Value.none) = true) from by simp)]
        have fin : wpAny (model X.prog X.w) X.A (setFlight (.ref a) X.env.frame) (fun _ s4 => wpAny (model X.prog X.w) X.A (throw (.ref a) : Sem Flow) (SP X pins D) X.xe s4) X.xe { s' with heap := h3 } := by
          rw [hf]
          refine HandSPX.setFlight_upZ fl3 fun h4 hh4 up4 => wpAny_throw (tk _ _ ?_)
          exact ⟨a, B, sI, pins, σ', H', cls, d, rfl, J, nb, (up.trans up3).trans up4, .inr (.inr (by rw [hs]; exact hh4)), na, os, ag, w⟩
        first
          | exact wpAny_bind (wpAny_pure (wpAny_bind fin))
          | exact wpAny_bind fin
      | @cons x c ts b₀ suite np pos' hds2 l2 hc hsu r ih =>
        intro w
        obtain ⟨b, hb1, hyes, hno⟩ := w
        refine wpAny_handleBy_cons (codeAny_handlers_test ?_) (by intro q; cases q)
        have LM := PySem.W.exm_one (M := model X.prog X.w) (J3.kIn) LT hb1
        refine tst hc (LM.here ?_)
        cases b with
        | true =>
          refine codeAny_handlers_suite ?_
          refine HandSPX.lands_againZ fl3 fun h4 fl4 up4 => ?_
          have J4 : Inv X pins σ' H' { s' with heap := h4 } := J.landed nb fl4.1 ((up.trans up3).trans up4) os ag
          obtain ⟨oe4, vs4, he4, hz4, hd4⟩ := fl4.there
          have S4 := J4.suite he4 hd4 na nL nF
          refine wpAny_mono ((hsu a oe4 cls d (X.pn ++ pins) hz4 ⟨_, hd4⟩).run [] _ _ H' _ S4 (hyes rfl a na)) (fun f s6 hsp => ?_) (fun _ _ z => False.elim z)
          cases f with
          | next =>
            obtain ⟨σ6, H6, S6, q6⟩ := hsp
            exact ⟨_, _, S6.unsuite ok, q6⟩
          | brk =>
            obtain ⟨σ6, H6, S6, q6⟩ := hsp
            exact ⟨_, _, S6.unsuite ok, q6⟩
          | cont =>
            obtain ⟨σ6, H6, S6, q6⟩ := hsp
            exact ⟨_, _, S6.unsuite ok, q6⟩
          | ret u =>
            obtain ⟨v6, σ6, H6, S6, r6, q6⟩ := hsp
            exact ⟨_, _, _, S6.unsuite ok, r6, q6⟩
        | false =>
          show wpAny _ X.A (handleBy (.ref a) X.env hds2) _ _ _
          exact ih (hno rfl)
      | @consA x n c i ts b₀ suite np pos' hds2 l2 hc hi hln hsu r ih =>
        intro w
        obtain ⟨b, hb1, hyes, hno⟩ := w
        have hloc : Loc X.env.scope n := .inl hln
        refine wpAny_handleBy_cons (codeAny_handlers_test ?_) (by intro q; cases q)
        have LM := PySem.W.exm_one (M := model X.prog X.w) (J3.kIn) LT hb1
        refine tst hc (LM.here ?_)
        cases b with
        | true =>
          refine codeAny_handlers_suite_as ?_
          refine HandSPX.lands_againZ fl3 fun h4 fl4 up4 => ?_
          have J4 : Inv X pins σ' H' { s' with heap := h4 } := J.landed nb fl4.1 ((up.trans up3).trans up4) os ag
          obtain ⟨oe4, vs4, he4, hz4, hd4⟩ := fl4.there
          have S4 := J4.suite he4 hd4 na nL nF
          refine store_ok (X := X.suite a ((a, oe4) :: (X.pn ++ pins))) (v := .ref a) S4 hN hi hloc rfl (fun s5 S5 => ?_) (.inr hln)
          refine wpAny_mono ((hsu a oe4 cls d (X.pn ++ pins) hz4 ⟨_, hd4⟩).run [] s5 _ H' _ S5 (hyes rfl a na)) (fun f s6 hsp => ?_) (fun _ _ z => False.elim z)
          have end_ : ∀ {σ6 : L2.St} {H6 : Hp} {Q : Shared → Prop}, Inv (X.suite a ((a, oe4) :: (X.pn ++ pins))) [] σ6 H6 s6 → (∀ s7, Inv X pins (σ6.set i none) H6 s7 → Q s7) →
              wpAny (model X.prog X.w) X.A (do bindName X.env n .none; unbindBehindTheSuite X.env n pos') (fun _ s7 => Q s7) X.xe s6 := fun {σ6 H6 Q} S6 hq => gone_ok (S6.unsuite ok) hN hi hln hq
          cases f with
          | next =>
            obtain ⟨σ6, H6, S6, q6⟩ := hsp
            exact end_ S6 fun s7 J7 => ⟨_, _, J7, q6⟩
          | brk =>
            obtain ⟨σ6, H6, S6, q6⟩ := hsp
            exact end_ S6 fun s7 J7 => ⟨_, _, J7, q6⟩
          | cont =>
            obtain ⟨σ6, H6, S6, q6⟩ := hsp
            exact end_ S6 fun s7 J7 => ⟨_, _, J7, q6⟩
          | ret u =>
            obtain ⟨v6, σ6, H6, S6, r6, q6⟩ := hsp
            exact end_ S6 fun s7 J7 => ⟨_, _, _, J7, r6, q6⟩
        | false =>
          show wpAny _ X.A (handleBy (.ref a) X.env hds2) _ _ _
          exact ih (hno rfl)
    exact go hh w
  · cases f with
    | next =>
      obtain ⟨σ', H', J', q⟩ := hsp
      exact wpAny_execs_nil ⟨σ', H', J'.ofTry ok, q⟩
    | brk =>
      obtain ⟨σ', H', J', q⟩ := hsp
      exact ⟨σ', H', J'.ofTry ok, q⟩
    | cont =>
      obtain ⟨σ', H', J', q⟩ := hsp
      exact ⟨σ', H', J'.ofTry ok, q⟩
    | ret u =>
      obtain ⟨v, σ', H', J', r, q⟩ := hsp
      exact ⟨v, σ', H', J'.ofTry ok, r, q⟩
/-! ### o.m(e, ..) with a wish by the slots, defaults, keywords -/
variable {CX : CXT} {k : Nat} {f C : Addr} {fd : FuncData} {ps ks : List Str} {sp : Sp} {dvs : List V} {ds : List Value} {E : L2.St → XK} {x m : Str} {p apos : Pos} {e o : Expr} {es : List Expr} {kws : List Keyword} {ta : TE} {t tk : TA}
def tMethS (C : Addr) (m : Str) (sp : Sp) (dvs : List V) (E : L2.St → XK) (to : TE) (ta : TA) : TE := fun σ H Q => to σ H fun x H1 => ∃ a dx fs, x = .ref a ∧ H1 a = some (.ins C dx fs) ∧ fs.lookup m = none ∧ ta σ H1 fun vs H2 => sp (.ref a :: (vs ++ dvs)) H2 Q (E σ)
theorem pe_methSD {pl : Sem Bool} (he : PE X o ta) (c : Cls X.K C) (hm : Meth X.K C m f) (F : FnOk X.prog X.w X.K X.mg X.base CX k f fd ps sp) (hr : Room k X.A) (hb : Binds X.K fd ps ds) (hd : Vals dvs ds) (hx : ∀ σ, PassesAt CX X σ (E σ)) (ha : PA X (e :: es) t)
    (hst : starEach (e :: es) X.env = (false, eval e X.env) :: starEach es X.env := by rfl) (hpl : (backTo pos (starEach es X.env)).any (·.1) = false := by rfl)
    (ht : eval (.Call (.Attribute o m apos) (e :: es) [] pos) X.env = (do
      let ov ← eval o X.env
      standAt apos.atName
      let (f, first) ← holding [ov] (getMethod ov m pl)
      callWith pos f first (backTo pos (starEach (e :: es) X.env)) (backToKw pos (keywordEach [] X.env))) := by rfl) :
    PE X (.Call (.Attribute o m apos) (e :: es) [] pos) (tMethS C m sp dvs E ta t) := by
  refine ⟨fun pins s σ H Q I h => ?_⟩
  refine PySem.W.methodCall_KW (pl := pl) (thn (he.run pins s σ H _ I h) fun u s1 ⟨x, H1, I1, rx, a, dx, fs, ex, ea, l, q⟩ => ?_) ht
  subst ex
  obtain rfl : u = Value.ref a := rx
  refine getmeth_ok I1 ea c hm l ?_
  refine PySem.W.callWith_K (first := [.ref a]) (h₀ := X.base) I.ok.mod.kin hm.kp (thn (ha.run pos pins s1 σ H1 _ I1 q) fun us s2 ⟨vs, H2, I2, r, q2⟩ => ⟨I2.kIn, ?_⟩) hst hpl
  exact run_fnSD (us := .ref a :: us) (vs := .ref a :: vs) F hr hb hd (hx σ) I2 (.cons rfl r) q2
theorem pe_methSD0 {pl : Sem Bool} (he : PE X o ta) (c : Cls X.K C) (hm : Meth X.K C m f) (F : FnOk X.prog X.w X.K X.mg X.base CX k f fd ps sp) (hr : Room k X.A) (hb : Binds X.K fd ps ds) (hd : Vals dvs ds) (hx : ∀ σ, PassesAt CX X σ (E σ))
    (ht : eval (.Call (.Attribute o m apos) [] [] pos) X.env = (do
      let ov ← eval o X.env
      standAt apos.atName
      let (f, first) ← holding [ov] (getMethod ov m pl)
      callWith pos f first (backTo pos (starEach [] X.env)) (backToKw pos (keywordEach [] X.env))) := by rfl) :
    PE X (.Call (.Attribute o m apos) [] [] pos) (tMethS C m sp dvs E ta tNil) := by
  refine ⟨fun pins s σ H Q I h => ?_⟩
  refine PySem.W.methodCall_KW (pl := pl) (thn (he.run pins s σ H _ I h) fun u s1 ⟨x, H1, I1, rx, a, dx, fs, ex, ea, l, q⟩ => ?_) ht
  subst ex
  obtain rfl : u = Value.ref a := rx
  refine getmeth_ok I1 ea c hm l ?_
  exact PySem.W.callWith_K0 (first := [.ref a]) I1.kIn hm.kp (run_fnSD (us := [.ref a]) (vs := [.ref a]) F hr hb hd (hx σ) I1 (.cons rfl .nil) q)
end
/-! ### defs under which repr is asked: no guard is up -/
section
open PySem PySem.Spec PyProof.Rows
structure FnG (P : Program) (w : World) (K : PySem.W.Frag) (mg : Str → Option Value) (base : Heap) (CX : CXT) (k : Nat) (f : Addr) (fd : FuncData) (ps : List Str) (sp : Sp) : Prop where
  len : ∀ vs H Q E, sp vs H Q E → vs.length = ps.length
  run : ∀ (A : Around) (outer : List Env) (s : Shared) (H : Hp) (args : Args) (us : List Value) (vs : List V) (Q : VK) (E : XK), Room k A → A.guards = some [] → Env0 P w K mg base A outer s H → BindsTo s fd args (ps.zip us) → Vals vs us → sp vs H Q E →
    codeAny (model P w) A (.call (.ref f) args) (CR CX outer P w H s Q E) s
theorem FnG.of {P : Program} {w : World} {K : PySem.W.Frag} {mg : Str → Option Value} {base : Heap} {CX : CXT} {k : Nat} {f : Addr} {fd : FuncData} {ps : List Str} {sp : Sp} (F : FnOk P w K mg base CX k f fd ps sp) : FnG P w K mg base CX k f fd ps sp :=
  ⟨F.len, fun A outer s H args us vs Q E hr _ => F.run A outer s H args us vs Q E hr⟩
theorem FnG.mono {P : Program} {w : World} {K : PySem.W.Frag} {mg : Str → Option Value} {base : Heap} {CX : CXT} {j k : Nat} {f : Addr} {fd : FuncData} {ps : List Str} {sp : Sp} (F : FnG P w K mg base CX j f fd ps sp) (h : j ≤ k) : FnG P w K mg base CX k f fd ps sp :=
  ⟨F.len, fun A outer s H args us vs Q E hr => F.run A outer s H args us vs Q E (hr.mono h)⟩
theorem fn_ofG {CX : CXT} {P : Program} {w : World} {K : PySem.W.Frag} {mg : Str → Option Value} {base : Heap} {k : Nat} {f : Addr} {name qual : Str} {params : Arguments} {body : List Stmt} {scope : Scope} {dV kV doc pm cdv ct oc : Value} {an od : Option Addr}
    {osl : Array (Option Value)} {N ps : List Str} {sp : Sp} (lk : K.lookup f = some ⟨oc, od, .func (PySem.W.fnOf name qual params body scope dV kV doc pm an cdv ct), osl⟩) (hcd : PySem.W.codeIn K cdv qual = true) (S : FnScope N ps scope)
    (len : ∀ vs H Q E, sp vs H Q E → vs.length = ps.length)
    (hbody : ∀ (A : Around) (outer : List Env) (s : Shared) (H : Hp) (vs : List V) (Q : VK) (E : XK), Room k (A.deeper (envOfC qual scope s.heap.objs.size f cdv)) → A.guards = some [] → sp vs H Q E →
      ∃ t, PSs (cxOf CX P w K mg base N qual scope f cdv A outer s H E) body t ∧ t { nx := fun _ H' => Q .non H', rt := Q } (start N vs) H) :
    FnG P w K mg base CX (k + 1) f (PySem.W.fnOf name qual params body scope dV kV doc pm an cdv ct) ps sp := by
  refine ⟨len, fun A outer s H args us vs Q E hr hg e0 hb r hsp => ?_⟩
  have hl := len _ _ _ _ hsp
  have KX : K.In s.heap := e0.mod.kin.keeps fun b o e => (e0.bs b o e).1
  have lim : s.heap.NoLimit := e0.mod.nolimit.keeps fun b o e => (e0.bs b o e).1
  have hkind : ∀ y ∈ ps.zip us, scope.names.lookup y.1 = some .local ∨ (scope.names.lookup y.1 = some .cell ∧ ((cellsFrom (s.heap.objs.size + 1) scope.names []).lookup y.1).isSome = true) := fun ⟨n, v⟩ hy => by
    rcases S.par n (List.of_mem_zip hy).1 with q | q
    · exact .inl q
    · exact .inr ⟨q, PySem.W.cellsFrom_some _ _ _ (.inl q)⟩
  refine codeAny_call_function hr.depth (KX _ _ lk) rfl S.co S.gen rfl (PySem.W.codeRec_of KX hcd) (hb _ _ _ _ ?_)
  refine wpAny_newFunctionEnv_cells S.kind hkind fun env he s1 x => ?_
  subst he
  refine ⟨lim.keeps x.toInCall.keep, codeAny_func ?_⟩
  obtain ⟨t, ht, hq⟩ := hbody A outer s H vs Q E (hr.deeper _) hg hsp
  have I : Inv (cxOf CX P w K mg base N qual scope f cdv A outer s H E) [] (start N vs) H s1 := inv_start S hr.hd e0 hl r x
  refine wpAny_mono (ht.run [] s1 (start N vs) H _ I hq) (fun fl s' hs => ?_) fun e s' hs => hs
  have fin : ∀ {σ' : L2.St} {H' : Hp} {v : V} {u : Value}, Inv (cxOf CX P w K mg base N qual scope f cdv A outer s H E) [] σ' H' s' → RelV v u → Q v H' → CE outer P w H s Q u s' :=
    fun {σ' H' v u} J rv q => ⟨v, H', J.os, J.bare, J.base, J.hok, rv, q⟩
  cases fl with
  | ret u =>
    obtain ⟨v, σ', H', J, rv, q⟩ := hs
    exact fin J rv q
  | next =>
    obtain ⟨σ', H', J, q⟩ := hs
    exact fin (v := V.non) (u := Value.none) J rfl q
  | brk =>
    obtain ⟨_, _, _, q⟩ := hs
    exact False.elim q
  | cont =>
    obtain ⟨_, _, _, q⟩ := hs
    exact False.elim q
theorem okG {P : Program} {w : World} {K : PySem.W.Frag} {mg : Str → Option Value} {base : Heap} {x qual : Str} {st : Stmt} {f : Addr} {fd : FuncData} {N ps : List Str} {k : Nat} {sp : Sp} (F : L2.Fun K x qual st f fd) (S : FnScope N ps (defScope st)) (len : ∀ vs H Q E, sp vs H Q E → vs.length = ps.length)
    (hbody : ∀ (cdv : Value) (A : Around) (outer : List Env) (s : Shared) (H : Hp) (vs : List V) (Q : VK) (E : XK), Room k (A.deeper (envOfC qual (defScope st) s.heap.objs.size f cdv)) → A.guards = some [] → sp vs H Q E →
      ∃ t, PSs (cxOf CX0 P w K mg base N qual (defScope st) f cdv A outer s H E).nox (defBody st) t ∧ t { nx := fun _ H' => Q .non H', rt := Q } (start N vs) H) : FnG P w K mg base CX0 (k + 1) f fd ps sp := by
  obtain ⟨oc, od, kV, doc, pm, an, cdv, ct, osl, rfl, lk, hcd⟩ := F.ex
  refine fn_ofG lk hcd S len fun A outer s H vs Q E hr hg hsp => ?_
  obtain ⟨t, h, q⟩ := hbody cdv A outer s H vs Q E hr hg hsp
  exact ⟨t, h.nox, q⟩
theorem okGX {P : Program} {w : World} {K : PySem.W.Frag} {mg : Str → Option Value} {base : Heap} {x qual : Str} {st : Stmt} {f : Addr} {fd : FuncData} {N ps : List Str} {k : Nat} {sp : Sp} (F : L2.Fun K x qual st f fd) (S : FnScope N ps (defScope st)) (len : ∀ vs H Q E, sp vs H Q E → vs.length = ps.length)
    (hbody : ∀ (cdv : Value) (A : Around) (outer : List Env) (s : Shared) (H : Hp) (vs : List V) (Q : VK) (E : XK), Room k (A.deeper (envOfC qual (defScope st) s.heap.objs.size f cdv)) → A.guards = some [] → sp vs H Q E →
      ∃ t, PSs (cxOf (L2.CX P w) P w K mg base N qual (defScope st) f cdv A outer s H E) (defBody st) t ∧ t { nx := fun _ H' => Q .non H', rt := Q } (start N vs) H) : FnG P w K mg base (L2.CX P w) (k + 1) f fd ps sp := by
  obtain ⟨oc, od, kV, doc, pm, an, cdv, ct, osl, rfl, lk, hcd⟩ := F.ex
  exact fn_ofG lk hcd S len fun A outer s H vs Q E hr hg hsp => hbody cdv A outer s H vs Q E hr hg hsp
section
variable {X : Cx} {CX : CXT} {k : Nat} {f C : Addr} {fd : FuncData} {ps : List Str} {sp : Sp} {dvs : List V} {ds : List Value} {E : XK} {x m : Str} {p pos apos : Pos} {e o : Expr} {es : List Expr} {ta : TE} {t : TA}
theorem run_fnG {pins : List (Addr × Obj)} {σ : L2.St} {H : Hp} {s : Shared} {Q : VK} {us : List Value} {vs : List V} (F : FnG X.prog X.w X.K X.mg X.base CX k f fd ps sp) (hr : Room k X.A) (hgd : X.A.guards = some []) (hb : Binds X.K fd ps ds) (hd : Vals dvs ds) (hx : Passes CX X E)
    (I : Inv X pins σ H s) (r : Vals vs us) (h : sp (vs ++ dvs) H Q E) : wpAny (model X.prog X.w) X.A (call (.ref f) us) (EP X pins σ Q) X.xe s := by
  have r2 : Vals (vs ++ dvs) (us ++ ds) := r.append hd
  have hl : (us ++ ds).length = ps.length := by rw [← r2.length]; exact F.len _ _ _ _ h
  refine wpAny_call (codeAny_mono (F.run X.A X.stack s H ⟨us, []⟩ (us ++ ds) (vs ++ dvs) Q E hr hgd I.env0 (hb s us I.kIn hl) r2 h) fun r s' hq => ?_)
  cases r with
  | error e => exact hx pins σ H s e s' I hq
  | ok fl =>
    cases fl with
    | ret u => exact I.after hq
    | next => exact False.elim hq
    | brk => exact False.elim hq
    | cont => exact False.elim hq
theorem pe_callG (F : FnG X.prog X.w X.K X.mg X.base CX k f fd ps sp) (hr : Room k X.A) (hgd : X.A.guards = some []) (hg : Gl X x) (hm : X.mg x = some (.ref f)) (hk : PySem.W.keepIn X.K (.ref f) = true) (hb : Binds X.K fd ps ds) (hd : Vals dvs ds) (hx : Passes CX X E)
    (ha : PA X (e :: es) t) (hdb : (x == ("__debug__" : Str)) = false := by decide) (he : starEach (e :: es) X.env = (false, eval e X.env) :: starEach es X.env := by rfl) (hpl : (backTo pos (starEach es X.env)).any (·.1) = false := by rfl) :
    PE X (.Call (.Name x p) (e :: es) [] pos) (tCall sp dvs E t) := by
  refine ⟨fun pins s σ H Q I h => ?_⟩
  refine wpAny_Call_Name_kw (ld_glob I hg hm ?_ hdb)
  refine PySem.W.callWith_K (h₀ := X.base) I.ok.mod.kin hk (thn (ha.run pos pins s σ H _ I h) fun us s1 ⟨vs, H1, I1, r, q⟩ => ⟨I1.kIn, ?_⟩) he hpl
  exact run_fnG F hr hgd hb hd hx I1 r q
/-- repr of data -/
theorem call_reprD (hgd : X.A.guards = some []) (hu : X.A.units + 64 < cLine) : CallR X (.builtin "repr") (fun xs H Q => ∃ (x : V) (dt : PyData), xs = [x] ∧ Dp X.K H x dt ∧ dt.showable = true ∧ dt.hasDict = false ∧ dt.depth ≤ 60 ∧ dt.shown.length ≤ sizeLine ∧ Q (.str dt.shown) H) := by
  intro pins s σ H xs us Q I r h
  obtain ⟨x, dt, rfl, hD, h1, h2, h3, h4, q⟩ := h
  obtain ⟨u, rfl, ru⟩ := vals1 r
  obtain ⟨as, hr⟩ := Dp.reads I dt x u hD ru
  cases hD with
  | non =>
    cases (show u = Value.none from ru)
    exact PySem.P.repr_of_none ⟨.str _, H, I.tok _, ⟨_, rfl⟩, q⟩
  | bl b =>
    cases (show u = Value.bool b from ru)
    exact PySem.P.repr_of_bool ⟨.str _, H, I.tok _, ⟨_, rfl⟩, q⟩
  | int i =>
    obtain ⟨t, rfl⟩ := ru
    exact PySem.P.repr_of_int (of_decide_eq_true h1) ⟨.str _, H, I.tok _, ⟨_, rfl⟩, q⟩
  | str z =>
    obtain ⟨t, rfl⟩ := ru
    exact PySem.P.repr_of_str ⟨.str _, H, I.tok _, ⟨_, rfl⟩, q⟩ h4
  | lst hl ha =>
    cases ru
    refine repr_of_reads' hr h1 (fun z => by rw [h2] at z; cases z) hgd (by omega) (fun _ _ e => e) (fun h' u tk hk => ?_) h4
    exact ⟨.str _, H, (I.kept (t' := tk) hk), ⟨_, rfl⟩, q⟩
  | tup hl ha =>
    cases ru
    refine repr_of_reads' hr h1 (fun z => by rw [h2] at z; cases z) hgd (by omega) (fun _ _ e => e) (fun h' u tk hk => ?_) h4
    exact ⟨.str _, H, (I.kept (t' := tk) hk), ⟨_, rfl⟩, q⟩
end
end
/-! ### the law is called: no guard is up -/
section
open PySem PySem.Spec PyProof.Rows L2
theorem law_callG {P : Program} {w : World} {K : PySem.W.Frag} {mg mb : Str → Option Value} {CX : CXT} {k : Nat} {fa a : Addr} {fd : FuncData} {x : Str} {sp : Sp} {s₁ : Shared} {vs : List Value} {ns : List Int}
    (KX : K.In s₁.heap) (hns : s₁.heap.Ns mainGlobals mg) (hb : s₁.heap.Ns builtinsNs mb) (hbb : ∀ x : Str, x ≠ "__name__" → mb x = bootBuiltins x) (hlim : s₁.heap.NoLimit) (hg : s₁.gens = #[])
    (ha : s₁.heap.get? a = some { cls := .type "list", data := .seq vs.toArray }) (hi : IntsAre vs ns) (hl : ns.length ≤ sizeLine) (hr : Room k callerA)
    (F : ∀ base : Heap, K.In base → base.Ns mainGlobals mg → FnG P w K mg base CX k fa fd [x] sp) (hbind : ∀ (s : Shared) (u : Value), BindsTo s fd ⟨[u], []⟩ [(x, u)])
    (hsp : ∀ H : Hp, Only H → SqL K H a (ns.map V.int) → sp [.ref a] H (fun v _ => v = .bl true) fun _ _ _ => False)
    (hCX : ∀ H e s', CX [] H s₁ (fun _ _ _ => False) e s' → False) :
    codeAny (model P w) callerA (.call (.ref fa) ⟨[.ref a], []⟩) (fun r s' => r = .ok (.ret (.bool true)) ∧ OldK s₁.heap s'.heap ∧ s'.os = s₁.os ∧ AllBare s'.gens) s₁ := by
  have rv := vals_ints hi
  have lenV := hi.length
  -- from an abstract heap in which nothing but the script may be tracked
  have core : ∀ H : Hp, Only H → SqL K H a (ns.map V.int) → HOk P w H s₁.heap → (∀ b, H b ≠ none → b = a) → (H a ≠ none → K.lookup a = none) →
      codeAny (model P w) callerA (.call (.ref fa) ⟨[.ref a], []⟩) (fun r s' => r = .ok (.ret (.bool true)) ∧ OldK s₁.heap s'.heap ∧ s'.os = s₁.os ∧ AllBare s'.gens) s₁ := by
    intro H hO hS hok hA hK
    have base_of : ∀ {b : Addr} {o : Obj}, s₁.heap.get? b = some o → H b = none → (hidT s₁.heap H).get? b = some o := fun e n => hidT_get e n
    have noA : ∀ {b : Addr} {o : Obj} {es : Array DictEntry} {ep : Nat}, s₁.heap.get? b = some o → o.data = .dict es ep → H b = none := fun {b o es ep} e d => by
      cases q : H b with
      | none => rfl
      | some u =>
        have e' : b = a := hA b (by rw [q]; simp)
        subst e'
        rw [ha] at e; cases e
        have d' : Data.seq vs.toArray _ = Data.dict es ep := d
        cases d'
    have nsK : ∀ {b : Addr} {m : Str → Option Value}, s₁.heap.Ns b m → (hidT s₁.heap H).Ns b m := fun {b m} ⟨o, es, ep, e, d, r⟩ => ⟨o, es, ep, base_of e (noA e d), d, r⟩
    have hKb : K.In (hidT s₁.heap H) := fun b o e => base_of (KX b o e) (by
      cases q : H b with
      | none => rfl
      | some u =>
        have e' : b = a := hA b (by rw [q]; simp)
        subst e'
        rw [hK (by rw [q]; simp)] at e; cases e)
    have hM : Mod K mg (hidT s₁.heap H) := ⟨hKb, nsK hns, ⟨mb, nsK hb, hbb⟩, let ⟨mc, h1, h2⟩ := hlim; ⟨mc, nsK h1, h2⟩⟩
    have e0 : Env0 P w K mg (hidT s₁.heap H) callerA [] s₁ H := ⟨rfl, hM, fun b o e => of_hidT e, Nat.le_of_eq (hidT_size _ _), trivial, fun b hb => absurd (show b ∈ ([] : List Addr) from hb) (by simp), hok, .of_eq hg⟩
    refine codeAny_mono ((F _ hKb (nsK hns)).run callerA [] s₁ H ⟨[.ref a], []⟩ [.ref a] [.ref a] _ _ hr rfl e0 (hbind s₁ (.ref a)) (.cons rfl .nil) (hsp H hO hS)) fun r s' h => ?_
    cases r with
    | error e => exact (hCX H e s' h).elim
    | ok fl =>
      cases fl with
      | next => exact False.elim h
      | brk => exact False.elim h
      | cont => exact False.elim h
      | ret u =>
        obtain ⟨v, H', os, bare, un, hok', r', q⟩ := h
        have q' : v = .bl true := q
        subst q'
        obtain rfl : u = Value.bool true := r'
        refine ⟨rfl, OldK.of_keep fun b o e => ?_, os, bare⟩
        cases q : H b with
        | none => exact un.keep b o e q (by intro z; exact absurd (show b ∈ ([] : List Addr) from z) (by simp)) (by simp)
        | some u =>
          rcases hO b with z | ⟨ob, xs, z⟩
          · rw [q] at z; cases z
          · have z2 := un.frzs b ob _ z
            obtain ⟨e1, _⟩ := hok b _ z
            obtain ⟨e2, _⟩ := hok' b _ z2
            rw [e] at e1; cases e1
            exact e2
  cases hk : K.lookup a with
  | some o =>
    -- the script is one of the module's own objects
    have e := KX a o hk
    rw [ha] at e
    cases e
    refine core (fun _ => none) (fun _ => .inl rfl) (.inr ⟨_, vs.toArray, _, hk, rfl, rfl, rfl, by rw [List.size_toArray, lenV]; exact hl, by simpa using rv⟩) (fun b u z => by have z' : (none : Option HO) = some u := z; cases z') (fun b z => absurd rfl z) fun z => absurd rfl z
  | none =>
    refine core (fun b => if b = a then some (.frz { cls := .type "list", data := .seq vs.toArray } (.lst (ns.map V.int))) else none) (fun b => ?_) (.inl (.inr ⟨{ cls := .type "list", data := .seq vs.toArray }, if_pos rfl⟩)) (fun b u z => ?_) (fun b z => ?_) fun _ => hk
    · by_cases hb : b = a
      · exact .inr ⟨_, _, if_pos hb⟩
      · exact .inl (if_neg hb)
    · by_cases hb : b = a
      · have z' := (if_pos hb).symm.trans z
        cases z'
        subst hb
        exact ⟨ha, by rw [List.length_map]; exact hl, vs, _, rv, ha⟩
      · have z' := (if_neg hb).symm.trans z
        cases z'
    · by_cases hb : b = a
      · exact hb
      · exact absurd (if_neg hb) z
theorem walk_ofBG {l : PySem.W.OpenLaw} {n k : Nat} {q : Program} {loose : List Str} {XP : (Str → Option Value) → Heap → Prop} {YP : World → Heap → Prop} {d : DefRec} {K : Params → PySem.W.Frag} {CX : World → CXT} {sp : World → Sp} {x : Str}
    (hn : l.most = some n) (hn2 : n ≤ sizeLine) (hdf : d.params.defaults = []) (hr : Room k callerA)
    (hY : ∀ (w : World) (h : Heap), YP w h → (K w.params).In h)
    (F : ∀ (w : World) (mg : Str → Option Value) (fa : Addr) (h : Heap), (K w.params).In h → h.Ns mainGlobals mg → mg d.name = some (.ref fa) →
      ∃ fd : FuncData, (∀ (s : Shared) (u : Value), BindsTo s fd ⟨[u], []⟩ [(x, u)]) ∧
        ∀ base : Heap, (K w.params).In base → base.Ns mainGlobals mg → FnG l.prog w (K w.params) mg base (CX w) k fa fd [x] (sp w))
    (hsp : ∀ (w : World) (H : Hp) (a : Addr) (ns : List Int), ns.length ≤ n → (∀ z ∈ ns, Builtin.Int.intBits z ≤ 1048576) → Only H → SqL (K w.params) H a (ns.map V.int) → sp w [.ref a] H (fun v _ => v = .bl true) fun _ _ _ => False)
    (hCX : ∀ (w : World) (H : Hp) (s : Shared) (e : Value) (s' : Shared), CX w [] H s (fun _ _ _ => False) e s' → False) :
    PySem.W.WalkO q loose XP YP l.row.toRowW d [] (fun f vs => PySem.call f vs) := by
  refine Att.attach_callB hn hdf fun w s₀ s₁ mg mb fa o pm cd doc a vs ns G Y ho hd hcd hmg hobj hints hlen hbits hg => ?_
  have KX := hY w _ Y
  obtain ⟨fd, hb, hF⟩ := F w mg fa _ KX G.T.g hmg
  exact law_callG KX G.T.g G.T.b G.T.builtins G.T.nolimit hg hobj hints (Nat.le_trans hlen hn2) hr hF hb (fun H hO hS => hsp w H a ns hlen hbits hO hS) fun H e s' => hCX w H s₁ e s'
end
/-! ### what is never reached -/
section
variable {X : Cx}
theorem ps_no {st : Stmt} : PS X st (fun _ _ _ => False) := ⟨fun _ _ _ _ _ _ h => h.elim⟩
theorem xfc {P : Program} {K : PySem.W.Frag} {C fI : Addr} {st : Stmt} {q : Str} {ps : List Str} {fs : List (Str × Sum Nat Str)} (T : ErrC P K C fI st q ps fs) : XfC K C := ⟨T.ga, T.gg, T.exC, T.hdC⟩
end
theorem for_nil {K : PySem.W.Frag} {a : Addr} {g : TG} {tb : TS} {D : Ends} {σ : L2.St} {H : Hp} (hl : SqL K H a []) (hd : D.nx σ H) :
    ∃ W : Nat → Nat → L2.St → Hp → Prop, (∃ m, W 0 m σ H) ∧ ∀ i m σ H, W i m σ H →
      ((Itl K a).stop i H ∧ D.nx σ H) ∨ ((Itl K a).go i H ∧ ∃ N : L2.St → Hp → Prop, (∀ σ' H', N σ' H' → ∃ m', m' < m ∧ W (i + 1) m' σ' H') ∧ ∀ x H', (Itl K a).yld i H x H' → g x σ H' fun σ2 H2 => tb { D with nx := N, ct := N, bk := D.nx } σ2 H2) :=
  for_list (xs := []) (fun _ σ' H' => σ' = σ ∧ H' = H) ⟨rfl, rfl⟩ (fun i σ' H' _ p => p.2 ▸ hl) (fun i x σ' H' e _ => by simp at e) (fun σ' H' p => by rw [p.1, p.2]; exact hd)
/-! ### o.m(e, .., k = v, ..), with a wish by the slots -/
section
open PySem PySem.Spec PyProof.Rows
variable {X : Cx} {CX : CXT} {k n : Nat} {f C : Addr} {fd : FuncData} {ps ks : List Str} {sp : Sp} {E : L2.St → XK} {m : Str} {pos apos : Pos} {e o : Expr} {es : List Expr} {kws : List Keyword} {ta : TE} {t tk : TA} {g : List Value → List Value → List Value} {gV : List V → List V → List V}
def tMethK (C : Addr) (m : Str) (n j : Nat) (sp : Sp) (gV : List V → List V → List V) (E : L2.St → XK) (to : TE) (ta tk : TA) : TE := fun σ H Q => to σ H fun x H1 => ∃ a dx fs, x = .ref a ∧ H1 a = some (.ins C dx fs) ∧ fs.lookup m = none ∧ ta σ H1 fun vs H2 => tk σ H2 fun zs H3 => vs.length = n ∧ zs.length = j ∧ sp (gV (.ref a :: vs) zs) H3 Q (E σ)
theorem run_kw {pins : List (Addr × Obj)} {σ : L2.St} {H : Hp} {s : Shared} {Q : VK} {us ws : List Value} {vs zs : List V} (F : FnOk X.prog X.w X.K X.mg X.base CX k f fd ps sp) (hr : Room k X.A) (hb : KBn X.K fd ps n ks g gV) (hx : PassesAt CX X σ (E σ))
    (I : Inv X pins σ H s) (r : Vals vs us) (rz : Vals zs ws) (l1 : vs.length = n) (l2 : zs.length = ks.length) (h : sp (gV vs zs) H Q (E σ)) : wpAny (model X.prog X.w) X.A (call (.ref f) us (ks.zip ws)) (EP X pins σ Q) X.xe s := by
  have bt := hb.to s us ws I.kIn (r.length.symm.trans l1) (rz.length.symm.trans l2)
  refine wpAny_call (codeAny_mono (F.run X.A X.stack s H ⟨us, ks.zip ws⟩ (g us ws) (gV vs zs) Q (E σ) hr I.env0 bt (hb.rel r rz) h) fun q s' hq => ?_)
  match q, hq with
  | .error e, hq => exact hx pins H s e s' I hq
  | .ok (.ret u), hq => exact I.after hq
  | .ok .next, hq => exact hq.elim
  | .ok .brk, hq => exact hq.elim
  | .ok .cont, hq => exact hq.elim
theorem pe_methK {pl : Sem Bool} (ho : PE X o ta) (c : Cls X.K C) (hm : Meth X.K C m f) (F : FnOk X.prog X.w X.K X.mg X.base CX k f fd ps sp) (hr : Room k X.A) (hb : KBn X.K fd ps (n + 1) ks g gV) (hx : ∀ σ, PassesAt CX X σ (E σ)) (ha : PA X (e :: es) t) (hkw : PK X kws tk)
    (hall : (backToKw pos (keywordEach kws X.env)).all (·.1.isSome) = true := by rfl) (hks : (backToKw pos (keywordEach kws X.env)).filterMap (·.1) = ks := by rfl)
    (hst : starEach (e :: es) X.env = (false, eval e X.env) :: starEach es X.env := by rfl) (hpl : ((backTo pos (starEach (e :: es) X.env)).any (·.1) || (backToKw pos (keywordEach kws X.env)).any (·.1.isNone)) = false := by rfl)
    (ht : eval (.Call (.Attribute o m apos) (e :: es) kws pos) X.env = (do
      let ov ← eval o X.env
      standAt apos.atName
      let (f, first) ← holding [ov] (getMethod ov m pl)
      callWith pos f first (backTo pos (starEach (e :: es) X.env)) (backToKw pos (keywordEach kws X.env))) := by rfl) :
    PE X (.Call (.Attribute o m apos) (e :: es) kws pos) (tMethK C m n ks.length sp gV E ta t tk) := by
  refine ⟨fun pins s σ H Q I h => ?_⟩
  refine PySem.W.methodCall_KW (pl := pl) (thn (ho.run pins s σ H _ I h) fun u s1 ⟨x, H1, I1, rx, a, dx, fs, ex, ea, l, q⟩ => ?_) ht
  subst ex
  cases (show u = Value.ref a from rx)
  refine getmeth_ok I1 ea c hm l (PySem.W.callWith_KW (first := [.ref a]) (h₀ := X.base) I.ok.mod.kin hm.kp hall (thn (ha.run pos pins s1 σ H1 _ I1 q) fun us s2 ⟨vs, H2, I2, r, q2⟩ => ?_) hpl hst)
  refine thn (hkw.run pos pins s2 σ H2 _ I2 q2) fun ws s3 ⟨zs, H3, I3, rz, l1, l2, q3⟩ => ⟨I3.kIn, ?_⟩
  rw [hks]
  exact run_kw (us := .ref a :: us) (vs := .ref a :: vs) F hr hb (hx σ) I3 (.cons rfl r) rz (congrArg Nat.succ l1) l2 q3
end
/-! ### defs called while an exception is handled: its object stands aside -/
section
open PySem PySem.Spec PyProof.Rows
structure FnP (P : Program) (w : World) (K : PySem.W.Frag) (mg : Str → Option Value) (base : Heap) (CX : CXT) (k : Nat) (f : Addr) (fd : FuncData) (ps : List Str) (sp : Sp) : Prop where
  len : ∀ vs H Q E, sp vs H Q E → vs.length = ps.length
  run : ∀ (A : Around) (outer : List Env) (s : Shared) (H : Hp) (args : Args) (us : List Value) (vs : List V) (Q : VK) (E : XK) (p : Addr × Obj), L2H.RoomH k A → L2H.PinOk outer H s p → Env0 P w K mg base A outer s H → BindsTo s fd args (ps.zip us) → Vals vs us → sp vs H Q E →
    codeAny (model P w) A (.call (.ref f) args) (CR CX outer P w H s Q E) s
theorem fn_ofP {CX : CXT} {P : Program} {w : World} {K : PySem.W.Frag} {mg : Str → Option Value} {base : Heap} {k : Nat} {f : Addr} {name qual : Str} {params : Arguments} {body : List Stmt} {scope : Scope} {dV kV doc pm cdv ct oc : Value} {an od : Option Addr}
    {osl : Array (Option Value)} {N ps : List Str} {sp : Sp} (lk : K.lookup f = some ⟨oc, od, .func (PySem.W.fnOf name qual params body scope dV kV doc pm an cdv ct), osl⟩) (hcd : PySem.W.codeIn K cdv qual = true) (S : FnScope N ps scope)
    (len : ∀ vs H Q E, sp vs H Q E → vs.length = ps.length)
    (hbody : ∀ (A : Around) (outer : List Env) (s : Shared) (H : Hp) (vs : List V) (Q : VK) (E : XK) (p : Addr × Obj), L2H.RoomH k (A.deeper (envOfC qual scope s.heap.objs.size f cdv)) → sp vs H Q E →
      ∃ t, PSs (L2H.cxH CX P w K mg base N qual scope f cdv A outer s H E p) body t ∧ t { nx := fun _ H' => Q .non H', rt := Q } (L2.start N vs) H) :
    FnP P w K mg base CX (k + 1) f (PySem.W.fnOf name qual params body scope dV kV doc pm an cdv ct) ps sp := by
  refine ⟨len, fun A outer s H args us vs Q E p hr hp e0 hb r hsp => ?_⟩
  have kk : ∀ b o, base.get? b = some o → s.heap.get? b = some o := fun b o e => (e0.bs b o e).1
  have KX : K.In s.heap := e0.mod.kin.keeps kk
  have hk2 : ∀ y ∈ ps.zip us, scope.names.lookup y.1 = some .local ∨ (scope.names.lookup y.1 = some .cell ∧ ((cellsFrom (s.heap.objs.size + 1) scope.names []).lookup y.1).isSome = true) := fun y hy =>
    (S.par y.1 (List.of_mem_zip (a := y.1) (b := y.2) hy).1).imp id fun q => ⟨q, PySem.W.cellsFrom_some _ _ _ (.inl q)⟩
  refine codeAny_call_function hr.depth (KX _ _ lk) rfl S.co S.gen rfl (PySem.W.codeRec_of KX hcd) (hb _ _ _ _ (wpAny_newFunctionEnv_cells S.kind hk2 fun env he s1 x => ?_))
  subst he
  refine ⟨(e0.mod.nolimit.keeps kk).keeps x.toInCall.keep, codeAny_func ?_⟩
  obtain ⟨t, ht, hq⟩ := hbody A outer s H vs Q E p (hr.deeper _) hsp
  refine wpAny_mono (ht.run [] s1 _ H _ (L2H.inv_startH S hp e0 (len _ _ _ _ hsp) r x) hq) (fun fl s' hs => ?_) fun e s' hs => hs
  match fl, hs with
  | .ret u, ⟨v, σ', H', J, rv, q⟩ => exact ⟨v, H', J.os, J.bare, J.base, J.hok, rv, q⟩
  | .next, ⟨σ', H', J, q⟩ => exact ⟨.non, H', J.os, J.bare, J.base, J.hok, rfl, q⟩
  | .brk, ⟨_, _, _, q⟩ => exact q.elim
  | .cont, ⟨_, _, _, q⟩ => exact q.elim
theorem okP {P : Program} {w : World} {K : PySem.W.Frag} {mg : Str → Option Value} {base : Heap} {x qual : Str} {st : Stmt} {f : Addr} {fd : FuncData} {N ps : List Str} {k : Nat} {sp : Sp} (F : L2.Fun K x qual st f fd) (S : FnScope N ps (defScope st)) (len : ∀ vs H Q E, sp vs H Q E → vs.length = ps.length)
    (hbody : ∀ (cdv : Value) (A : Around) (outer : List Env) (s : Shared) (H : Hp) (vs : List V) (Q : VK) (E : XK) (p : Addr × Obj), L2H.RoomH k (A.deeper (envOfC qual (defScope st) s.heap.objs.size f cdv)) → sp vs H Q E →
      ∃ t, PSs (L2H.cxH CX0 P w K mg base N qual (defScope st) f cdv A outer s H E p).nox (defBody st) t ∧ t { nx := fun _ H' => Q .non H', rt := Q } (L2.start N vs) H) : FnP P w K mg base CX0 (k + 1) f fd ps sp := by
  obtain ⟨oc, od, kV, doc, pm, an, cdv, ct, osl, rfl, lk, hcd⟩ := F.ex
  refine fn_ofP lk hcd S len fun A outer s H vs Q E p hr hsp => ?_
  obtain ⟨t, h, q⟩ := hbody cdv A outer s H vs Q E p hr hsp
  exact ⟨t, h.nox, q⟩
section
variable {X : Cx} {CX : CXT} {k : Nat} {C p g a dx : Addr} {fs : List (Str × V)} {f : Str} {fd : FuncData} {ps : List Str} {sp : Sp} {dvs : List V} {ds : List Value} {E : XK} {e : Expr} {pos : Pos} {ta : TE}
/-- the exception that is handled stands aside here -/
def Aside (X : Cx) : Prop := ∃ q : Addr × Obj, q ∈ X.pn
theorem Aside.pin {pins : List (Addr × Obj)} {σ : L2.St} {H : Hp} {s : Shared} (h : Aside X) (I : Inv X pins σ H s) : ∃ q, L2H.PinOk X.stack H s q := by
  obtain ⟨q, hq⟩ := h
  obtain ⟨p1, p2, p3, p4, p5⟩ := I.pin q (List.mem_append_left _ hq)
  exact ⟨q, p1, p2, fun hm => (List.mem_cons.mp (I.stkSub q.1 hm)).elim p3 p4, p5⟩
/-- e.f, a property, there -/
theorem pe_propP (he : PE X e ta) (c : Cls X.K C) (hp : PropOf X.K C f p g) (F : FnP X.prog X.w X.K X.mg X.base CX0 k g fd ps sp) (hr : L2H.RoomH (k + 1) X.A) (hs : Aside X) (hb : Binds X.K fd ps ds) (hd : Vals dvs ds)
    (hab : attributeBase e f X.env (eval e X.env) = eval e X.env) : PE X (.Attribute e f pos) (tProp C sp dvs E0 ta) := by
  refine ⟨fun pins s σ H Q I h => ?_⟩
  refine attr_of hab (thn (he.run pins s σ H _ I h) fun u s1 ⟨x, H1, I1, rx, a, dx, fs, ex, ea, q⟩ => ?_)
  subst ex
  cases (show u = Value.ref a from rx)
  obtain ⟨mA, O, _, _, _, _⟩ := ins_get I1.hok ea
  obtain ⟨od, J, _⟩ := O.look
  obtain ⟨rest, hrec⟩ := hp.rec_
  have I2 := I1.tok (s1.toks + 1)
  obtain ⟨pq, hpq⟩ := hs.pin I2
  have hl : ([Value.ref a] ++ ds).length = ps.length := by
    have l1 := F.len _ _ _ _ q
    have l2 := hd.length
    simp only [List.length_append, List.length_cons, List.length_nil] at l1 ⊢
    omega
  have hc : (PySem.W.clsIn X.K C).isSome = true := by
    obtain ⟨cd, hc, _⟩ := PySem.W.any_some c.hd
    rw [hc]; rfl
  have pg := PySem.W.plainGet_of (c.get f)
  refine PySem.W.get_bind I1.kIn J pg.1 (PySem.W.findObj_data hc hp.at_ hp.get hp.tak) pg.2 (wpAny_call (PySem.W.prop_get (s := { s1 with toks := s1.toks + 1 }) I1.kIn hrec ?_))
  refine codeAny_mono (F.run X.A.in1 X.stack { s1 with toks := s1.toks + 1 } H1 ⟨[.ref a], []⟩ (.ref a :: ds) (.ref a :: dvs) Q _ pq ⟨by have := hr.dp; show X.A.depth + 3 * k + 5 < _; omega, by have := hr.un; show X.A.units + 1 + 16 * k + 200 < _; omega⟩ hpq I2.env0.in1 (hb _ [.ref a] I2.kIn hl) (.cons rfl hd) q) fun r s' hq => ?_
  match r, hq with
  | .error er, hq => exact hq.elim
  | .ok (.ret u), hq =>
    obtain ⟨v, H', I3, rv, q3⟩ := I2.after hq
    show wpAny _ _ (handedOut u) _ _ _
    rw [PySem.W.handedOut_of (handed_of rv)]
    exact wpAny_pure ⟨v, H', I3, rv, q3⟩
  | .ok .next, hq => exact hq.elim
  | .ok .brk, hq => exact hq.elim
  | .ok .cont, hq => exact hq.elim
end
end
/-! ### sets of texts -/
section
open PySem PySem.Spec PyProof.Rows
def keyT (e : Int × Value) : Str := match e.2 with
  | .str k _ => k
  | _ => Str.empty
/-- a table with the texts l, each once -/
structure TsOk (w : World) (es : Array (Int × Value)) (t : SetTable) (l : List Str) : Prop where
  good : ∀ e ∈ es.toList, ∃ k u, e = (hashStr w k, Value.str k u)
  perm : (es.toList.map keyT).Perm l
  nd : l.Nodup
  few : es.size < scanBound
  fit : t.fits es.size = true
  ris : L2.Ris t.place.toList
  led : w.params.followText "set-order" = true ∨ t.led = true
def TSet (w : World) (h : Heap) (a : Addr) (l : List Str) : Prop := ∃ o es ep t, h.get? a = some o ∧ o.ExactSet ∧ o.data = .set es ep t ∧ TsOk w es t l
section
variable {P : Program} {w : World} {h h' : Heap} {a : Addr} {l : List Str} {es : Array (Int × Value)} {t : SetTable}
theorem TSet.at (R : TSet w h a l) (k : ∀ o, h.get? a = some o → h'.get? a = some o) : TSet w h' a l := by
  obtain ⟨o, es, ep, t, ho, r⟩ := R
  exact ⟨o, es, ep, t, k o ho, r⟩
theorem str_isS (k : Str) (u : Tok) : (PySem.strKind P w).is k (.str k u) = true := by
  show Value.isStrOf k (.str k u) = true
  simp [Value.isStrOf]
theorem TsOk.elems (T : TsOk w es t l) : ElemsOf (PySem.strKind P w) es.toList := fun e he => by
  obtain ⟨k, u, rfl⟩ := T.good e he
  exact ⟨⟨k, str_isS k u, rfl⟩, rfl⟩
theorem TsOk.size (T : TsOk w es t l) : es.size = l.length := by
  have := T.perm.length_eq
  rwa [List.length_map, Array.length_toList] at this
theorem TsOk.is (T : TsOk w es t l) {e : Int × Value} (he : e ∈ es.toList) (k : Str) : (PySem.strKind P w).is k e.2 = true ↔ keyT e = k := by
  obtain ⟨j, u, rfl⟩ := T.good e he
  constructor
  · intro q
    exact ((PySem.strKind P w).inj (.str j u) k j q (str_isS j u)).symm
  · rintro rfl
    exact str_isS j u
theorem TsOk.mem (T : TsOk w es t l) (k : Str) : k ∈ l ↔ ∃ e ∈ es.toList, (PySem.strKind P w).is k e.2 = true := by
  rw [← T.perm.mem_iff, List.mem_map]
  exact ⟨fun ⟨e, he, q⟩ => ⟨e, he, (T.is he k).2 q⟩, fun ⟨e, he, q⟩ => ⟨e, he, (T.is he k).1 q⟩⟩
theorem TSet.setOf (R : TSet w h a l) : h.SetOf (PySem.strKind P w) a (fun k => decide (k ∈ l)) l.length := by
  obtain ⟨o, es, ep, t, ho, hx, hd, T⟩ := R
  exact ⟨o, es, ep, t, ho, hx, hd, T.elems, fun k => by rw [decide_eq_true_eq]; exact T.mem k, T.few, T.fit, T.size⟩
theorem TsOk.relay (T : TsOk w es t l) : TsOk w (relayAll t es (SetTable.grown es.size)).1 (relayAll t es (SetTable.grown es.size)).2.1 l := by
  have pm := relayAll_perm t es (SetTable.grown es.size)
  have hs : (relayAll t es (SetTable.grown es.size)).1.size = es.size := by rw [← Array.length_toList, pm.length_eq, Array.length_toList]
  exact ⟨fun e he => T.good e (pm.mem_iff.mp he), (pm.map keyT).trans T.perm, T.nd, by rw [hs]; exact T.few, relayAll_fits t es _, L2.relayAll_ris t es _, T.led.imp id fun z => by rw [L2.relayAll_led]; exact z⟩
theorem TsOk.off (T : TsOk w es t l) : TsOk w es { t with plain := false } l := ⟨T.good, T.perm, T.nd, T.few, SetTable.fits_plain_off T.fit, T.ris, T.led⟩
theorem TsOk.lay (T : TsOk w es t l) {k : Str} (u : Tok) (hk : k ∉ l) (room : l.length + 1 < scanBound) : TsOk w (layNew t es (hashStr w k) (.str k u)).1 (layNew t es (hashStr w k) (.str k u)).2.1 (k :: l) := by
  have pm := layNew_perm t es (hashStr w k) (.str k u)
  rw [Array.toList_push] at pm
  have pc := pm.trans (List.perm_append_singleton _ _)
  have pk : _ = _ := (pc.map keyT).length_eq
  have hs : (layNew t es (hashStr w k) (.str k u)).1.size = l.length + 1 := by
    rw [← Array.length_toList, pc.length_eq, List.length_cons, Array.length_toList, T.size]
  refine ⟨fun e he => ?_, (pc.map keyT).trans (T.perm.cons _), List.nodup_cons.mpr ⟨hk, T.nd⟩, by rw [hs]; exact room, layNew_fits t es _ _, L2.layNew_ris t es _ _ T.ris, T.led.imp id fun z => by rw [L2.layNew_led]; exact z⟩
  rcases List.mem_cons.mp (pc.mem_iff.mp he) with z | z
  · exact ⟨k, u, z⟩
  · exact T.good e z
theorem TSet.new (w : World) (h : Heap) : TSet w (h.push { cls := .type "set", dict := none, data := .set #[] 0 (.fresh 0 0 (!w.params.followText "set-order")) }) h.objs.size [] := by
  refine ⟨_, #[], 0, _, Heap.get?_push_size _ rfl, ⟨rfl, rfl, rfl⟩, rfl, (fun e he => by simp at he), by simp, List.nodup_nil, by decide, by rfl, List.Pairwise.nil, ?_⟩
  show _ ∨ (!w.params.followText "set-order") = true
  cases w.params.followText "set-order" <;> simp
end
/-- with k -/
def addT (k : Str) (l : List Str) : List Str := if k ∈ l then l else k :: l
theorem addT_mem {k j : Str} {l : List Str} : j ∈ addT k l ↔ j = k ∨ j ∈ l := by
  unfold addT
  split
  · rename_i h
    exact ⟨.inr, fun z => z.elim (fun e => e ▸ h) id⟩
  · exact List.mem_cons
theorem addT_nd {k : Str} {l : List Str} (h : l.Nodup) : (addT k l).Nodup := by
  unfold addT
  split
  · exact h
  · rename_i q
    exact List.nodup_cons.mpr ⟨q, h⟩
theorem addT_len {k : Str} {l : List Str} : (addT k l).length ≤ l.length + 1 := by
  unfold addT
  split <;> simp
section
variable {P : Program} {w : World} {A : Around} {E : Value → Shared → Prop} {s : Shared} {a : Addr} {l : List Str}
theorem ts_tail {g : Bool → Sem Unit} (hg : ∀ (b : Bool) (z : Shared) (q : Unit → Shared → Prop), q () z → wpAny (model P w) A (g b) q E z) {o : Obj} {es es1 : Array (Int × Value)} {ep : Nat} {t t2 : SetTable} (ho : s.heap.get? a = some o) (hex : o.ExactSet) (hd : o.data = .set es ep t)
    (T : TsOk w es1 t2 l) {wd : Bool} {R : Option Bool → Shared → Prop} (hR : ∀ h', Heap.SameBut a s.heap h' → TSet w h' a l → R (some true) { s with heap := h' }) :
    wpAny (model P w) A (do
        storeSet a es1 t2
        if (!wd && t2.tooFull) = true then do
            g (relayAll t2 es1 (SetTable.grown es1.size)).2.2
            storeSet a (relayAll t2 es1 (SetTable.grown es1.size)).1 (relayAll t2 es1 (SetTable.grown es1.size)).2.1
            pure (some true)
          else pure (some true)) R E s := by
  have sb := Heap.SameBut.update s.heap a (Obj.putSet es1 t2)
  have ho1 := L2.store_at (es' := es1) (t' := t2) ho hd
  refine wpAny_bind (wpAny_storeSet_of ho hd ?_ (fits_of_scanBound T.few))
  split
  · have T2 := T.relay
    generalize relayAll t2 es1 (SetTable.grown es1.size) = Z at T2 ⊢
    obtain ⟨es2, t3, gv⟩ := Z
    dsimp only at T2 ⊢
    refine wpAny_bind (hg _ _ _ (wpAny_bind (wpAny_storeSet_of ho1 rfl ?_ (fits_of_scanBound T2.few))))
    exact wpAny_pure (hR _ (sb.trans (Heap.SameBut.update _ a _)) ⟨_, es2, _, t3, L2.store_at (es' := es2) (t' := t3) ho1 rfl, hex, rfl, T2⟩)
  · exact wpAny_pure (hR _ sb ⟨_, es1, _, t2, ho1, hex, rfl, T⟩)
theorem ts_addH {k : Str} {u : Tok} {Q : Bool → Shared → Prop} (R : TSet w s.heap a l) (room : l.length + 1 < scanBound) (hQ : ∀ h' b, Heap.SameBut a s.heap h' → TSet w h' a (addT k l) → Q b { s with heap := h' }) :
    wpAny (model P w) A (setAddHashed a (.str k u) ((PySem.strKind P w).hash k)) Q E s := by
  obtain ⟨o, es, ep, t, ho, hex, hd, T⟩ := R
  have hel : ElemsOf (PySem.strKind P w) es.toList := T.elems
  have hgw : ∀ (b : Bool) (z : Shared) (q : Unit → Shared → Prop), q () z → wpAny (model P w) A (match b with | true => rule "set.scan.the-table-gave-way" | false => pure ()) q E z := fun b z q hq => by
    cases b
    · exact wpAny_pure hq
    · exact wpAny_rule hq
  unfold setAddHashed setAddHashedIn
  refine wpAny_holding (wpAny_bind (wpAny_setState_of ho hd T.fit ?_))
  dsimp only
  rw [byScan_of (show (Value.str k u).scannable = true from rfl) T.few hel]
  simp only [↓reduceIte]
  unfold setAddByScan
  refine wpAny_bind (wpAny_bind (wpAny_rule (wpAny_bind (wpAny_setScan_of (str_isS k u) ho hd T.fit hel ?_))))
  cases hfi : List.findIdx? (fun e => (PySem.strKind P w).is k e.2) es.toList with
  | some j =>
    dsimp only
    obtain ⟨hj, pj, _⟩ := List.findIdx?_eq_some_iff_getElem.mp hfi
    have hk : k ∈ l := (T.mem (P := P) k).2 ⟨_, List.getElem_mem hj, pj⟩
    refine wpAny_pure (wpAny_pure (hQ s.heap _ (Heap.SameBut.refl a s.heap) ?_))
    rw [show addT k l = l from if_pos hk]
    exact ⟨o, es, ep, t, ho, hex, hd, T⟩
  | none =>
    dsimp only
    have hk : k ∉ l := fun z => by
      obtain ⟨e, he, q⟩ := (T.mem (P := P) k).1 z
      have c := List.findIdx?_eq_none_iff.mp hfi e he
      rw [q] at c; cases c
    rw [show addT k l = k :: l from if_neg hk] at hQ
    have T1 : TsOk w (layNew t es ((PySem.strKind P w).hash k) (.str k u)).1 (layNew t es ((PySem.strKind P w).hash k) (.str k u)).2.1 (k :: l) := T.lay u hk room
    generalize layNew t es ((PySem.strKind P w).hash k) (.str k u) = Z at T1 ⊢
    obtain ⟨es1, t1, wd, gv⟩ := Z
    dsimp only at T1 ⊢
    refine wpAny_bind (hgw _ _ _ ?_)
    split
    · refine wpAny_bind ?_
      rw [hashByValue_scannable 8 (x := Value.str k u) rfl]
      refine wpAny_pure (ts_tail (l := k :: l) ?_ ho hex hd ?_ fun h' sb r => ?_)
      · exact fun b z q hq => hgw b z q hq
      · split
        · exact T1
        · exact T1.off
      · dsimp only
        exact wpAny_pure (hQ h' _ sb r)
    · refine wpAny_bind (wpAny_pure ?_)
      simp only [↓reduceIte]
      refine ts_tail ?_ ho hex hd T1 fun h' sb r => ?_
      · exact fun b z q hq => hgw b z q hq
      · dsimp only
        exact wpAny_pure (hQ h' _ sb r)
end
end
/-! ### sets of texts, tracked: add, comprehensions, sorted -/
section
open PySem PySem.Spec PyProof.Rows
def TSO (w : World) (a : Addr) (l : List Str) : HO := .ext fun h => TSet w h a l
theorem tso_new {w : World} {P : Program} {H : Hp} {h : Heap} {a : Addr} {l : List Str} (R : TSet w h a l) : ObjOk P w H h a (TSO w a l) := by
  have ⟨o, _, _, _, ho, _⟩ := R
  exact ⟨R, ⟨o, ho⟩, fun _ _ q k => q.at k⟩
section
variable {X : Cx}
theorem tso_get {pins : List (Addr × Obj)} {σ : L2.St} {H : Hp} {s : Shared} {a : Addr} {l : List Str} (I : Inv X pins σ H s) (ha : H a = some (TSO X.w a l)) : TSet X.w s.heap a l := (I.hok a _ ha).1
theorem ts_add {pins : List (Addr × Obj)} {σ : L2.St} {H : Hp} {s : Shared} {E : Value → Shared → Prop} {D : Addr} {l : List Str} {k : Str} {u : Tok} {Q : Value → Shared → Prop} (I : Inv X pins σ H s) (hD : H D = some (TSO X.w D l)) (room : l.length + 1 < scanBound)
    (h : ∀ s', Inv X pins σ (upd H D (TSO X.w D (addT k l))) s' → Q .none s') : wpAny (model X.prog X.w) X.A (call (.builtin "set.add") [.ref D, .str k u]) Q E s := by
  have R := tso_get I hD
  have hS : s.heap.SetOf (PySem.strKind X.prog X.w) D (fun k => decide (k ∈ l)) l.length := R.setOf
  refine wpAny_call_entry F.slot_set_add hS.typeIs F.entry_set_add ?_ (F.args_set_add_2 _ _)
  unfold Builtin.«set.add» Builtin.Frozenset.oneOther
  simp only [List.isEmpty_nil, bind_assoc]
  unfold Builtin.Frozenset.addrOf setAdd
  refine wpAny_bind (wpAny_pure ?_)
  try dsimp only
  refine wpAny_bind (wpAny_pure ?_)
  try dsimp only
  refine wpAny_bind (wpAny_holding (wpAny_bind ((PySem.strKind X.prog X.w).pyHash (str_isS k u) (ts_addH (s := { s with toks := s.toks + 1 }) R room fun h' b sb new => ?_))))
  have he : ∃ v, h'.get? D = some v := let ⟨o, _, _, _, ho, _⟩ := new; ⟨o, ho⟩
  exact wpAny_pure ⟨_, rfl, h _ (I.write (e := D) (t' := s.toks + 1) (by rw [hD]; trivial) (.inl rfl) (fun b v hb hu => (sb.2 b hb).trans hu) he (tso_new new))⟩
/-- {elt for target in iter if ..}, elt a text: D the new set -/
def tScT (w : World) (wi : TI) (g : TG) (tt : TT) (te : TE) (vs : List Nat) : TE := fun σ H Q => wi σ H fun J H1 => ∀ D, H1 D = none → ∃ W : Nat → Nat → Hp → Prop, (∃ m, W 0 m (upd H1 D (TSO w D []))) ∧ ∀ i m H, W i m H →
  (J.stop i H ∧ Q (.ref D) H) ∨ (J.go i H ∧ ∃ Nx : Hp → Prop, (∀ H', Nx H' → ∃ m', m' < m ∧ W (i + 1) m' H') ∧ ∀ x H', J.yld i H x H' → g x (wipe σ vs) H' fun σ2 H2 => wipe σ2 vs = wipe σ vs ∧ tt σ2 H2 fun b H3 =>
    if b = true then te σ2 H3 fun y H4 => ∃ (c : Str) (l : List Str), y = .str c ∧ H4 D = some (TSO w D l) ∧ l.length + 1 < scanBound ∧ Nx (upd H4 D (TSO w D (addT c l))) else Nx H3)
theorem pe_scT {elt tg iter : Expr} {ifs : List Expr} {scope : Scope} {own : List (Str × Nat)} {pos : Pos} {wi : TI} {g : TG} {tt : TT} {te : TE} (hc : X.calm = true) (hN : X.N.Nodup) (hi : PI X tg iter wi) (ok : BlkOk X.N X.env.scope scope own)
    (hg : ∀ (s : Shared) (H : Hp) (C : Addr) (cl : List (Str × Addr)) (fp : List Addr), PG (X.blk s H scope (compEnvC scope cl C X.env) fp) tg g) (ht : ∀ (s : Shared) (H : Hp) (C : Addr) (cl : List (Str × Addr)) (fp : List Addr), PTs (X.blk s H scope (compEnvC scope cl C X.env) fp) ifs tt)
    (he : ∀ (s : Shared) (H : Hp) (C : Addr) (cl : List (Str × Addr)) (fp : List Addr), PE (X.blk s H scope (compEnvC scope cl C X.env) fp) elt te) (hs : ∀ x, foldedSetIterable iter X.env x = pure x := by intro _; rfl) :
    PE X (.SetComp elt [⟨tg, iter, ifs, 0⟩] scope pos) (tScT X.w wi g tt te (own.map (·.2))) := by
  refine ⟨fun pins s σ H Q I h => ?_⟩
  rw [PpSet.eval_SetComp]
  have fr : ∀ y ∈ scope.names, y.2 = .free → ∃ c, X.env.cells.lookup y.1 = some c := fun y hy e => (ok.free y hy e).elim (fun k => I.ok.has _ (.inl k)) fun k => I.ok.has _ (.inr k)
  refine wpAny_comprehension_free (use := none) rfl hs (closure_ok fr) ok.kind (fun y hy e => by rw [ok.uniq y hy, e]) (thn (hi.run pins s σ H _ I h) fun xv s1 hx => thn hx fun itv s2 h2 => ?_)
  obtain ⟨it, fp, tn, J, H2, rfl, I2, T, st2, f2, q⟩ := h2
  refine PpSet.newSet_ok (newEnv_comp ?_)
  generalize hD : s2.heap.objs.size = D
  obtain ⟨W, ⟨m0, w0⟩, turn⟩ := q D (I2.hok.fresh (Nat.le_of_eq hD))
  generalize hs3 : ({ s2 with heap := s2.heap.push { cls := .type "set", dict := none, data := .set #[] 0 (.fresh 0 0 (!X.w.params.followText "set-order")) } } : Shared) = s3
  have e3 : s3.heap = s2.heap.push { cls := .type "set", dict := none, data := .set #[] 0 (.fresh 0 0 (!X.w.params.followText "set-order")) } := by rw [← hs3]
  have I3 : Inv X pins σ (upd H2 D (TSO X.w D [])) s3 := by
    rw [← hs3]
    exact I2.laid (t' := s2.toks) (fun b o e => Heap.get?_push_of_some _ e) (Nat.le_of_eq hD) (hD ▸ tso_new (TSet.new X.w s2.heap))
  have f3 : ∀ b ∈ fp, FpOk X pins (upd H2 D (TSO X.w D [])) b ∧ b < s3.heap.objs.size := fun b hb => by
    obtain ⟨o, e, _⟩ := T.obj _ _ st2 b hb
    have lt := Heap.lt_size e
    refine ⟨⟨?_, (f2 b hb).2⟩, by rw [e3, Heap.size_push]; exact Nat.lt_succ_of_lt lt⟩
    rw [upd_ne (by rw [← hD]; exact Nat.ne_of_lt lt)]
    exact (f2 b hb).1
  have I4 := block_start I3 ok hN f3
  have pg := hg s3 (upd H2 D (TSO X.w D [])) s3.heap.objs.size (cellsFrom (s3.heap.objs.size + 1) scope.names (cloFrom X.env.cells scope.names [])) fp
  have pt := ht s3 (upd H2 D (TSO X.w D [])) s3.heap.objs.size (cellsFrom (s3.heap.objs.size + 1) scope.names (cloFrom X.env.cells scope.names [])) fp
  have pe := he s3 (upd H2 D (TSO X.w D [])) s3.heap.objs.size (cellsFrom (s3.heap.objs.size + 1) scope.names (cloFrom X.env.cells scope.names [])) fp
  have fin0 : ∀ s' m H', Inv X pins σ H' s' → Q (.ref D) H' → s'.heap.Ns s3.heap.objs.size m → FpOk X pins H' s3.heap.objs.size → compPost (model X.prog X.w) X.A X.xe none (EP X pins σ Q) (.ref D) s3.heap.objs.size (.ok .next) s' := fun s' m H' I' q hn f => by
    obtain ⟨f0, f1, f2, f3, f4, f5⟩ := f
    exact ⟨m, hn, fun h'' sb => ⟨.ref D, H', I'.turned (t' := s'.toks) (fun b o hb e => (sb.2 b hb).trans e) f0 f1 f3 f4 f5, rfl, q⟩⟩
  show codeAny _ _ (.compStart (.SetComp elt [⟨tg, iter, ifs, 0⟩] scope pos) 0 (.ref it) (.ref D) (compEnvC scope (cellsFrom (s3.heap.objs.size + 1) scope.names (cloFrom X.env.cells scope.names [])) s3.heap.objs.size X.env)) (compPost (model X.prog X.w) X.A X.xe none (EP X pins σ Q) (.ref D) s3.heap.objs.size) { s3 with heap := pushCells (s3.heap.push { cls := .type "dict", data := .dict #[] }) scope.names }
  have nfp : ∀ b ∈ fp, (upd H2 D (TSO X.w D [])) b = none := fun b hb => (f3 b hb).1.1
  have st3 : tn 0 s3.heap := T.keep _ _ _ st2 fun b _ o e => by rw [e3]; exact Heap.get?_push_of_some _ e
  generalize hce : compEnvC scope (cellsFrom (s3.heap.objs.size + 1) scope.names (cloFrom X.env.cells scope.names [])) s3.heap.objs.size X.env = ce at I4 pg pt pe ⊢
  have cL : ce.locals = s3.heap.objs.size := by subst hce; rfl
  generalize hH3 : upd H2 D (TSO X.w D []) = H3 at I3 I4 pg pt pe w0 nfp f3
  generalize hs4 : ({ s3 with heap := pushCells (s3.heap.push { cls := .type "dict", data := .dict #[] }) scope.names } : Shared) = s4 at I4 ⊢
  have st4 : tn 0 s4.heap := T.keep _ _ _ st3 fun b _ o e => by rw [← hs4]; exact pushCells_keeps _ _ _ _ (Heap.get?_push_of_some _ e)
  have stat : ∀ {σ' : L2.St} {H' : Hp} {s' : Shared}, Inv (X.blk s3 H3 scope ce fp) [] σ' H' s' → (∀ b ∈ fp, H' b = none) → ∀ b ∈ fp, FpOk (X.blk s3 H3 scope ce fp) [] H' b := fun {σ' H' s'} J hn b hb =>
    ⟨hn b hb, (J.ok.exf b hb).1, J.ok.exfs b hb, .inl hb, fun x c e => (J.ok.exf b hb).2 x c e, fun p hp => absurd (show p ∈ ([] : List (Addr × Obj)) ++ [] from hp) (by simp)⟩
  have loop : codeAny (model X.prog X.w) X.A (.compLoop (.SetComp elt [⟨tg, iter, ifs, 0⟩] scope pos) 0 (.ref it) (.ref D) ce) (compPost (model X.prog X.w) X.A X.xe none (EP X pins σ Q) (.ref D) s3.heap.objs.size) s4 := by
    refine PpSet.compLoopS_any (fun n s' => ∃ i H', Inv (X.blk s3 H3 scope ce fp) [] (wipe σ (own.map (·.2))) H' s' ∧ tn i s'.heap ∧ (∀ b ∈ fp, H' b = none) ∧ W i n H') ?_ m0 ⟨0, H3, I4, st4, nfp, w0⟩
    rintro n s5 ⟨i, H5, I5, st5, n5, w5⟩
    rcases turn i n H5 w5 with ⟨stop, qq⟩ | ⟨go, Nx, hNx, step⟩
    · refine thnF (T.done (X.blk s3 H3 scope ce fp) rfl rfl rfl hc i [] s5 _ H5 (fun _ _ => False) I5 (stat I5 n5) st5 stop) fun r s6 ⟨hr, I6⟩ => ?_
      subst hr
      have I7 : Inv X pins σ H5 s6 := I3.call' (ch := fp) I6.os I6.base I6.hok I6.bare fun b hb => let ⟨_, g1, _, g3, g4, g5⟩ := (f3 b hb).1; ⟨g3, g1, g4, g5⟩
      have nC : H5 ce.locals = none := I6.free
      obtain ⟨m, hn, _⟩ := I6.loc
      have hn : s6.heap.Ns ce.locals m := hn
      rw [cL] at hn nC
      exact fin0 s6 m H5 I7 qq hn (I3.fpOk (Nat.le_refl _) nC)
    · refine thnF (T.item (X.blk s3 H3 scope ce fp) rfl rfl rfl hc i [] s5 _ H5 (fun _ _ => False) I5 (stat I5 n5) st5 go) fun r s6 ⟨u, hr, h6⟩ => ?_
      subst hr
      refine thnF h6 fun _ s7 ⟨x, H7, I7, r7, y7, st7, n7⟩ => ?_
      refine thnF (pg.run _ s7 _ H7 x u _ (I7.pinned (stat I7 n7) (T.obj _ _ st7)) r7 (step x H7 y7)) fun _ s8 ⟨σ8, H8, I8, hw8, q8⟩ => ?_
      refine thnF (pt.run _ s8 σ8 H8 _ I8 q8) fun b s9 ⟨H9, I9, q9⟩ => ?_
      have back : ∀ {s' : Shared} {H' : Hp}, Inv (X.blk s3 H3 scope ce fp) ([] ++ pinsAt fp s7.heap) σ8 H' s' → Nx H' → ∃ m, m < n ∧ ∃ i H', Inv (X.blk s3 H3 scope ce fp) [] (wipe σ (own.map (·.2))) H' s' ∧ tn i s'.heap ∧ (∀ b ∈ fp, H' b = none) ∧ W i m H' := fun {s' H'} J nx => by
        obtain ⟨m', hm, w'⟩ := hNx H' nx
        have pin : ∀ b ∈ fp, ∀ o, s7.heap.get? b = some o → s'.heap.get? b = some o ∧ H' b = none := fun b hb o e =>
          let z := J.pin (b, o) (List.mem_append_right _ (List.mem_append_right _ (mem_pinsAt hb e))); ⟨z.1, z.2.1⟩
        refine ⟨m', hm, i + 1, H', (J.unpinned (pins := [])).weak (by rw [← hw8, wipe_length]) (fun j v e => ?_), T.keep _ _ _ st7 fun b hb o e => (pin b hb o e).1, fun b hb => ?_, w'⟩
        · rw [← hw8] at e
          exact (wipe_some e).1
        · obtain ⟨o, e, _⟩ := T.obj _ _ st7 b hb
          exact (pin b hb o e).2
      cases b with
      | false =>
        simp only [Bool.false_eq_true, if_false] at q9 ⊢
        exact back I9 q9
      | true =>
        simp only [if_true] at q9 ⊢
        refine thnF (pe.run _ s9 σ8 H9 _ I9 q9) fun z s10 ⟨yv, H10, I10, r10, c, l, ey, hD10, hz10, nx⟩ => ?_
        subst ey
        obtain ⟨tk, rfl⟩ := r10
        exact ts_add (X := X.blk s3 H3 scope ce fp) I10 hD10 hz10 fun s11 I11 => back I11 nx
  exact PpSet.codeAny_compStart_set loop (T.self X.A 0 _ _ _ st4 loop)
end
/-- over a list that the block leaves as it is -/
theorem sc_listT {w : World} {K : PySem.W.Frag} {a : Addr} {xs : List V} {g : TG} {tt : TT} {te : TE} {vs : List Nat} {σ : L2.St} {H1 : Hp} {D : Addr} {Qd : Hp → Prop} (Pv : Nat → Hp → Prop) (h0 : Pv 0 (upd H1 D (TSO w D []))) (hl : ∀ i H, i ≤ xs.length → Pv i H → SqL K H a xs)
    (hs : ∀ i x H, xs[i]? = some x → Pv i H → g x (wipe σ vs) H fun σ2 H2 => wipe σ2 vs = wipe σ vs ∧ tt σ2 H2 fun b H3 =>
      if b = true then te σ2 H3 fun y H4 => ∃ (c : Str) (l : List Str), y = .str c ∧ H4 D = some (TSO w D l) ∧ l.length + 1 < scanBound ∧ Pv (i + 1) (upd H4 D (TSO w D (addT c l))) else Pv (i + 1) H3) (hd : ∀ H, Pv xs.length H → Qd H) :
    ∃ W : Nat → Nat → Hp → Prop, (∃ m, W 0 m (upd H1 D (TSO w D []))) ∧ ∀ i m H, W i m H →
      ((Itl K a).stop i H ∧ Qd H) ∨ ((Itl K a).go i H ∧ ∃ Nx : Hp → Prop, (∀ H', Nx H' → ∃ m', m' < m ∧ W (i + 1) m' H') ∧ ∀ x H', (Itl K a).yld i H x H' → g x (wipe σ vs) H' fun σ2 H2 => wipe σ2 vs = wipe σ vs ∧ tt σ2 H2 fun b H3 =>
        if b = true then te σ2 H3 fun y H4 => ∃ (c : Str) (l : List Str), y = .str c ∧ H4 D = some (TSO w D l) ∧ l.length + 1 < scanBound ∧ Nx (upd H4 D (TSO w D (addT c l))) else Nx H3) := by
  refine ⟨fun i m H => m = xs.length - i ∧ i ≤ xs.length ∧ Pv i H, ⟨xs.length, (Nat.sub_zero _).symm, Nat.zero_le _, h0⟩, ?_⟩
  rintro i m H ⟨rfl, hi, p⟩
  have q := hl i H hi p
  rcases Nat.lt_or_ge i xs.length with lt | ge
  · refine .inr ⟨⟨xs, xs[i], q, by simp [lt]⟩, Pv (i + 1), fun H' p' => ⟨xs.length - (i + 1), by omega, rfl, lt, p'⟩, fun x H' y => ?_⟩
    obtain ⟨e, y⟩ := y
    subst e
    exact hs i x _ (y xs q) p
  · obtain rfl : i = xs.length := Nat.le_antisymm hi ge
    exact .inl ⟨⟨xs, q, Nat.le_refl _⟩, hd H p⟩
end
/-! ### sorted texts -/
section
open PySem PySem.Spec PyProof.Rows
/-- x stands ahead of y, or they are the same -/
def leT (x y : Str) : Prop := ¬ y.cps.toList < x.cps.toList
instance (x y : Str) : Decidable (leT x y) := inferInstanceAs (Decidable (¬ _))
theorem str_ext {x y : Str} (h : x.cps.toList = y.cps.toList) : x = y := by
  cases x
  cases y
  exact congrArg Str.mk (Array.toList_inj.mp h)
theorem nlt_irrefl : ∀ l : List Nat, ¬ l < l := List.lt_irrefl
theorem leT_refl (x : Str) : leT x x := List.lt_irrefl _
theorem leT_anti {x y : Str} (h : leT x y) (k : leT y x) : x = y := str_ext (List.le_antisymm (List.not_lt.mp h) (List.not_lt.mp k))
theorem leT_trans {x y z : Str} (h : leT x y) (k : leT y z) : leT x z := List.not_lt.mpr (List.le_trans (List.not_lt.mp h) (List.not_lt.mp k))
theorem leT_total (x y : Str) : leT x y ∨ leT y x := by
  rcases List.le_total x.cps.toList y.cps.toList with h | h
  · exact .inl (List.not_lt.mpr h)
  · exact .inr (List.not_lt.mpr h)
theorem rising_pw : ∀ (l : List Str) (p : Str), risingS p l = true → (p :: l).Pairwise leT
  | [], p, _ => by simp
  | x :: r, p, h => by
    have h1 : (leT p x) ∧ risingS x r = true := by
      unfold risingS at h
      rw [Bool.and_eq_true, PyProof.Rows.ltCps_eq, Bool.not_eq_true', decide_eq_false_iff_not] at h
      exact h
    have ih := rising_pw r x h1.2
    refine List.pairwise_cons.mpr ⟨fun y hy => ?_, ih⟩
    rcases List.mem_cons.mp hy with rfl | hy
    · exact h1.1
    · exact leT_trans h1.1 ((List.pairwise_cons.mp ih).1 y hy)
theorem sorted_pw {l : List Str} (h : sortedS l = true) : l.Pairwise leT := by
  cases l with
  | nil => exact .nil
  | cons x r => exact rising_pw r x h
theorem pw_unique : ∀ {l m : List Str}, l.Perm m → l.Pairwise leT → m.Pairwise leT → l = m
  | [], m, p, _, _ => (List.perm_nil.mp p.symm).symm
  | x :: l, m, p, hl, hm => by
    cases m with
    | nil => exact absurd (List.perm_nil.mp p) (by simp)
    | cons y m =>
      have e : x = y := by
        have h1 : x ∈ y :: m := p.mem_iff.mp List.mem_cons_self
        have h2 : y ∈ x :: l := p.mem_iff.mpr List.mem_cons_self
        rcases List.mem_cons.mp h1 with e | h1
        · exact e
        rcases List.mem_cons.mp h2 with e | h2
        · exact e.symm
        exact leT_anti ((List.pairwise_cons.mp hl).1 y h2) ((List.pairwise_cons.mp hm).1 x h1)
      subst e
      rw [pw_unique (List.perm_cons _ |>.mp p) (List.pairwise_cons.mp hl).2 (List.pairwise_cons.mp hm).2]
/-- sorted -/
def sortT (l : List Str) : List Str := l.mergeSort fun x y => decide (leT x y)
theorem sortT_perm (l : List Str) : (sortT l).Perm l := List.mergeSort_perm l _
theorem sortT_pw (l : List Str) : (sortT l).Pairwise leT := by
  have h := List.pairwise_mergeSort (le := fun x y => decide (leT x y)) (fun a b c h k => by
    rw [decide_eq_true_eq] at h k ⊢
    exact leT_trans h k) (fun a b => by
    rw [Bool.or_eq_true, decide_eq_true_eq, decide_eq_true_eq]
    exact leT_total a b) l
  exact h.imp fun h => of_decide_eq_true h
theorem sortT_of {l ys : List Str} (p : ys.Perm l) (h : sortedS ys = true) : ys = sortT l := pw_unique (p.trans (sortT_perm l).symm) (sorted_pw h) (sortT_pw l)
theorem sortT_congr {l m : List Str} (p : l.Perm m) : sortT l = sortT m := pw_unique ((sortT_perm l).trans (p.trans (sortT_perm m).symm)) (sortT_pw l) (sortT_pw m)
theorem sortT_mem {l : List Str} {k : Str} : k ∈ sortT l ↔ k ∈ l := (sortT_perm l).mem_iff
theorem sortT_len {l : List Str} : (sortT l).length = l.length := (sortT_perm l).length_eq
theorem nd_perm {l m : List Str} (hl : l.Nodup) (hm : m.Nodup) (h : ∀ k, k ∈ l ↔ k ∈ m) : l.Perm m := by
  rw [List.perm_iff_count]
  intro k
  rw [hl.count, hm.count]
  simp [h k]
theorem strs_ofV : ∀ (l : List Value), (∀ v ∈ l, ∃ k u, v = Value.str k u) → ∃ ss, StrsAre l ss ∧ l.map (fun v => keyT (0, v)) = ss
  | [], _ => ⟨[], .nil, rfl⟩
  | v :: l, h => by
    obtain ⟨k, u, rfl⟩ := h v List.mem_cons_self
    obtain ⟨ss, h1, h2⟩ := strs_ofV l fun x hx => h x (List.mem_cons_of_mem _ hx)
    exact ⟨k :: ss, .cons k u h1, by rw [List.map_cons, h2]; rfl⟩
section
variable {P : Program} {w : World} {A : Around} {E : Value → Shared → Prop} {s : Shared} {a : Addr} {l : List Str}
theorem ts_sorted {Q : Value → Shared → Prop} (R : TSet w s.heap a l) (hh : A.handled = none)
    (hQ : ∀ s' p (out : Array Value) (c : Nat), (∀ b o, s.heap.get? b = some o → s'.heap.get? b = some o) → s'.gens = s.gens → s'.os = s.os → s.heap.objs.size ≤ p → s'.heap.get? p = some (seqObj "list" out c) → StrsAre out.toList (sortT l) → Q (.ref p) s') :
    wpAny (model P w) A (call (.builtin "sorted") [.ref a]) Q E s := by
  obtain ⟨o, es, ep, t, ho, hex, hd, T⟩ := R
  refine Calls.call_function_entry kind_sorted plain_sorted entry_sorted (args_sorted1 _) ?_
  unfold Builtin.«sorted»
  refine wpAny_bind (m := checkCount "sorted" 1 1 _) (wpAny_pure (wpAny_bind (L2.collect_set (A := A.in1) hh ⟨o, ho, hex.1, hd⟩ T.fit T.few T.ris T.led fun s1 vs k1 hz g1 o1 pm => ?_)))
  obtain ⟨ss, hS, es'⟩ := strs_ofV vs fun v hv => by
    obtain ⟨e, he, q⟩ := List.mem_map.mp (pm.mem_iff.mp hv)
    obtain ⟨k, u, rfl⟩ := T.good e he
    exact ⟨k, u, q.symm⟩
  have ps : ss.Perm l := by
    have q := pm.map fun v => keyT (0, v)
    rw [es', List.map_map] at q
    exact q.trans T.perm
  have hv : vs.length = l.length := by rw [pm.length_eq, List.length_map, Array.length_toList, T.size]
  have hL : vs.length ≤ sizeLine := by rw [hv, ← T.size]; exact fits_of_scanBound T.few
  refine wpAny_bind (wpAny_newList ?_ hL)
  have hoL : (s1.heap.push (seqObj "list" vs.toArray 0)).get? s1.heap.objs.size = some (seqObj "list" vs.toArray 0) := Heap.get?_push_size _ rfl
  refine wpAny_bind (wpAny_holding (wpAny_call_entry slot_list_sort ⟨_, hoL, rfl⟩ entry_list_sort (list_sort_treeKAny strKind_oneLt hoL hS.keysOf (fun v₁ v₂ rest e => keyKind_strs (by rw [← e]; exact hS)) hL fun st' hp hs => ⟨_, rfl, ?_⟩) (args_list_sort _)))
  obtain ⟨ys, h1, h2, h3⟩ := sorted_out_str hS hp hs
  obtain ⟨c, hc⟩ := sortedHeap_at (vs := vs) (out := (arrOf st').map (·.2)) hoL
  rw [sortT_of (h2.trans ps) h3] at h1
  refine wpAny_pure ⟨_, rfl, hQ _ s1.heap.objs.size _ c (fun b u e => ?_) g1 o1 hz hc h1⟩
  have q := k1 b u e
  have lt := Heap.lt_size q
  show (sortedHeap (s1.heap.push (seqObj "list" vs.toArray 0)) s1.heap.objs.size vs _).get? b = some u
  rw [sortedHeap_old (Nat.ne_of_lt lt) (by rw [size_push']; exact Nat.lt_succ_of_lt lt)]
  exact Heap.get?_push_of_some _ q
end
section
variable {X : Cx}
/-- sorted(found) -/
theorem cr_sortTS (hc : X.calm = true) : CallR X (.builtin "sorted") (fun vs H Q => ∃ (a : Addr) (l : List Str), vs = [V.ref a] ∧ H a = some (TSO X.w a l) ∧ ∀ p, H p = none → Q (.ref p) (upd H p (.lst ((sortT l).map V.str)))) := by
  intro pins s σ H vs us Q I r h
  obtain ⟨a, l, rfl, ha, q⟩ := h
  have R := tso_get I ha
  rw [Vals.ref1 r]
  have hl : l.length ≤ sizeLine := by
    obtain ⟨o, es, ep, t, ho, hex, hd, T⟩ := R
    rw [← T.size]; exact fits_of_scanBound T.few
  refine ts_sorted R (I.ok.hd hc) fun s' p out c k g o hp hg hi => ?_
  have hn : H p = none := I.hok.fresh hp
  have J : Inv X pins σ (upd H p (.lst ((sortT l).map V.str))) { s with heap := s'.heap, gens := s'.gens, drawn := s'.drawn, toks := s'.toks } :=
    I.call (ch := []) (Un.laid k hp hn) (I.hok.laid k hp ⟨by rw [List.length_map, sortT_len]; exact hl, out.toList, c, vals_of_strs hi, hg⟩) (by rw [g]; exact I.bare) (fun _ z => nomatch z)
  obtain ⟨h', g', d', t', os'⟩ := s'
  obtain ⟨h0, g0, d0, t0, os0⟩ := s
  cases (show os' = os0 from o)
  exact ⟨.ref p, _, J, rfl, q p hn⟩
/-- sorted(texts), any number -/
theorem cr_sortLS : CallR X (.builtin "sorted") (fun vs H Q => ∃ (a : Addr) (xs : List Str), vs = [V.ref a] ∧ SqL X.K H a (xs.map V.str) ∧ ∀ p, H p = none → Q (.ref p) (upd H p (.lst ((sortT xs).map V.str)))) := by
  intro pins s σ H vs us Q I r h
  obtain ⟨a, xs, rfl, hs, q⟩ := h
  obtain ⟨its, rv, hl, hlen⟩ := I.list hs
  rw [Vals.ref1 r]
  have l0 := rv.length
  rw [List.length_map] at l0 hlen
  refine PyProof.Rows.sorted_strsAny hl.isList rv.strs (by rw [← l0]; exact hlen) fun out ys h1 h2 h3 => ?_
  obtain ⟨ep, he'⟩ := PyProof.Rows.sortedAll_at s.heap its out
  rw [sortT_of h2 h3] at h1
  exact ⟨.ref _, upd H (s.heap.objs.size + 1) (.lst ((sortT xs).map V.str)), I.laid (t' := s.toks) (fun _ _ => PyProof.Rows.sortedAll_old) (Nat.le_succ _) ⟨by rw [List.length_map, sortT_len]; exact hlen, out.toList, ep, vals_of_strs h1, he'⟩, rfl, q _ (I.hok.fresh (Nat.le_succ _))⟩
end
end
/-! ### set(texts) -/
section
open PySem PySem.Spec PyProof.Rows
def setT (xs : List Str) : List Str := xs.foldl (fun l k => addT k l) []
theorem setT_go : ∀ (xs l : List Str), (∀ k, k ∈ xs.foldl (fun l k => addT k l) l ↔ k ∈ l ∨ k ∈ xs) ∧ (l.Nodup → (xs.foldl (fun l k => addT k l) l).Nodup) ∧ (xs.foldl (fun l k => addT k l) l).length ≤ l.length + xs.length
  | [], l => ⟨fun k => by simp, id, by simp⟩
  | x :: r, l => by
    obtain ⟨h1, h2, h3⟩ := setT_go r (addT x l)
    refine ⟨fun k => ?_, fun h => h2 (addT_nd h), ?_⟩
    · rw [List.foldl_cons, h1 k, addT_mem, List.mem_cons]
      constructor
      · rintro ((h | h) | h)
        · exact .inr (.inl h)
        · exact .inl h
        · exact .inr (.inr h)
      · rintro (h | h | h)
        · exact .inl (.inr h)
        · exact .inl (.inl h)
        · exact .inr h
    · rw [List.foldl_cons, List.length_cons]
      have := addT_len (k := x) (l := l)
      omega
theorem setT_mem {xs : List Str} {k : Str} : k ∈ setT xs ↔ k ∈ xs := by
  have := (setT_go xs []).1 k
  simpa [setT] using this
theorem setT_nd {xs : List Str} : (setT xs).Nodup := (setT_go xs []).2.1 List.nodup_nil
theorem setT_len {xs : List Str} : (setT xs).length ≤ xs.length := by
  have := (setT_go xs []).2.2
  simpa [setT] using this
theorem setT_take {xs : List Str} {i : Nat} {k : Str} (h : xs[i]? = some k) : setT (xs.take (i + 1)) = addT k (setT (xs.take i)) := by
  unfold setT
  rw [List.take_add_one, h, List.foldl_append]; rfl
theorem sortT_set {xs ys : List Str} (h : ∀ k, k ∈ xs ↔ k ∈ ys) : sortT (setT xs) = sortT (setT ys) := sortT_congr (nd_perm setT_nd setT_nd fun k => by rw [setT_mem, setT_mem]; exact h k)
/-- an empty set's object -/
abbrev set0 (w : World) : Obj := { cls := .type "set", dict := none, data := .set #[] 0 (.fresh 0 0 (!w.params.followText "set-order")) }
theorem TSet.first {w : World} {h : Heap} {a : Addr} (ho : h.get? a = some (set0 w)) : TSet w h a [] := by
  refine ⟨_, #[], 0, _, ho, ⟨rfl, rfl, rfl⟩, rfl, (fun e he => by simp at he), by simp, List.nodup_nil, by decide, by rfl, List.Pairwise.nil, ?_⟩
  show _ ∨ (!w.params.followText "set-order") = true
  cases w.params.followText "set-order" <;> simp
section
variable {P : Program} {w : World} {A : Around} {E : Value → Shared → Prop} {s : Shared}
theorem ts_update {I : Addr} {fp wr : List Addr} {G : Array GenState → Array GenState → Prop} {n : Nat} {Pv : Nat → Value → Prop} {St : Nat → Shared → Prop} {R : Result → Shared → Prop}
    (W : WalksS P w A.in1 I fp wr G n Pv St) (S : Addr) (hSf : S ∉ fp) (xs : List Str) (hn : n = xs.length) (hb : xs.length + 1 < scanBound) (hval : ∀ i v, Pv i v → ∃ k t, xs[i]? = some k ∧ v = .str k t) :
    ∀ (k i : Nat) (s : Shared), n - i = k → i ≤ n → St i s → TSet w s.heap S (setT (xs.take i)) → (∀ s', Moved (S :: wr) G s s' → TSet w s'.heap S (setT xs) → R (.ok (.ret .none)) s') →
      codeAny (model P w) A (.builtin "set.update.loop" ⟨[.ref S, .ref I], []⟩) R s := by
  have nw : S ∉ wr := fun h => hSf (W.sub _ h)
  have inc : ∀ b ∈ wr, b ∈ S :: wr := fun b hb => List.mem_cons_of_mem _ hb
  intro k
  induction k with
  | zero =>
    intro i s hk hi st hS hR
    obtain rfl : i = n := by omega
    refine codeAny_builtin F.entry_set_update_loop ?_
    rw [Around.under_plainId F.plain_set_update_loop _]
    show wpAny _ A.in1 (pyNext (.ref I) >>= _) _ _ s
    refine wpAny_bind (W.done s _ _ st fun s' hm => ?_)
    rw [List.take_of_length_le (by omega)] at hS
    exact wpAny_pure (hR s' (hm.mono inc) (hS.at fun o e => hm.heap S o nw e))
  | succ k ih =>
    intro i s hk hi st hS hR
    have lt : i < n := by omega
    refine codeAny_builtin F.entry_set_update_loop ?_
    rw [Around.under_plainId F.plain_set_update_loop _]
    show wpAny _ A.in1 (pyNext (.ref I) >>= _) _ _ s
    refine wpAny_bind (W.item i s _ _ lt st fun v s' hP st' hm => ?_)
    obtain ⟨z, t, hz, rfl⟩ := hval i v hP
    have hS' := hS.at (h' := s'.heap) fun o e => hm.heap S o nw e
    have hl : (setT (xs.take i)).length + 1 < scanBound := by
      have h1 := setT_len (xs := xs.take i)
      rw [List.length_take] at h1
      omega
    show wpAny _ A.in1 (holding [Value.str z t] (setAdd S (.str z t)) >>= _) _ _ s'
    refine wpAny_bind (wpAny_holding ?_)
    unfold setAdd
    refine wpAny_holding (wpAny_bind ((PySem.strKind P w).pyHash (k := z) (str_isS z t) (ts_addH (s := { s' with toks := s'.toks + 1 }) hS' hl fun h' b sb hS2 => ?_)))
    rw [← setT_take hz] at hS2
    refine wpAny_pure ⟨plainId_quiet F.plain_set_update_loop _, ih (i + 1) _ (by omega) lt (W.frame _ s' _ _ st' (Nat.le_succ _) fun b hb o e => ?_) hS2 fun s2 m2 q2 => ?_⟩
    · rw [sb.2 b (fun h : b = S => hSf (h ▸ hb))]; exact e
    · refine hR s2 (Moved.trans W.gtrans ((hm.mono inc).then_heap (Nat.le_succ _) fun b o hb e => ?_) m2) q2
      rw [sb.2 b (fun h : b = S => hb (h ▸ List.mem_cons_self))]; exact e
theorem strs_at : ∀ {vs : List Value} {xs : List Str}, StrsAre vs xs → ∀ {i : Nat} {v : Value}, vs[i]? = some v → ∃ k t, xs[i]? = some k ∧ v = .str k t
  | _, _, .nil, i, v, h => by simp at h
  | _, _, .cons y t r, i, v, h => by
    cases i with
    | zero =>
      cases h
      exact ⟨y, t, rfl, rfl⟩
    | succ i => exact strs_at r h
theorem strs_len : ∀ {vs : List Value} {xs : List Str}, StrsAre vs xs → vs.length = xs.length
  | _, _, .nil => rfl
  | _, _, .cons y t r => congrArg Nat.succ (strs_len r)
end
section
variable {X : Cx}
/-- len(found) -/
theorem cr_lenTS : CallR X (.builtin "len") (fun vs H Q => ∃ (a : Addr) (l : List Str), vs = [V.ref a] ∧ H a = some (TSO X.w a l) ∧ Q (.int (l.length : Int)) H) := by
  intro pins s σ H vs us Q I r h
  obtain ⟨a, l, rfl, ha, q⟩ := h
  rw [Vals.ref1 r]
  obtain ⟨o, es, ep, t, ho, hex, hd, T⟩ := tso_get I ha
  have hs := T.size
  have hf := T.few
  have h4 : scanBound = 4096 := rfl
  refine PySem.call_len_set ho hex hd T.fit (by omega) ⟨.int _, H, I.tok _, ?_, q⟩
  rw [hs]
  exact ⟨_, rfl⟩
end
end
section
open PySem PySem.Spec PyProof.Rows
section
variable {P : Program} {w : World} {A : Around} {E : Value → Shared → Prop} {s : Shared}
set_option maxHeartbeats 4000000 in
theorem ts_ofList {l : Addr} {items : Array Value} {xs : List Str} {Q : Value → Shared → Prop} (hh : A.handled = none) (hl : s.heap.IsList l items) (hi : StrsAre items.toList xs) (hb : xs.length + 1 < scanBound)
    (h : ∀ (h' : Heap) (tk : Nat), TSet w h' s.heap.objs.size (setT xs) → (∀ b o, s.heap.get? b = some o → h'.get? b = some o) → Q (.ref s.heap.objs.size) { s with heap := h', toks := tk }) : wpAny (model P w) A (call (.type "set") [.ref l]) Q E s := by
  have hz : items.size = xs.length := by
    have q := strs_len hi
    rwa [Array.length_toList] at q
  obtain ⟨c, tl, hmro⟩ := F.called_set.mro
  have hmade := F.called_set.made
  have hsub := F.called_set.sub
  refine wpAny_call (codeAny_of_tree ?_)
  show wpAny _ _ (callAny (.type "set") _) _ _ _
  refine wpAny_pure ⟨Code.quiet_builtin _ (by decide +kernel), codeAny_builtin F.entry_type_call ?_⟩
  rw [Around.under_plain (weight_type_call_type "set" [.ref l] []) rfl]
  have h1 := F.called_set.notType
  have h2 := F.called_set.canCreate
  have hct := F.typeCall_set_1 (.ref l)
  repeat (any_goals (first | assumption | wp_step))
  refine codeAny_mono (L2.code_set_led1 (.ref l) (E := E) (Q₁ := fun obj z => obj = .ref s.heap.objs.size ∧ z = { s with heap := s.heap.push (set0 w) }) ⟨rfl, rfl⟩) fun r s1 hr => ?_
  cases r with
  | error e => exact hr
  | ok fl =>
    cases fl with
    | ret obj =>
      obtain ⟨rfl, rfl⟩ := hr
      have hS : (s.heap.push (set0 w)).get? s.heap.objs.size = some (set0 w) := Heap.get?_push_size _ rfl
      have hT : Shared.TypeIs { s with heap := s.heap.push (set0 w) } (.ref s.heap.objs.size) "set" := ⟨_, hS, rfl⟩
      have hli := F.called_set.init.lookup
      have hbi := F.called_set.init.bind (.ref s.heap.objs.size)
      repeat (any_goals (first | assumption | wp_step))
      refine codeAny_mono (codeAny_call_builtin (R := wants (fun r z => r = .none ∧ ∃ h' tk, z = { s with heap := h', toks := tk } ∧ TSet w h' s.heap.objs.size (setT xs) ∧ ∀ b o, s.heap.get? b = some o → h'.get? b = some o) E) F.called_set.init.plain F.entry_set_init (check_set_init_1 hT ?_)) fun r2 s2 hr2 => ?_
      · obtain ⟨ol, hol, hcl, nl, hdl⟩ := hl
        obtain ⟨oc, od, oda, os⟩ := ol
        simp only at hcl hdl
        subst hcl hdl
        have ho' : (s.heap.push (set0 w)).get? l = some { cls := .type "list", dict := od, data := .seq items nl, slots := os } := Heap.get?_push_of_some _ hol
        have hsls := F.sub_list_set
        have hslf := F.sub_list_frozenset
        have hne : (Value.type "list" == Value.type "dict") = false := by decide
        have hl1 : (s.heap.push (set0 w)).IsList l items := ⟨_, ho', rfl, nl, rfl⟩
        unfold Builtin.«set.__init__» noKeywords Builtin.Frozenset.updateFrom
        generalize hPI : pyIter = PI
        wp_walk
        subst hPI
        refine wpAny_pyIter_list hl1 (wpAny_bind (wpAny_runValue ?_))
        have hlS : l < s.heap.objs.size := Heap.lt_size hol
        have h3 : A.in1.in1.in1.handled = none := by simp [hh]
        have sz : (s.heap.push (set0 w)).objs.size = s.heap.objs.size + 1 := Heap.size_push ..
        refine ts_update ((Walks.list h3 _ l (by rw [sz]; exact Nat.ne_of_lt (Nat.lt_succ_of_lt hlS)) items).toS) s.heap.objs.size ?_ xs hz hb (fun i v hv => strs_at hi (by rw [Array.getElem?_toList]; exact hv)) (items.size - 0) 0 _ (by omega) (Nat.zero_le _)
          ⟨⟨_, Heap.get?_push_size _ rfl, rfl, rfl⟩, hl1.push _⟩ (TSet.first (Heap.get?_push_of_some _ hS)) fun s' hm hS' => ?_
        · rw [sz]
          simp only [List.mem_cons, List.not_mem_nil, or_false, not_or]
          exact ⟨Nat.ne_of_lt (Nat.lt_succ_self _), Nat.ne_of_gt hlS⟩
        · obtain ⟨h', g2, d', tk', os'⟩ := s'
          have eg : g2 = s.gens := hm.gens
          have ed : d' = s.drawn := hm.drawn
          have eo : os' = s.os := hm.os
          subst eg ed eo
          show wpAny _ _ _ _ _ _
          refine wpAny_pure ?_
          show wpAny _ _ (ret Value.none) _ _ _
          refine wpAny_pure ⟨rfl, h', tk', rfl, hS', fun b o e => ?_⟩
          have b0 := Heap.lt_size e
          refine hm.heap b o ?_ (Heap.get?_push_of_some _ (Heap.get?_push_of_some _ e))
          rw [sz]
          simp only [List.mem_cons, List.not_mem_nil, or_false, not_or]
          exact ⟨Nat.ne_of_lt b0, Nat.ne_of_lt (Nat.lt_succ_of_lt b0)⟩
      · cases r2 with
        | error e => exact hr2
        | ok fl2 =>
          cases fl2 with
          | ret r =>
            obtain ⟨rfl, h', tk, rfl, hS', hk'⟩ := hr2
            repeat (any_goals (first | assumption | wp_step))
            exact h _ _ hS' hk'
          | _ => exact hr2.elim
    | _ => exact hr.elim
end
section
variable {X : Cx}
/-- set(xs), xs a list of texts -/
theorem cr_setTSL (hc : X.calm = true) : CallR X (.type "set") (fun vs H Q => ∃ (p : Addr) (xs : List Str), vs = [V.ref p] ∧ SqL X.K H p (xs.map V.str) ∧ xs.length + 1 < scanBound ∧ ∀ q, H q = none → Q (.ref q) (upd H q (TSO X.w q (setT xs)))) := by
  intro pins s σ H vs us Q I r h
  obtain ⟨p, xs, rfl, hs, hb, q⟩ := h
  rw [Vals.ref1 r]
  obtain ⟨its, rv, hl, _⟩ := I.list hs
  refine ts_ofList (I.ok.hd hc) hl.isList (xs := xs) (by simpa using rv.strs) hb fun h' tk R k => ?_
  exact ⟨.ref _, upd H s.heap.objs.size (TSO X.w s.heap.objs.size (setT xs)), I.laid (t' := tk) k (Nat.le_refl _) (tso_new R), rfl, q _ (I.hok.fresh (Nat.le_refl _))⟩
end
end
/-! ### own classes: o[i], o[i] = v, x in o -/
section
open PySem PySem.Spec PyProof.Rows
variable {X : Cx} {CX : CXT} {k : Nat} {C f a dx : Addr} {fs : List (Str × V)} {fd : FuncData} {ps : List Str} {sp : Sp} {E : L2.St → XK} {pins : List (Addr × Obj)} {σ : L2.St} {H : Hp} {s : Shared}
theorem own_at (I : Inv X pins σ H s) (ea : H a = some (.ins C dx fs)) : ∃ od, PySem.W.InstAt s.heap a (PySem.W.instObj C dx) C (some od) := by
  obtain ⟨mA, O, _⟩ := ins_get I.hok ea
  obtain ⟨od, J, _⟩ := O.look
  exact ⟨od, J⟩
/-- a method of the class, called below the place -/
theorem run_in1 {us : List Value} {vs : List V} {Q : VK} (F : FnOk X.prog X.w X.K X.mg X.base CX k f fd ps sp) (hr : Room (k + 1) X.A) (hb : L2.Binds X.K fd ps []) (hx : PassesAt CX X σ (E σ)) (I : Inv X pins σ H s) (r : Vals vs us) (h : sp vs H Q (E σ)) :
    wpAny (model X.prog X.w) X.A.in1 (call (.ref f) us) (EP X pins σ Q) X.xe s := by
  have hl : (us ++ []).length = ps.length := by rw [List.append_nil, ← r.length]; exact F.len _ _ _ _ h
  have b := hb s us I.kIn hl
  rw [List.append_nil] at b
  refine wpAny_call (codeAny_mono (F.run X.A.in1 X.stack s H ⟨us, []⟩ us vs Q (E σ) hr.in1 I.env0.in1 b r h) fun q s' hq => ?_)
  match q, hq with
  | .error e, hq => exact hx pins H s e s' I hq
  | .ok (.ret u), hq => exact I.after hq
  | .ok .next, hq => exact hq.elim
  | .ok .brk, hq => exact hq.elim
  | .ok .cont, hq => exact hq.elim
theorem run_here {us : List Value} {vs : List V} {Q : VK} (F : FnOk X.prog X.w X.K X.mg X.base CX k f fd ps sp) (hr : Room k X.A) (hb : L2.Binds X.K fd ps []) (hx : PassesAt CX X σ (E σ)) (I : Inv X pins σ H s) (r : Vals vs us) (h : sp vs H Q (E σ)) :
    wpAny (model X.prog X.w) X.A (call (.ref f) us) (EP X pins σ Q) X.xe s := by
  have e0 : vs ++ ([] : List V) = vs := List.append_nil vs
  exact run_fnSD (dvs := []) F hr hb .nil hx I r (e0.symm ▸ h)
def tGetO (C : Addr) (sp : Sp) (E : L2.St → XK) (ta tb : TE) : TE := fun σ H Q => ta σ H fun x H1 => tb σ H1 fun y H2 => ∃ a dx fs, x = .ref a ∧ H2 a = some (.ins C dx fs) ∧ sp [.ref a, y] H2 Q (E σ)
theorem pe_getO {o i : Expr} {ta tb : TE} {pos : Pos} (ho : PE X o ta) (hi : PE X i tb) (hm : Meth X.K C "__getitem__" f) (hfn : PySem.W.fnIn X.K f = true) (F : FnOk X.prog X.w X.K X.mg X.base CX k f fd ps sp) (hr : Room (k + 1) X.A) (hb : L2.Binds X.K fd ps []) (hx : ∀ σ, PassesAt CX X σ (E σ))
    (hsl : ∀ v u, subscripted i true v u = runValue (.builtin "lifetime.subscript" ⟨[v, u], []⟩) := by intro _ _; with_unfolding_all rfl) : PE X (.Subscript o i pos) (tGetO C sp E ta tb) := by
  refine ⟨fun pins s σ H Q I h => ?_⟩
  refine Subscript_ (binT ho hi I h fun v u s2 x y H2 I2 rx ry q => ?_)
  obtain ⟨a, dx, fs, rfl, ea, q⟩ := q
  cases (show v = Value.ref a from rx)
  obtain ⟨od, J⟩ := own_at I2 ea
  have fi := hm.fn
  unfold PySem.W.fnIn at hfn
  split at hfn
  · rename_i e
    unfold subscriptTail getitemInPython
    refine wpAny_bind (wpAny_bind (wpAny_bind (J.type.here ((PySem.W.looks_findIn I2.kIn hm.at_).here ?_))))
    dsimp only
    refine wpAny_bind (wpAny_load (I2.kIn _ _ e) (wpAny_pure ?_))
    dsimp only
    rw [hsl]
    refine wpAny_bind (wpAny_runValue (codeAny_builtin PySem.W.entry_sub ?_))
    unfold Builtin.«lifetime.subscript»
    refine wpAny_bind (PySem.W.special_fn I2.kIn J hm.at_ (beq_iff_eq.mp fi) (wpAny_mono (run_in1 F hr hb (hx σ) I2 (vs := [.ref a, y]) (.cons rfl (.cons ry .nil)) q) (fun z s3 hz => wpAny_pure ?_) fun _ _ z => z))
    show wpAny (model X.prog X.w) X.A (letTemporaryGo o (.ref a) z >>= fun _ => pure z) _ _ s3
    exact wpAny_bind (wpAny_letTemporaryGo (wpAny_pure hz))
  · cases hfn
def gSetO (C : Addr) (sp : Sp) (E : L2.St → XK) (to ti : TE) : TG := fun v σ H Q => to σ H fun o H1 => ti σ H1 fun i H2 => ∃ a dx fs, o = .ref a ∧ H2 a = some (.ins C dx fs) ∧ sp [.ref a, i, v] H2 (fun _ H3 => Q σ H3) (E σ)
theorem pg_setO {o i : Expr} {to ti : TE} {pos : Pos} (ho : PE X o to) (hi : PE X i ti) (hm : Meth X.K C "__setitem__" f) (hq : PySem.W.noSeq X.K C = true) (F : FnOk X.prog X.w X.K X.mg X.base CX k f fd ps sp) (hr : Room k X.A) (hb : L2.Binds X.K fd ps []) (hx : ∀ σ, PassesAt CX X σ (E σ))
    (ha : ∀ v, assign (.Subscript o i pos) X.env v = (do
      let ov ← holding [v] (eval o X.env)
      let iv ← holding [v, ov] (eval i X.env)
      standAt pos
      holding [v, ov, iv] (setItem ov iv v)
      release [v, ov, iv] []) := by intro _; rfl) : PG X (.Subscript o i pos) (gSetO C sp E to ti) := by
  refine ⟨fun pins s σ H v u Q I r h => ?_⟩
  rw [ha]
  refine wpAny_bind (wpAny_holding (thn (ho.run pins s σ H _ I h) fun ov s1 ⟨x, H1, I1, r1, q1⟩ => wpAny_bind (wpAny_holding (thn (hi.run pins s1 σ H1 _ I1 q1) fun iv s2 ⟨y, H2, I2, r2, a, dx, fs, ex, ea, q2⟩ => ?_))))
  subst ex
  cases (show ov = Value.ref a from r1)
  obtain ⟨od, J⟩ := own_at I2 ea
  refine wpAny_bind (wpAny_standAt (wpAny_bind (wpAny_holding ?_)))
  unfold setItem sequenceKey
  refine wpAny_holding (wpAny_bind (wpAny_bind (J.type.here (wpAny_bind ((PySem.W.anyM_none I2.kIn hq).here ?_)))))
  rw [if_pos (show (!false) = true from rfl)]
  refine wpAny_pure (wpAny_bind (PySem.W.special_fn I2.kIn J hm.at_ (beq_iff_eq.mp hm.fn) (wpAny_mono (run_here F hr hb (hx σ) I2 (vs := [.ref a, y, v]) (.cons rfl (.cons r2 (.cons r .nil))) q2) (fun z s3 hz => wpAny_pure ?_) fun _ _ z => z)))
  obtain ⟨_, H3, I3, _, q3⟩ := hz
  exact wpAny_release ⟨σ, H3, I3, q3⟩
/-- x in o; x not in o: __contains__ gives a truth value -/
def rInO (C : Addr) (neg : Bool) (sp : Sp) : R2 := fun x y H Q => ∃ a dx fs, y = .ref a ∧ H a = some (.ins C dx fs) ∧ sp [.ref a, x] H (fun v H' => ∃ b, v = .bl b ∧ Q (.bl (if neg = true then !b else b)) H') E0
theorem has_own {Q : Bool → Shared → Prop} {x : V} {v : Value} (I : Inv X pins σ H s) (rx : RelV x v) (ea : H a = some (.ins C dx fs)) (hm : Meth X.K C "__contains__" f) (F : FnOk X.prog X.w X.K X.mg X.base CX0 k f fd ps sp) (hr : Room k X.A) (hb : L2.Binds X.K fd ps []) {Qb : Bool → Hp → Prop}
    (h : sp [.ref a, x] H (fun v H' => ∃ b, v = .bl b ∧ Qb b H') E0) (hQ : ∀ b s' H', Inv X pins σ H' s' → Qb b H' → Q b s') : wpAny (model X.prog X.w) X.A (contains (.ref a) v) Q X.xe s := by
  obtain ⟨od, J⟩ := own_at I ea
  unfold contains
  refine wpAny_holding (wpAny_bind (wpAny_bind (J.type.here ((PySem.W.looks_findIn I.kIn hm.at_).here ?_))))
  rw [if_neg (by simp)]
  refine wpAny_bind (PySem.W.unlessNone_K I.kIn J hm.at_ hm.fn (wpAny_mono (run_here (E := fun _ => E0) F hr hb (fun _ _ _ _ _ _ z => z.elim) I (vs := [.ref a, x]) (.cons rfl (.cons rx .nil)) h) (fun z s3 hz => ?_) fun _ _ z => z))
  obtain ⟨w, H3, I3, rw', b, rfl, q⟩ := hz
  cases (show z = Value.bool b from rw')
  exact wpAny_truthy_bool (hQ b s3 H3 I3 q)
theorem op_inO (hm : Meth X.K C "__contains__" f) (F : FnOk X.prog X.w X.K X.mg X.base CX0 k f fd ps sp) (hr : Room k X.A) (hb : L2.Binds X.K fd ps []) : OpR X (compareOp .In) (rInO C false sp) := by
  intro pins s σ H x y v u Q I rx ry h
  obtain ⟨a, dx, fs, rfl, ea, q⟩ := h
  cases (show u = Value.ref a from ry)
  exact wpAny_bind (has_own I rx ea hm F hr hb (Qb := fun b H' => Q (.bl b) H') q fun b s' H' I' q' => wpAny_pure ⟨.bl b, H', I', rfl, q'⟩)
theorem op_notInO (hm : Meth X.K C "__contains__" f) (F : FnOk X.prog X.w X.K X.mg X.base CX0 k f fd ps sp) (hr : Room k X.A) (hb : L2.Binds X.K fd ps []) : OpR X (compareOp .NotIn) (rInO C true sp) := by
  intro pins s σ H x y v u Q I rx ry h
  obtain ⟨a, dx, fs, rfl, ea, q⟩ := h
  cases (show u = Value.ref a from ry)
  exact wpAny_bind (has_own I rx ea hm F hr hb (Qb := fun b H' => Q (.bl (!b)) H') q fun b s' H' I' q' => wpAny_pure ⟨.bl (!b), H', I', rfl, q'⟩)
theorem passL0 {X : Cx} {σ : L2.St} : PassesAt (L2.CX X.prog X.w) X σ E0 := fun pins H s e s' I c => passL pins σ H s e s' I c
end
/-! ### rules within a comprehension: the text's K by name -/
section
variable {X : Cx} {K : PySem.W.Frag}
theorem pe_fldK {o : Expr} {f : Str} {pos : Pos} {ta : TE} (hK : X.K = K) (ho : PE X o ta) (hab : attributeBase o f X.env (eval o X.env) = eval o X.env) : PE X (.Attribute o f pos) (tFld K ta f) := hK ▸ pe_fld ho hab
theorem op_inK (hK : X.K = K) : OpR X (compareOp .In) (rIn K false) := hK ▸ op_in_seq
theorem op_notInK (hK : X.K = K) : OpR X (compareOp .NotIn) (rIn K true) := hK ▸ op_notIn_seq
theorem ix_listK (hK : X.K = K) : IxR X (rIxL K) := hK ▸ ix_list
theorem ix_tupK (hK : X.K = K) : IxR X (rIxT K) := hK ▸ ix_tup
theorem op_eqDK (hK : X.K = K) (hu : X.A.units + 64 < cLine) : OpR X (compareOp .Eq) (rEqD K) := hK ▸ op_eqD hu
theorem op_neDK (hK : X.K = K) (hu : X.A.units + 64 < cLine) : OpR X (compareOp .NotEq) (rNeD K) := hK ▸ op_neD hu
end
/-! ### further rules within a comprehension -/
theorem call_len_seqK {X : Cx} {K : PySem.W.Frag} (hK : X.K = K) : CallR X (.builtin "len") (fun xs H Q => ∃ p ys, xs = [V.ref p] ∧ (SqL K H p ys ∨ SqT K H p ys) ∧ Q (V.int (ys.length : Int)) H) := hK ▸ call_len_seq
theorem pi_listK {X : Cx} {K : PySem.W.Frag} {tg l : Expr} {tl : TE} (hK : X.K = K) (hl : PE X l tl) : PI X tg l (iList K tl) := hK ▸ pi_list hl
theorem pi_tupK {X : Cx} {K : PySem.W.Frag} {tg l : Expr} {tl : TE} (hK : X.K = K) (hl : PE X l tl) : PI X tg l (iTup K tl) := hK ▸ pi_tup hl
/-! ### a dict comprehension over anything that is walked -/
section
open PySem PySem.Spec PyProof.Rows
theorem dc_it {J : It} {n : Nat} {G : Hp → Prop} {Y : Nat → Hp → V → Hp → Prop} (w : Walk J n G Y) {g : TG} {tt : TT} {tk tv : TE} {vs : List Nat} {σ : L2.St} {H1 : Hp} {D : Addr} {Qd : Hp → Prop} (Pv : Nat → Hp → Prop) (h0 : Pv 0 (upd H1 D (.dK []))) (hG : ∀ i H, i ≤ n → Pv i H → G H)
    (hs : ∀ i x H H', i < n → Pv i H → Y i H x H' → g x (wipe σ vs) H' fun σ2 H2 => wipe σ2 vs = wipe σ vs ∧ tt σ2 H2 fun b H3 =>
      if b = true then tk σ2 H3 fun y H4 => tv σ2 H4 fun z H5 => ∃ kvs k, y = kV k ∧ H5 D = some (.dK kvs) ∧ kvs.length < sizeLine ∧ Pv (i + 1) (upd H5 D (.dK (putK kvs k z))) else Pv (i + 1) H3) (hd : ∀ H, Pv n H → Qd H) :
    ∃ W : Nat → Nat → Hp → Prop, (∃ m, W 0 m (upd H1 D (.dK []))) ∧ ∀ i m H, W i m H →
      (J.stop i H ∧ Qd H) ∨ (J.go i H ∧ ∃ Nx : Hp → Prop, (∀ H', Nx H' → ∃ m', m' < m ∧ W (i + 1) m' H') ∧ ∀ x H', J.yld i H x H' → g x (wipe σ vs) H' fun σ2 H2 => wipe σ2 vs = wipe σ vs ∧ tt σ2 H2 fun b H3 =>
        if b = true then tk σ2 H3 fun y H4 => tv σ2 H4 fun z H5 => ∃ kvs k, y = kV k ∧ H5 D = some (.dK kvs) ∧ kvs.length < sizeLine ∧ Nx (upd H5 D (.dK (putK kvs k z))) else Nx H3) := by
  refine ⟨fun i m H => m = n - i ∧ i ≤ n ∧ Pv i H, ⟨n, by simp, Nat.zero_le _, h0⟩, ?_⟩
  rintro i m H ⟨rfl, hi, p⟩
  by_cases hlt : i < n
  · refine .inr ⟨w.goes i H hlt (hG i H hi p), Pv (i + 1), fun H' p' => ⟨n - (i + 1), by omega, rfl, hlt, p'⟩, fun x H' y => ?_⟩
    exact hs i x H H' hlt p (w.yields i H x H' hlt (hG i H hi p) y)
  · have e : i = n := by omega
    subst e
    exact .inl ⟨w.stops H (hG i H (Nat.le_refl _) p), hd H p⟩
theorem pg_tupK {X : Cx} {K : PySem.W.Frag} {es : List Expr} {k : Nat} {pos : Pos} {t : TGs} (n : Nat) (hK : X.K = K) (hc : X.calm = true) (h : PGs X es t)
    (hn : (assignEach es X.env).length = n := by rfl) (hst : (assignEach es X.env).findIdx? (·.1) = none := by rfl) : PG X (.Tuple es k pos) (gTup K n t) := hK ▸ pg_tup hc h hn hst
theorem call_tuple_ofK {X : Cx} {K : PySem.W.Frag} (hK : X.K = K) : CallR X (.type "tuple") (fun xs H Q => ∃ p ys, xs = [.ref p] ∧ ((SqL K H p ys ∧ ∀ l, H l = none → Q (.ref l) (upd H l (.tup ys))) ∨ (SqT K H p ys ∧ Q (.ref p) H))) := hK ▸ call_tuple_of
/-- a def with defaults that lets nothing out -/
theorem funD_ok {P : Program} {w : World} {K : PySem.W.Frag} {mg : Str → Option Value} {base : Heap} {x qual : Str} {params : Arguments} {body : List Stmt} {scope : Scope} {dvs : List V} {kws : List (Str × V)} {f : Addr} {fd : FuncData} {N ps : List Str} {k : Nat} {sp : Sp} (F : FunD K x qual params body scope dvs kws f fd) (S : FnScope N ps scope) (len : ∀ vs H Q E, sp vs H Q E → vs.length = ps.length)
    (hbody : ∀ (cdv : Value) (A : Around) (outer : List Env) (s : Shared) (H : Hp) (vs : List V) (Q : VK) (E : XK), Room k (A.deeper (envOfC qual scope s.heap.objs.size f cdv)) → sp vs H Q E →
      ∃ t, PSs (cxOf CX0 P w K mg base N qual scope f cdv A outer s H E).nox body t ∧ t { nx := fun _ H' => Q .non H', rt := Q } (start N vs) H) : FnOk P w K mg base CX0 (k + 1) f fd ps sp :=
  F.ok S len fun cdv A outer s H vs Q E hr h => by
    obtain ⟨t, p, q⟩ := hbody cdv A outer s H vs Q E hr h
    exact ⟨t, p.nox, q⟩
end
theorem ifF {p q : Prop} (h : q) : if false = true then p else q := by rw [if_neg (by simp)]; exact h
theorem ifT {p q : Prop} (h : p) : if true = true then p else q := by rw [if_pos rfl]; exact h
/-! ### sorted(list of data), of any length -/
section
open PySem PySem.Spec PyProof.Rows
/-- sorted(xs), the items of xs read as alike data: one list, the merge sort by the data -/
def rSortD (K : PySem.W.Frag) : List V → Hp → VK → Prop := fun vs H Q => ∃ (a : Addr) (bs : List (V × PyData)), vs = [V.ref a] ∧ SqL K H a (bs.map (·.1)) ∧ (∀ b ∈ bs, Dp K H b.1 b.2) ∧
  PySem.W.AllAlike (bs.map (·.2)) ∧ PySem.W.Sortable (bs.map (·.2)) ∧ (∀ b ∈ bs, b.2.depth ≤ 60) ∧
  ∀ p, H p = none → Q (.ref p) (upd H p (.lst ((bs.mergeSort (PySem.W.dataLe false (·.2))).map (·.1))))
theorem each_vals : ∀ {bs : List (V × PyData)} {us : List Value}, Vals (bs.map (·.1)) us → PySem.W.EachIs (fun v (b : V × PyData) => RelV b.1 v) us bs
  | [], _, r => by cases r; exact .nil
  | b :: bs, _, r => by
    cases r with
    | cons r rr => exact .cons r (each_vals rr)
theorem vals_each : ∀ {bs : List (V × PyData)} {us : List Value}, PySem.W.EachIs (fun v (b : V × PyData) => RelV b.1 v) us bs → Vals (bs.map (·.1)) us
  | _, _, .nil => .nil
  | _, _, .cons r rr => .cons r (vals_each rr)
theorem each_imp {R S : Value → V × PyData → Prop} : ∀ {bs : List (V × PyData)} {us : List Value}, (∀ b ∈ bs, ∀ u, R u b → S u b) → PySem.W.EachIs R us bs → PySem.W.EachIs S us bs
  | _, _, _, .nil => .nil
  | _, _, h, .cons r rr => .cons (h _ List.mem_cons_self _ r) (each_imp (fun b hb => h b (List.mem_cons_of_mem _ hb)) rr)
variable {X : Cx}
theorem cr_sortD (hu : X.A.units + 64 < cLine) : CallR X (.builtin "sorted") (rSortD X.K) := by
  intro pins s σ H vs us Q I r h
  obtain ⟨a, bs, rfl, hs, hd, hal, hk, hb, q⟩ := h
  obtain ⟨its, rv, hl, hz⟩ := I.list hs
  rw [Vals.ref1 r]
  have e := each_vals rv
  refine PySem.W.sorted_data hl.isList e (each_imp (fun b hb u ru => Dp.reads I b.2 b.1 u (hd b hb) ru) e) hal hk (by rw [List.length_map] at hz; exact hz) (fun b m => ?_) fun out e1 e2 => ?_
  · have := hb b m
    show X.A.units + 2 + b.2.depth < cLine
    omega
  · obtain ⟨ep, he'⟩ := PyProof.Rows.sortedAll_at s.heap its out.toArray
    have rv2 := vals_each e2
    have hlen : ((bs.mergeSort (PySem.W.dataLe false (·.2))).map (·.1)).length ≤ sizeLine := by
      rw [List.length_map, List.length_mergeSort]
      rw [List.length_map] at hz
      exact hz
    exact ⟨.ref _, upd H (s.heap.objs.size + 1) (.lst ((bs.mergeSort (PySem.W.dataLe false (·.2))).map (·.1))), I.laid (t' := s.toks) (fun _ _ => PyProof.Rows.sortedAll_old) (Nat.le_succ _) ⟨hlen, out, ep, rv2, he'⟩, rfl, q _ (I.hok.fresh (Nat.le_succ _))⟩
end
/-! ### data that stand, lists side by side -/
section
open PySem PySem.Spec PyProof.Rows
theorem same_seqT {K : PySem.W.Frag} {H H' : Hp} {a : Addr} {xs : List V} (e : Same H H') (h : SqT K H a xs) : SqT K H' a xs := by
  rcases h with (h | ⟨o, h⟩) | h
  · exact .inl (.inl (e _ _ h))
  · exact .inl (.inr ⟨o, e _ _ h⟩)
  · exact .inr h
mutual
theorem dp_same {K : PySem.W.Frag} {H H' : Hp} (e : Same H H') : ∀ {d : PyData} {v : V}, Dp K H v d → Dp K H' v d
  | _, _, .non => .non
  | _, _, .bl b => .bl b
  | _, _, .int i => .int i
  | _, _, .str x => .str x
  | _, _, .lst h r => .lst (e.seq h) (dpa_same e r)
  | _, _, .tup h r => .tup (same_seqT e h) (dpa_same e r)
theorem dpa_same {K : PySem.W.Frag} {H H' : Hp} (e : Same H H') : ∀ {ds : List PyData} {vs : List V}, DpAll K H vs ds → DpAll K H' vs ds
  | _, _, .nil => .nil
  | _, _, .cons h r => .cons (dp_same e h) (dpa_same e r)
end
theorem dpa_app {K : PySem.W.Frag} {H : Hp} : ∀ {ds es : List PyData} {vs us : List V}, DpAll K H vs ds → DpAll K H us es → DpAll K H (vs ++ us) (ds ++ es)
  | _, _, _, _, .nil, r => r
  | _, _, _, _, .cons h q, r => .cons h (dpa_app q r)
theorem dpa_len {K : PySem.W.Frag} {H : Hp} : ∀ {ds : List PyData} {vs : List V}, DpAll K H vs ds → vs.length = ds.length
  | _, _, .nil => rfl
  | _, _, .cons _ q => congrArg Nat.succ (dpa_len q)
theorem dpa_zip {K : PySem.W.Frag} {H : Hp} : ∀ {ds : List PyData} {vs : List V}, DpAll K H vs ds → ∃ bs : List (V × PyData), vs = bs.map (·.1) ∧ ds = bs.map (·.2) ∧ ∀ b ∈ bs, Dp K H b.1 b.2
  | _, _, .nil => ⟨[], rfl, rfl, fun _ h => nomatch h⟩
  | _, _, .cons (v := v) (d := d) h q => by
    obtain ⟨bs, rfl, rfl, hb⟩ := dpa_zip q
    refine ⟨(v, d) :: bs, rfl, rfl, fun b m => ?_⟩
    rcases List.mem_cons.mp m with rfl | m
    · exact h
    · exact hb b m
theorem dpa_of {K : PySem.W.Frag} {H : Hp} : ∀ {bs : List (V × PyData)}, (∀ b ∈ bs, Dp K H b.1 b.2) → DpAll K H (bs.map (·.1)) (bs.map (·.2))
  | [], _ => .nil
  | b :: r, h => .cons (h b List.mem_cons_self) (dpa_of fun x m => h x (List.mem_cons_of_mem _ m))
/-- the sorted data -/
def sortD (ds : List PyData) : List PyData := ds.mergeSort (PySem.W.dataLe false id)
theorem sortD_of (bs : List (V × PyData)) : (bs.mergeSort (PySem.W.dataLe false (·.2))).map (·.2) = sortD (bs.map (·.2)) :=
  List.map_mergeSort fun _ _ _ _ => rfl
theorem dpa_mem {K : PySem.W.Frag} {H : Hp} : ∀ {bs : List (V × PyData)}, DpAll K H (bs.map (·.1)) (bs.map (·.2)) → ∀ b ∈ bs, Dp K H b.1 b.2
  | [], _, _, m => nomatch m
  | _ :: _, .cons h q, _, m => by
    rcases List.mem_cons.mp m with rfl | m
    · exact h
    · exact dpa_mem q _ m
/-- all tuples stand -/
def TupK (H H' : Hp) : Prop := ∀ b l, H b = some (.tup l) → H' b = some (.tup l)
theorem TupK.of_same {H H' : Hp} (e : Same H H') : TupK H H' := fun b l h => e _ _ h
theorem TupK.trans {H H1 H2 : Hp} (a : TupK H H1) (b : TupK H1 H2) : TupK H H2 := fun c l h => b c l (a c l h)
theorem TupK.set {H : Hp} {D : Addr} {xs : List V} {o : HO} (h : H D = some (.lst xs)) : TupK H (upd H D o) := fun b l e => upd_oth (fun z => by rw [z, h] at e; cases e) e
/-- sorted(xs), xs a list of alike data -/
theorem call_sortD {K : PySem.W.Frag} {H : Hp} {a : Addr} {vs : List V} {ds : List PyData} {Q : VK} (hs : SqL K H a vs) (hd : ∀ H', TupK H H' → DpAll K H' vs ds) (al : PySem.W.AllAlike ds) (so : PySem.W.Sortable ds) (hk : ∀ d ∈ ds, d.depth ≤ 60)
    (q : ∀ p xs, H p = none → (∀ H', TupK H H' → DpAll K H' xs (sortD ds)) → xs.length = vs.length → Q (.ref p) (upd H p (.lst xs))) : rSortD K [.ref a] H Q := by
  obtain ⟨bs, rfl, rfl, hb⟩ := dpa_zip (hd H fun _ _ h => h)
  refine ⟨a, bs, rfl, hs, hb, al, so, fun b m => hk _ (List.mem_map_of_mem m), fun p hp => q p _ hp (fun H' e => ?_) (by rw [List.length_map, List.length_map, List.length_mergeSort])⟩
  rw [← sortD_of]
  exact dpa_of fun b m => dpa_mem (hd H' e) b (List.mem_mergeSort.mp m)
inductive A2 {α β : Type} (R : α → β → Prop) : List α → List β → Prop
  | nil : A2 R [] []
  | cons {x : α} {y : β} {xs : List α} {ys : List β} : R x y → A2 R xs ys → A2 R (x :: xs) (y :: ys)
theorem A2.imp {α β : Type} {R S : α → β → Prop} (h : ∀ x y, R x y → S x y) : ∀ {xs : List α} {ys : List β}, A2 R xs ys → A2 S xs ys
  | _, _, .nil => .nil
  | _, _, .cons r q => .cons (h _ _ r) (q.imp h)
theorem A2.app {α β : Type} {R : α → β → Prop} : ∀ {xs us : List α} {ys vs : List β}, A2 R xs ys → A2 R us vs → A2 R (xs ++ us) (ys ++ vs)
  | _, _, _, _, .nil, r => r
  | _, _, _, _, .cons h q, r => .cons h (q.app r)
theorem A2.len {α β : Type} {R : α → β → Prop} : ∀ {xs : List α} {ys : List β}, A2 R xs ys → xs.length = ys.length
  | _, _, .nil => rfl
  | _, _, .cons _ q => congrArg Nat.succ q.len
theorem A2.at {α β : Type} {R : α → β → Prop} : ∀ {xs : List α} {ys : List β}, A2 R xs ys → ∀ {i : Nat} {x : α}, xs[i]? = some x → ∃ y, ys[i]? = some y ∧ R x y
  | _, _, .nil, i, x, h => by simp at h
  | _, _, .cons r _, 0, _, h => by cases h; exact ⟨_, rfl, r⟩
  | _, _, .cons _ q, i + 1, _, h => q.at (i := i) h
end
/-! ### f(k = v, ..): a def called with keywords alone -/
section
open PySem PySem.Spec PyProof.Rows
variable {X : Cx} {CX : CXT} {k : Nat} {f : Addr} {fd : FuncData} {ps ks : List Str} {sp : Sp} {E : XK} {x : Str} {p pos : Pos} {kws : List Keyword} {tk : TA} {g : List Value → List Value → List Value} {gV : List V → List V → List V}
theorem pe_callN0 (F : FnOk X.prog X.w X.K X.mg X.base CX k f fd ps sp) (hr : Room k X.A) (hg : Gl X x) (hm : X.mg x = some (.ref f)) (hk : PySem.W.keepIn X.K (.ref f) = true) (hb : KBn X.K fd ps 0 ks g gV) (hx : Passes CX X E)
    (hkw : PK X kws tk) (hall : (backToKw pos (keywordEach kws X.env)).all (·.1.isSome) = true := by rfl) (hks : (backToKw pos (keywordEach kws X.env)).filterMap (·.1) = ks := by rfl)
    (hdb : (x == ("__debug__" : Str)) = false := by decide)
    (hpl : ((backTo pos (starEach [] X.env)).any (·.1) || (backToKw pos (keywordEach kws X.env)).any (·.1.isNone)) = false := by rfl) :
    PE X (.Call (.Name x p) [] kws pos) (tCallN 0 ks.length sp gV E tNil tk) := by
  refine ⟨fun pins s σ H Q I h => ?_⟩
  refine wpAny_Call_Name_kw (ld_glob I hg hm ?_ hdb)
  refine PySem.W.callWith_KW0 (h₀ := X.base) I.ok.mod.kin hk hall ?_ hpl
  refine thn (hkw.run pos pins s σ H _ I h) fun ws s2 ⟨zs, H2, I2, rz, l1, l2, q2⟩ => ⟨I2.kIn, ?_⟩
  rw [hks]
  exact run_fnN (us := []) (vs := []) F hr hb hx I2 .nil rz rfl l2 q2
end
/-! ### xs == [], xs != [], whatever the items are -/
section
open PySem PySem.Spec PyProof.Rows
variable {X : Cx}
def rEqNil (K : PySem.W.Frag) : R2 := fun x y H Q => ∃ a b xs, x = .ref a ∧ y = .ref b ∧ SqL K H a xs ∧ SqL K H b [] ∧ Q (.bl xs.isEmpty) H
def rNeNil (K : PySem.W.Frag) : R2 := fun x y H Q => ∃ a b xs, x = .ref a ∧ y = .ref b ∧ SqL K H a xs ∧ SqL K H b [] ∧ Q (.bl (!xs.isEmpty)) H
theorem eqnil_run {pins : List (Addr × Obj)} {s : Shared} {σ : L2.St} {H : Hp} {a b : Addr} {xs : List V} {v u : Value} {A : Around} {E : Value → Shared → Prop} {Q : Value → Shared → Prop} (hu : A.units + 1 < cLine) (I : Inv X pins σ H s) (rx : RelV (.ref a) v) (ry : RelV (.ref b) u) (h1 : SqL X.K H a xs) (h2 : SqL X.K H b []) :
    ∃ its its2 : Array Value, v = .ref a ∧ u = .ref b ∧ s.heap.IsList a its ∧ s.heap.IsList b its2 ∧ its2.size = 0 ∧ its.size = xs.length := by
  obtain ⟨i1, r1, l1, _⟩ := I.list h1
  obtain ⟨i2, r2, l2, _⟩ := I.list h2
  cases rx
  cases ry
  cases r2
  exact ⟨_, _, rfl, rfl, l1.isList, l2.isList, rfl, by rw [List.size_toArray, ← r1.length]⟩
theorem op_eqNil (hu : X.A.units + 1 < cLine) : OpR X (compareOp .Eq) (rEqNil X.K) := by
  intro pins s σ H x y v u Q I rx ry h
  obtain ⟨a, b, xs, rfl, rfl, h1, h2, q⟩ := h
  obtain ⟨its, its2, rfl, rfl, l1, l2, z2, z1⟩ := eqnil_run (A := X.A) (E := X.xe) (Q := fun _ _ => True) hu I rx ry h1 h2
  cases xs with
  | nil => exact SeqAt.eq_listAt (e := fun _ => true) l1 l2 (by rw [z1, z2]; rfl) (by omega) (fun j h1 => by rw [z1] at h1; exact absurd h1 (Nat.not_lt_zero _)) ⟨.bl true, H, I, by rw [z1]; rfl, q⟩
  | cons x r => exact SeqAt.eq_list_lengthsAt l1 l2 (by rw [z1, z2]; rfl) (by omega) ⟨.bl false, H, I, rfl, q⟩
theorem op_neNil (hu : X.A.units + 1 < cLine) : OpR X (compareOp .NotEq) (rNeNil X.K) := by
  intro pins s σ H x y v u Q I rx ry h
  obtain ⟨a, b, xs, rfl, rfl, h1, h2, q⟩ := h
  obtain ⟨its, its2, rfl, rfl, l1, l2, z2, z1⟩ := eqnil_run (A := X.A) (E := X.xe) (Q := fun _ _ => True) hu I rx ry h1 h2
  cases xs with
  | nil => exact SeqAt.RcNeAt.lists (e := fun _ => true) l1 l2 (by rw [z1, z2]; rfl) (by omega) (fun j h1 => by rw [z1] at h1; exact absurd h1 (Nat.not_lt_zero _)) X.prog X.w X.xe _ ⟨.bl false, H, I, by rw [z1]; rfl, q⟩
  | cons x r => exact SeqAt.RcNeAt.lists_lengths l1 l2 (by rw [z1, z2]; rfl) (by omega) X.prog X.w X.xe _ ⟨.bl true, H, I, rfl, q⟩
end
/-! ### sorted(dict of texts) -/
section
open PySem PySem.Spec PyProof.Rows
theorem strs_nth : ∀ {vs : List Value} {xs : List Str}, vs.length = xs.length → (∀ (j : Nat) (v : Value), vs[j]? = some v → ∃ x t, xs[j]? = some x ∧ v = .str x t) → StrsAre vs xs
  | [], [], _, _ => .nil
  | v :: vs, x :: xs, hl, h => by
    obtain ⟨y, t, e, rfl⟩ := h 0 v rfl
    cases e
    exact .cons _ _ (strs_nth (Nat.succ.inj hl) fun j u e => h (j + 1) u e)
  | [], _ :: _, hl, _ => nomatch hl
  | _ :: _, [], hl, _ => nomatch hl
section
variable {P : Program} {w : World} {A : Around} {E : Value → Shared → Prop} {s : Shared} {T : String} {r d : Addr} {n : Nat} {Pv : Nat → Value → Prop} {OK : Heap → Prop}
/-- collecting from a dict: the heap grows -/
theorem collect_more {R : List Value → Shared → Prop} (S : PySem.W.KdlSrc P w T r d n Pv OK) (hh : A.handled = none) (ho : OK s.heap) (hn : n ≤ sizeLine)
    (q : ∀ (h' : Heap) (tk : Nat) (acc : Array Value), (∀ b o, s.heap.get? b = some o → h'.get? b = some o) → s.heap.objs.size < h'.objs.size → ItemsOf Pv acc n → R acc.toList { s with heap := h', toks := tk }) : wpAny (model P w) A (collect (.ref r)) R E s := by
  have lt := S.there _ ho
  have new0 : (s.heap.push { cls := .type "list", data := .seq ([] : List Value).toArray }).get? s.heap.objs.size = some { cls := .type "list", data := .seq #[] } := Heap.get?_push_size _ rfl
  unfold collect
  refine wpAny_bind (wpAny_runValue (codeAny_builtin entry_proto_collect' ?_)); rw [Around.under_plainId PySem.F.plain_proto_collect _]
  show wpAny _ A.in1 (newList [] >>= fun l => again (.builtin "list.__iadd__" ⟨[l, .ref r], []⟩)) _ _ s; refine wpAny_bind (wpAny_newObj_type (wpAny_pure ⟨plainId_quiet PySem.F.plain_list_iadd _, codeAny_builtin entry_list_iadd' ?_⟩)); rw [Around.under_plainId PySem.F.plain_list_iadd _]
  refine wpAny_mono (PySem.W.kdl_extend (A := A) (s := { s with heap := s.heap.push { cls := .type "list", data := .seq ([] : List Value).toArray } })
    (R := fun (z : Result) (s2 : Shared) => ∃ (g : Heap) (t : Nat) (ac : Array Value) (c : Nat), z = .ok (.ret (.ref s.heap.objs.size)) ∧ s2 = { s with heap := g, toks := t } ∧ (∀ b o, s.heap.get? b = some o → g.get? b = some o) ∧ g.get? s.heap.objs.size = some { cls := .type "list", dict := none, data := .seq ac c, slots := #[] } ∧ ItemsOf Pv ac n)
    S hh (S.keep _ _ ho fun b _ o e => Heap.get?_push_of_some _ e) s.heap.objs.size (Nat.ne_of_gt lt.1) (Nat.ne_of_gt lt.2) (.ref s.heap.objs.size) 0 new0 (fun g t ac c k hS ha => ⟨g, t, ac, c, rfl, rfl, fun b o e => k b o (Nat.ne_of_lt (Heap.lt_size e)) (Heap.get?_push_of_some _ e), hS, ha⟩) hn) (fun fin s2 x => ?_) fun e s2 x => ?_
  · match fin, x with
    | .done f, ⟨g, t, ac, c, e, es, k, hS, ha⟩ =>
      subst es; cases e
      show wpAny _ A (load s.heap.objs.size >>= _) _ _ _; exact wpAny_bind (wpAny_load hS (wpAny_pure (q g t ac k (Heap.lt_size hS) ha)))
    | .again c1, x =>
      refine ⟨x.1, codeAny_mono x.2 fun z s3 y => ?_⟩
      obtain ⟨g, t, ac, c, rfl, rfl, k, hS, ha⟩ := y
      show wpAny _ A (load s.heap.objs.size >>= _) _ _ _; exact wpAny_bind (wpAny_load hS (wpAny_pure (q g t ac k (Heap.lt_size hS) ha)))
  · obtain ⟨_, _, _, _, z, _⟩ := x
    cases z
end
section
variable {X : Cx}
/-- sorted(d), d a dict with texts as keys -/
theorem cr_sortDK (hc : X.calm = true) : CallR X (.builtin "sorted") (fun vs H Q => ∃ (a : Addr) (kvs : List (Key × V)) (xs : List Str), vs = [V.ref a] ∧ H a = some (.dK kvs) ∧ kvs.map (·.1) = xs.map Sum.inr ∧ ∀ p, H p = none → Q (.ref p) (upd H p (.lst ((sortT xs).map V.str)))) := by
  intro pins s σ H vs us Q I r h
  obtain ⟨a, kvs, xs, rfl, ha, hk, q⟩ := h
  rw [Vals.ref1 r]
  obtain ⟨z, hd, ws, rel, dd⟩ := dk_of I.hok ha
  obtain ⟨ep, hat⟩ := dd.dictAt
  have hks : ws.map (·.1) = xs.map Sum.inr := rel.keys ▸ hk
  have hlw : ws.length = xs.length := by
    have := congrArg List.length hks
    rwa [List.length_map, List.length_map] at this
  have hlx : xs.length ≤ sizeLine := by rw [← hlw, ← rel.length]; exact z
  refine Calls.call_function_entry kind_sorted plain_sorted entry_sorted (args_sorted1 _) ?_
  unfold Builtin.«sorted»
  refine wpAny_bind (m := checkCount "sorted" 1 1 _) (wpAny_pure (wpAny_bind (collect_more (A := X.A.in1) (PySem.W.kdl_dict (knd := mixKind X.prog X.w) (kvs := ws) (ep := ep) hd) (I.ok.hd hc) hat (by rw [hlw]; exact hlx) fun h' tk acc k1 hlt hacc => ?_)))
  have hl : acc.toList.length = xs.length := by rw [Array.length_toList, ← hlw]; exact hacc.1
  have hS : StrsAre acc.toList xs := strs_nth hl fun j v hv => by
    obtain ⟨k, x, e, hi⟩ := hacc.2 j v (by rw [← Array.getElem?_toList]; exact hv)
    have hx : (xs.map Sum.inr : List Key)[j]? = some k := by rw [← hks, List.getElem?_map, e]; rfl
    rw [List.getElem?_map] at hx
    cases ex : xs[j]? with
    | none => rw [ex] at hx; cases hx
    | some y =>
      rw [ex] at hx
      cases hx
      rcases keyIs_shape (show keyIs (Sum.inr y) v = true from hi) with ⟨i, t, e1, e2⟩ | ⟨x', t, e1, e2⟩
      · cases e1
      · cases e1
        exact ⟨_, t, rfl, e2⟩
  have hL : acc.toList.length ≤ sizeLine := by rw [hl]; exact hlx
  refine wpAny_bind (wpAny_newList ?_ hL)
  have hoL : (h'.push (seqObj "list" acc.toList.toArray 0)).get? h'.objs.size = some (seqObj "list" acc.toList.toArray 0) := Heap.get?_push_size _ rfl
  refine wpAny_bind (wpAny_holding (wpAny_call_entry slot_list_sort ⟨_, hoL, rfl⟩ entry_list_sort (list_sort_treeKAny strKind_oneLt hoL hS.keysOf (fun v₁ v₂ rest e => keyKind_strs (by rw [← e]; exact hS)) hL fun st' hp hs => ⟨_, rfl, ?_⟩) (args_list_sort _)))
  obtain ⟨ys, h1, h2, h3⟩ := sorted_out_str hS hp hs
  obtain ⟨c, hcc⟩ := sortedHeap_at (vs := acc.toList) (out := (arrOf st').map (·.2)) hoL
  rw [sortT_of h2 h3] at h1
  have hge : s.heap.objs.size ≤ h'.objs.size := Nat.le_of_lt hlt
  have hn : H h'.objs.size = none := I.hok.fresh hge
  have k2 : ∀ b o, s.heap.get? b = some o → (sortedHeap (h'.push (seqObj "list" acc.toList.toArray 0)) h'.objs.size acc.toList ((arrOf st').map (·.2))).get? b = some o := fun b u e => by
    have q := k1 b u e
    have lt := Heap.lt_size q
    rw [sortedHeap_old (Nat.ne_of_lt lt) (by rw [size_push']; exact Nat.lt_succ_of_lt lt)]
    exact Heap.get?_push_of_some _ q
  refine wpAny_pure ⟨_, rfl, ?_⟩
  exact ⟨.ref h'.objs.size, upd H h'.objs.size (.lst ((sortT xs).map V.str)), I.laid (t' := tk) k2 hge ⟨by rw [List.length_map, sortT_len]; exact hlx, ((arrOf st').map (·.2)).toList, c, vals_of_strs h1, hcc⟩, rfl, q _ hn⟩
end
end
/-! ### d.update(d2), both with ints and texts as keys -/
section
open PySem PySem.Spec PyProof.Rows
variable {X : Cx}
def rUpdK : V → List V → Hp → VK → Prop := fun x vs H Q => ∃ l b kvs more, x = .ref l ∧ vs = [.ref b] ∧ H l = some (.dK kvs) ∧ H b = some (.dK more) ∧ l ≠ b ∧ kvs.length + more.length ≤ sizeLine ∧ Q .non (upd H l (.dK (mergeK kvs more)))
theorem mt_updK : MtM X "dict.update" rUpdK := by
  intro pins s σ H x vs v us Q I rx rv h
  obtain ⟨l, b, kvs, more, rfl, rfl, hH, hB, hne, hz, q⟩ := h
  cases rx
  obtain ⟨u, rfl, ru⟩ := rv.one
  cases ru
  obtain ⟨z, hd, ws, rel, dd⟩ := dk_of I.hok hH
  obtain ⟨zB, hdB, wsB, relB, ddB⟩ := dk_of I.hok hB
  refine call_meetsIn PySem.F.slot_dict_update dd.typeIs PySem.F.entry_dict_update (PySem.F.args_dict_update_2 _ _) (meets_dict_update (mixKind X.prog X.w) l b hne hdB) ⟨ws, wsB, dd, ddB, by rw [← rel.length, ← relB.length]; exact hz, fun h' dd' _ hs => ⟨.non, _, ?_, rfl, q⟩⟩
  have he : ∃ q, h'.get? l = some q := let ⟨q, _, _, hq, _⟩ := dd'; ⟨q, hq⟩
  have hl : (mergeK kvs more).length ≤ sizeLine := by have := length_mergeK more kvs; omega
  exact d_write (t' := s.toks) I (by rw [hH]; exact True.intro) hs he (dk_new hl hd (KV.merge relB rel) dd')
end
/-! ### C(e, ..) with a wish by the caller's slots (in a try) -/
section
open PySem PySem.Spec PyProof.Rows
variable {X : Cx} {CX : CXT} {k : Nat} {f C : Addr} {fd : FuncData} {ps : List Str} {sp : Sp} {dvs : List V} {ds : List Value} {E : L2.St → XK} {x : Str} {p pos : Pos} {e : Expr} {es : List Expr} {t : TA}
def tMakeSD (C : Addr) (sp : Sp) (dvs : List V) (E : L2.St → XK) (t : TA) : TE := fun σ H Q => t σ H fun vs H1 => ∀ x dx, H1 x = none → H1 dx = none → dx ≠ x →
  sp (.ref x :: (vs ++ dvs)) (upd (upd H1 dx (.own x)) x (.ins C dx [])) (fun v H2 => v = .non ∧ Q (.ref x) H2) (E σ)
theorem run_makeSD {pins : List (Addr × Obj)} {σ : L2.St} {H : Hp} {s : Shared} {Q : VK} {us : List Value} {vs : List V} (M : L2.Mk X.K C f) (F : FnOk X.prog X.w X.K X.mg X.base CX k f fd ps sp) (hr : Room (k + 1) X.A) (hb : Binds X.K fd ps ds) (hd : Vals dvs ds)
    (hx : PassesAt CX X σ (E σ)) (I : Inv X pins σ H s) (r : Vals vs us)
    (h : ∀ x dx, H x = none → H dx = none → dx ≠ x → sp (.ref x :: (vs ++ dvs)) (upd (upd H dx (.own x)) x (.ins C dx [])) (fun v H2 => v = .non ∧ Q (.ref x) H2) (E σ)) :
    wpAny (model X.prog X.w) X.A (call (.ref C) us) (EP X pins σ Q) X.xe s := by
  have hq := h (s.heap.objs.size + 1) s.heap.objs.size (I.hok.fresh (Nat.le_succ _)) (I.hok.fresh (Nat.le_refl _)) (Nat.ne_of_lt (Nat.lt_succ_self _))
  have I2 := Inv.made (C := C) I
  have r2 : Vals (V.ref (s.heap.objs.size + 1) :: (vs ++ dvs)) (Value.ref (s.heap.objs.size + 1) :: (us ++ ds)) := .cons rfl (r.append hd)
  have hl : (Value.ref (s.heap.objs.size + 1) :: us ++ ds).length = ps.length := by
    have e := r2.length
    rw [F.len _ _ _ _ hq] at e
    exact e.symm
  refine wpAny_call (make_map (f := f) I.kIn M.makes M.init (beq_iff_eq.mp M.fn) (codeAny_mono (F.run _ X.stack _ _ ⟨Value.ref (s.heap.objs.size + 1) :: us, []⟩ (Value.ref (s.heap.objs.size + 1) :: (us ++ ds)) _ _ (E σ) (hr.make C us [])
    (I2.env0.make C us []) (hb _ (Value.ref (s.heap.objs.size + 1) :: us) I2.kIn hl) r2 hq) fun r s' hq' => ?_))
  cases r with
  | error e => exact hx pins _ _ e s' I2 hq'
  | ok fl =>
    cases fl with
    | ret u =>
      obtain ⟨v, H', I3, rv, ev, q3⟩ := I2.after hq'
      subst ev
      exact ⟨rv, ⟨V.ref (s.heap.objs.size + 1), H', I3, rfl, q3⟩⟩
    | next => exact False.elim hq'
    | brk => exact False.elim hq'
    | cont => exact False.elim hq'
theorem pe_makeSD (M : L2.Mk X.K C f) (F : FnOk X.prog X.w X.K X.mg X.base CX k f fd ps sp) (hr : Room (k + 1) X.A) (hg : Gl X x) (hm : X.mg x = some (.ref C)) (hb : Binds X.K fd ps ds) (hd : Vals dvs ds) (hx : ∀ σ, PassesAt CX X σ (E σ))
    (ha : PA X (e :: es) t) (hdb : (x == ("__debug__" : Str)) = false := by decide) (he : starEach (e :: es) X.env = (false, eval e X.env) :: starEach es X.env := by rfl) (hpl : (backTo pos (starEach es X.env)).any (·.1) = false := by rfl) :
    PE X (.Call (.Name x p) (e :: es) [] pos) (tMakeSD C sp dvs E t) := by
  refine ⟨fun pins s σ H Q I h => ?_⟩
  refine wpAny_Call_Name_kw (ld_glob I hg hm ?_ hdb)
  refine PySem.W.callWith_K (h₀ := X.base) I.ok.mod.kin M.kp (thn (ha.run pos pins s σ H _ I h) fun us s1 ⟨vs, H1, I1, r, q⟩ => ⟨I1.kIn, ?_⟩) he hpl
  exact run_makeSD M F hr hb hd (hx σ) I1 r q
end
/-! ### text * int; set(texts) inside a comprehension; len of an instance with its own __len__ -/
section
open PySem PySem.Spec PyProof.Rows
variable {X : Cx} {K : PySem.W.Frag}
theorem op_mul_str : OpR X (binaryOp .Mult) (fun x y H Q => ∃ (z : Str) (n : Nat), x = .str z ∧ y = .int (n : Int) ∧ z.length ≤ 16 ∧ n ≤ 1000 ∧ Q (.str (Txt.mul z (n : Int))) H) := by
  intro pins s σ H x y v u Q I rx ry h
  obtain ⟨z, n, rfl, rfl, hz, hn, q⟩ := h
  obtain ⟨t, rfl⟩ := rx
  obtain ⟨t', rfl⟩ := ry
  exact PySem.W.KXi.mul rfl hz (by omega) (by omega) fun t'' k _ _ => ⟨.str (Txt.mul z (n : Int)), H, I.tok _, ⟨_, rfl⟩, q⟩
theorem cr_setTSLK (hK : X.K = K) (hc : X.calm = true) : CallR X (.type "set") (fun vs H Q => ∃ (p : Addr) (xs : List Str), vs = [V.ref p] ∧ SqL K H p (xs.map V.str) ∧ xs.length + 1 < scanBound ∧ ∀ q, H q = none → Q (.ref q) (upd H q (TSO X.w q (setT xs)))) := hK ▸ cr_setTSL hc
variable {k : Nat} {C f : Addr} {fd : FuncData} {ps : List Str} {sp : Sp}
theorem cr_lenO (hm : Meth X.K C "__len__" f) (F : FnOk X.prog X.w X.K X.mg X.base CX0 k f fd ps sp) (hr : Room (k + 1) X.A) (hb : L2.Binds X.K fd ps []) :
    CallR X (.builtin "len") (fun xs H Q => ∃ a dx fs, xs = [V.ref a] ∧ H a = some (.ins C dx fs) ∧ sp [.ref a] H (fun v H' => ∃ n : Nat, v = .int (n : Int) ∧ n ≤ 1000000 ∧ Q v H') E0) := by
  intro pins s σ H xs us Q I r h
  obtain ⟨a, dx, fs, rfl, ea, q⟩ := h
  obtain ⟨od, J⟩ := own_at I ea
  rw [Vals.ref1 r]
  refine Calls.call_function_entry kind_len plain_len entry_len (args_len1 _) ?_; unfold Builtin.«len»
  refine wpAny_bind (m := oneArg "len" _) (wpAny_pure (wpAny_bind (m := callSpecial? (.ref a) (Str.ofString "__len__")) (PySem.W.special_fn I.kIn J hm.at_ (beq_iff_eq.mp hm.fn) (wpAny_mono (run_in1 (E := fun _ => E0) F hr hb (fun _ _ _ _ _ _ z => z.elim) I (vs := [.ref a]) (.cons rfl .nil) q) (fun u s3 hz => ?_) fun _ _ z => z))))
  obtain ⟨v, H3, I3, ru, n, rfl, hn, q3⟩ := hz
  obtain ⟨t, rfl⟩ : ∃ t, u = Value.int (n : Int) t := ru
  refine wpAny_bind (wpAny_holding (wpAny_pure (wpAny_bind (wpAny_letGo ?_))))
  show wpAny _ _ (if (n : Int) < 0 then _ else _) _ _ _; rw [if_neg (by omega)]
  show wpAny _ _ (if (n : Int) ≥ 2 ^ 63 then _ else _) _ _ _; rw [if_neg (by omega)]
  exact wpAny_bind (wpAny_mkInt (wpAny_pure ⟨_, rfl, .int (n : Int), H3, I3.tok _, ⟨_, rfl⟩, q3⟩))
end
/-! ### str(x) by an own __str__ -/
section
open PySem PySem.Spec PyProof.Rows
variable {X : Cx} {k : Nat} {C f : Addr} {fd : FuncData} {ps : List Str} {sp : Sp}
theorem call_strOwn (hs : PySem.W.findIn X.K (.ref C) "__str__" = some (some (.ref f))) (hf : PySem.W.isFn X.K (.ref f) = true) (F : FnOk X.prog X.w X.K X.mg X.base CX0 k f fd ps sp) (hr : Room (k + 2) X.A) (hb : L2.Binds X.K fd ps []) :
    CallR X (.type "str") (fun vs H Q => ∃ p dx fs, vs = [.ref p] ∧ H p = some (.ins C dx fs) ∧ sp [.ref p] H (fun v H' => (∃ z : Str, v = .str z) ∧ Q v H') E0) := by
  intro pins s σ H vs us Q I r h
  obtain ⟨p, dx, fs, rfl, hp, h⟩ := h
  rw [Vals.ref1 r]
  obtain ⟨od, J⟩ := own_at I hp
  have hr2 : Room k X.A.in1.in1 := (Room.in1 (Room.in1 hr))
  have hl : ([Value.ref p] ++ []).length = ps.length := F.len _ _ _ _ h
  have b := hb s [Value.ref p] I.kIn hl
  rw [List.append_nil] at b
  refine PySem.W.kso_call hr2.units0 I.kIn J hs hf ?_
  refine wpAny_call (codeAny_mono (F.run X.A.in1.in1 X.stack s H ⟨[.ref p], []⟩ [.ref p] [.ref p] (fun v H' => (∃ z : Str, v = .str z) ∧ Q v H') E0 hr2 I.env0.in1.in1 b (.cons rfl .nil) h) fun q s' hq => ?_)
  match q, hq with
  | .error e, hq => exact hq.elim
  | .ok (.ret u), hq =>
    obtain ⟨v, H', I', rv, ⟨z, ez⟩, q'⟩ := I.after hq
    subst ez
    obtain ⟨t, rfl⟩ := rv
    exact ⟨.str z, H', I', ⟨t, rfl⟩, q'⟩
  | .ok .next, hq => exact hq.elim
  | .ok .brk, hq => exact hq.elim
  | .ok .cont, hq => exact hq.elim
end
/-! ### == and != by an own __eq__ -/
section
open PySem PySem.Spec PyProof.Rows
variable {X : Cx} {k : Nat} {C f : Addr} {fd : FuncData} {ps : List Str} {sp : Sp}
/-- what stands at the right -/
inductive Rhs (K : PySem.W.Frag) (C : Addr) (H : Hp) : V → Prop
  | ins {q dx : Addr} {fs : List (Str × V)} (h : H q = some (.ins C dx fs)) : Rhs K C H (.ref q)
  | tup {q : Addr} {xs : List V} (h : H q = some (.tup xs)) (n : PySem.W.notFirst K C (.type "tuple") = true) : Rhs K C H (.ref q)
  | lst {q : Addr} {xs : List V} (h : H q = some (.lst xs)) (n : PySem.W.notFirst K C (.type "list") = true) : Rhs K C H (.ref q)
  | str (z : Str) (n : PySem.W.notFirst K C (.type "str") = true) : Rhs K C H (.str z)
  | non (n : PySem.W.notFirst K C (.type "NoneType") = true) : Rhs K C H .non
theorem rhs_looks {pins : List (Addr × Obj)} {σ : L2.St} {H : Hp} {s : Shared} {y : V} {u : Value} (I : Inv X pins σ H s) (ry : RelV y u) (h : Rhs X.K C H y) : ∃ tb, PySem.W.Looks (model X.prog X.w) s.heap (typeOf u) tb ∧ PySem.W.notFirst X.K C tb = true := by
  cases h with
  | @ins q dx fs h =>
    cases (show u = Value.ref q from ry)
    obtain ⟨od, J⟩ := own_at I h
    exact ⟨_, J.type, by simp [PySem.W.notFirst]⟩
  | @tup q xs h n =>
    cases (show u = Value.ref q from ry)
    obtain ⟨its, rv, ⟨o, e, hc, _⟩, _⟩ := I.tuple (SqT.of h)
    exact ⟨.type "tuple", by rw [← hc]; exact (PySem.W.Looks.ld e).andThen .now, n⟩
  | @lst q xs h n =>
    cases (show u = Value.ref q from ry)
    obtain ⟨its, rv, ⟨o, _, e, hc, _⟩, _⟩ := I.list (SqL.of h)
    exact ⟨.type "list", by rw [← hc]; exact (PySem.W.Looks.ld e).andThen .now, n⟩
  | str z n =>
    obtain ⟨t, rfl⟩ := ry
    exact ⟨_, PySem.W.Looks.of_pure rfl, n⟩
  | non n =>
    cases (show u = Value.none from ry)
    exact ⟨_, PySem.W.Looks.of_pure rfl, n⟩
def rEqO (K : PySem.W.Frag) (C : Addr) (sp : Sp) : R2 := fun x y H Q => ∃ p dx fs, x = .ref p ∧ H p = some (.ins C dx fs) ∧ Rhs K C H y ∧ sp [.ref p, y] H (fun v H' => ∃ b, v = .bl b ∧ Q (.bl b) H') E0
theorem op_eqOwn (hs : PySem.W.findIn X.K (.ref C) "__eq__" = some (some (.ref f))) (hf : PySem.W.isFn X.K (.ref f) = true) (F : FnOk X.prog X.w X.K X.mg X.base CX0 k f fd ps sp) (hr : Room k X.A) (hb : L2.Binds X.K fd ps []) : OpR X (compareOp .Eq) (rEqO X.K C sp) := by
  intro pins s σ H x y v u Q I rx ry h
  obtain ⟨p, dx, fs, rfl, hp, hy, h⟩ := h
  cases (show v = Value.ref p from rx)
  obtain ⟨od, J⟩ := own_at I hp
  obtain ⟨m, hF⟩ := I.fr
  obtain ⟨tb, L1, L2⟩ := rhs_looks I ry hy
  refine PySem.W.cmp_K (op := .Eq) (tb := tb) hr.units0 hF I.ok.mod.kin J L1 L2 hs hf ?_
  refine wpAny_mono (run_fn (us := [.ref p, u]) (vs := [.ref p, y]) (dvs := []) (E := E0) F hr hb .nil (fun _ _ _ _ _ _ _ z => z.elim) I (.cons rfl (.cons ry .nil)) h) (fun z s' hz => ?_) fun _ _ e => e
  obtain ⟨w', H', I', rw', b, eb, q'⟩ := hz
  subst eb
  cases (show z = Value.bool b from rw')
  exact ⟨.bl b, H', I', rfl, q'⟩
theorem ifBound_B {K : PySem.W.Frag} {M : Model} {A : Around} {E : Value → Shared → Prop} {s : Shared} {x C : Addr} {ox : Obj} {od : Option Obj} {name : Str} {id : String} {args : List Value} {Q : Option Value → Shared → Prop} (X : K.In s.heap) (I : PySem.W.InstAt s.heap x ox C od) (hs : PySem.W.findIn K (.ref C) name = some (some (.builtin id)))
    (hb : ∀ self, bindSpecial (.builtin id) self = pure (.builtin id, [self])) (h : wpAny M A (call (.builtin id) (.ref x :: args)) (fun v => Q (some v)) E s) : wpAny M A (callSpecialIfBound? (.ref x) name args) Q E s := by
  simp only [callSpecialIfBound?, bindSpecialIfBound?]
  refine wpAny_holding (wpAny_bind (wpAny_bind (wpAny_bind (I.type.here ((PySem.W.looks_findIn X hs).here ?_)))))
  refine wpAny_bind (wpAny_askSetting (wpAny_ite ?_))
  have fin : wpAny M A (call (.builtin id) ([.ref x] ++ args) >>= fun v => pure (some v)) Q E s := wpAny_bind (wpAny_mono h (fun v s' h' => wpAny_pure h') fun _ _ h' => h')
  split
  · exact wpAny_bind ((PySem.W.Looks.of_pure (hb _)).here (wpAny_pure (by exact fin)))
  · exact wpAny_tryCatch (wpAny_bind ((PySem.W.Looks.of_pure (hb _)).here (wpAny_pure (by exact fin))))
/-- object.__ne__ over an own __eq__ that gives a truth value -/
theorem ne_own {K : PySem.W.Frag} {prog : Program} {w : World} {A : Around} {E : Value → Shared → Prop} {s : Shared} {x C f : Addr} {ox : Obj} {od : Option Obj} {b : Value} {Q : Value → Shared → Prop} (hu : A.in1.units < cLine) (X : K.In s.heap) (I : PySem.W.InstAt s.heap x ox C od) (hm : PySem.W.mroIn K C (.type "object") = some true)
    (he : PySem.W.findIn K (.ref C) "__eq__" = some (some (.ref f))) (hf : PySem.W.isFn K (.ref f) = true) (h : wpAny (model prog w) A.in1 (call (.ref f) [.ref x, b]) (fun v s' => ∃ c, v = .bool c ∧ Q (.bool (!c)) s') E s) : wpAny (model prog w) A (call (.builtin "object.__ne__") [.ref x, b]) Q E s := by
  refine wpAny_call (codeAny_call_builtin PySem.F.cmp_object.ne.plain PySem.F.cmpEntry_ne (PySem.W.check_slot (i := "object.__ne__") (owner := "object") (n := "__ne__") PySem.F.cmpKind_ne PySem.F.cmpSplit_ne (I.type.andThen (PySem.W.looks_mroIn X hm)) (PySem.F.cmpArgs_ne _ _) ?_))
  unfold Builtin.«object.__ne__»
  refine wpAny_bind (wpAny_pure ?_)
  refine wpAny_bind (m := cRoomFor _ _) (wpAny_cRoomFor hu ?_)
  refine wpAny_bind (m := callSpecialIfBound? (.ref x) (Str.ofString "__eq__") _) (PySem.W.ifBound_K X I he hf (wpAny_mono h (fun r s' hq => ?_) fun _ _ y => y))
  obtain ⟨c, rfl, q⟩ := hq
  exact wpAny_bind (wpAny_truthy_bool (wpAny_pure q))
/-- all that the laws ask of a class with an own __eq__ -/
structure EqC (K : PySem.W.Frag) (C : Addr) : Prop where
  ha : PySem.W.findIn K (.ref C) "__class__" = some (some (.builtin "object.__class__"))
  hn : PySem.W.specialIn K (.builtin "object.__class__") "__get__" = some (some (.builtin "getset_descriptor.__get__"))
  ht : PySem.W.takesIn K (.builtin "object.__class__") = some true
  hm : PySem.W.mroIn K C (.type "object") = some true
  kO : PySem.W.kitOne K (.ref C) (.ref C) = some true
  kT : PySem.W.kitOne K (.type "tuple") (.ref C) = some false
  kS : PySem.W.kitOne K (.type "str") (.ref C) = some false
  kN : PySem.W.kitOne K (.type "NoneType") (.ref C) = some false
  nT : PySem.W.notFirst K C (.type "tuple") = true
  nS : PySem.W.notFirst K C (.type "str") = true
  nN : PySem.W.notFirst K C (.type "NoneType") = true
  ne : PySem.W.findIn K (.ref C) "__ne__" = some (some (.builtin "object.__ne__"))
theorem bind_ne (self : Value) : bindSpecial (.builtin "object.__ne__") self = pure (.builtin "object.__ne__", [self]) := rfl
theorem cmp_B {K : PySem.W.Frag} {prog : Program} {w : World} {A : Around} {E : Value → Shared → Prop} {s : Shared} {x C : Addr} {ox : Obj} {od : Option Obj} {b tb : Value} {op : CmpOp} {id : String} {Q : Value → Shared → Prop} (hu : A.units < cLine) (X : K.In s.heap) (I : PySem.W.InstAt s.heap x ox C od) (hb : PySem.W.Looks (model prog w) s.heap (typeOf b) tb) (hn : PySem.W.notFirst K C tb = true)
    (hs : PySem.W.findIn K (.ref C) (cmpInfo op).2.1 = some (some (.builtin id))) (hd : ∀ self, bindSpecial (.builtin id) self = pure (.builtin id, [self]))
    (h : wpAny (model prog w) A (call (.builtin id) [.ref x, b]) (PySem.W.CmpBack Q) E s) : wpAny (model prog w) A (richCompare op (.ref x) b) Q E s := by
  have one : wpAny (model prog w) A (tryCompare (.ref x) (cmpInfo op).2.1 b) (fun r s' => ∃ v, r = some v ∧ Q v s') E s := by
    unfold tryCompare
    refine wpAny_bind (ifBound_B X I hs hd (wpAny_mono h (fun v s' hv => ?_) fun _ _ e => e))
    cases v <;> first | exact hv.elim | exact wpAny_pure ⟨_, rfl, hv⟩
  unfold richCompare
  simp only [oneThing_ref]
  refine wpAny_holding (wpAny_bind (wpAny_cRoomFor hu ?_))
  refine wpAny_bind (I.type.here (wpAny_bind (hb.here ?_)))
  split
  · rename_i q
    have e : PySem.W.subIn K tb (.ref C) = some false := by
      rcases Bool.or_eq_true_iff.mp hn with e | e
      · rw [beq_iff_eq.mp e] at q; simp at q
      · exact beq_iff_eq.mp e
    refine wpAny_bind ((PySem.W.looks_subIn X e).here ?_)
    simp only [Bool.false_eq_true, if_false]
    refine wpAny_bind (wpAny_mono one (fun r s' z => ?_) fun _ _ e => e)
    obtain ⟨v, rfl, hq⟩ := z
    exact wpAny_pure hq
  · refine wpAny_bind (wpAny_pure ?_)
    simp only [Bool.false_eq_true, if_false]
    refine wpAny_bind (wpAny_mono one (fun r s' z => ?_) fun _ _ e => e)
    obtain ⟨v, rfl, hq⟩ := z
    exact wpAny_pure hq
def rNeO (K : PySem.W.Frag) (C : Addr) (sp : Sp) : R2 := fun x y H Q => ∃ p dx fs, x = .ref p ∧ H p = some (.ins C dx fs) ∧ Rhs K C H y ∧ sp [.ref p, y] H (fun v H' => ∃ b, v = .bl b ∧ Q (.bl !b) H') E0
theorem op_neOwn (c : EqC X.K C) (hs : PySem.W.findIn X.K (.ref C) "__eq__" = some (some (.ref f))) (hf : PySem.W.isFn X.K (.ref f) = true) (F : FnOk X.prog X.w X.K X.mg X.base CX0 k f fd ps sp) (hr : Room (k + 1) X.A) (hb : L2.Binds X.K fd ps []) : OpR X (compareOp .NotEq) (rNeO X.K C sp) := by
  intro pins s σ H x y v u Q I rx ry h
  obtain ⟨p, dx, fs, rfl, hp, hy, h⟩ := h
  cases (show v = Value.ref p from rx)
  obtain ⟨od, J⟩ := own_at I hp
  obtain ⟨tb, L1, L2⟩ := rhs_looks I ry hy
  refine cmp_B (op := .NotEq) (tb := tb) (id := "object.__ne__") hr.units0 I.kIn J L1 L2 c.ne bind_ne ?_
  refine ne_own (hr.in1).units0 I.kIn J c.hm hs hf ?_
  refine wpAny_mono (run_in1 (us := [.ref p, u]) (vs := [.ref p, y]) (E := fun _ => E0) F hr hb (fun _ _ _ _ _ _ z => z.elim) I (.cons rfl (.cons ry .nil)) h) (fun z s' hz => ?_) fun _ _ e => e
  obtain ⟨w', H', I', rw', b, eb, q'⟩ := hz
  subst eb
  cases (show z = Value.bool b from rw')
  exact ⟨b, rfl, .bl !b, H', I', rfl, q'⟩
theorem op_catAK {K : PySem.W.Frag} (hK : X.K = K) : OpR X (binaryOp .Add) (rCatA K) := hK ▸ op_catA
end
abbrev s_is_word : Stmt := top 8
theorem sc_is_word : FnScope ["thing", "letter"] ["thing"] (defScope s_is_word) := ⟨rfl, rfl, rfl, by decide +kernel, rfl, by decide +kernel, by decide +kernel⟩
abbrev s_Mode_is_mode : Stmt := inClass (top 9) 9
theorem sc_Mode_is_mode : FnScope ["thing"] ["thing"] (defScope s_Mode_is_mode) := ⟨rfl, rfl, rfl, by decide +kernel, rfl, by decide +kernel, by decide +kernel⟩
abbrev s_TooManyU_initU : Stmt := inClass (top 3) 0
abbrev s_BadLibraryU_initU : Stmt := inClass (top 4) 0
abbrev s_EndlessU_initU : Stmt := inClass (top 5) 0
abbrev s_NoFunctionU_initU : Stmt := inClass (top 6) 0
abbrev s_split_line : Stmt := top 12
theorem sc_split_line : FnScope ["line", "bare", "spaces", "words", "word"] ["line"] (defScope s_split_line) := ⟨rfl, rfl, rfl, by decide +kernel, rfl, by decide +kernel, by decide +kernel⟩
abbrev s_ReaderU_initU : Stmt := inClass (top 13) 0
theorem sc_ReaderU_initU : FnScope ["self", "lines", "line"] ["self", "lines"] (defScope s_ReaderU_initU) := ⟨rfl, rfl, rfl, by decide +kernel, rfl, by decide +kernel, by decide +kernel⟩
abbrev s_Reader_words_at : Stmt := inClass (top 13) 1
theorem sc_Reader_words_at : FnScope ["self", "nesting", "row"] ["self", "nesting"] (defScope s_Reader_words_at) := ⟨rfl, rfl, rfl, by decide +kernel, rfl, by decide +kernel, by decide +kernel⟩
abbrev s_Reader_wrong_if : Stmt := inClass (top 13) 2
theorem sc_Reader_wrong_if : FnScope ["self", "is_wrong"] ["self", "is_wrong"] (defScope s_Reader_wrong_if) := ⟨rfl, rfl, rfl, by decide +kernel, rfl, by decide +kernel, by decide +kernel⟩
abbrev s_Reader_read_all : Stmt := inClass (top 13) 3
theorem sc_Reader_read_all : FnScope ["self", "words", "name"] ["self"] (defScope s_Reader_read_all) := ⟨rfl, rfl, rfl, by decide +kernel, rfl, by decide +kernel, by decide +kernel⟩
abbrev s_Reader_read_body : Stmt := inClass (top 13) 4
theorem sc_Reader_read_body : FnScope ["self", "nesting", "found", "words"] ["self", "nesting"] (defScope s_Reader_read_body) := ⟨rfl, rfl, rfl, by decide +kernel, rfl, by decide +kernel, by decide +kernel⟩
abbrev s_Reader_read_statement : Stmt := inClass (top 13) 5
theorem sc_Reader_read_statement : FnScope ["self", "words", "nesting", "first"] ["self", "words", "nesting"] (defScope s_Reader_read_statement) := ⟨rfl, rfl, rfl, by decide +kernel, rfl, by decide +kernel, by decide +kernel⟩
abbrev s_Reader_read_block : Stmt := inClass (top 13) 6
theorem sc_Reader_read_block : FnScope ["self", "words", "nesting", "number"] ["self", "words", "nesting"] (defScope s_Reader_read_block) := ⟨rfl, rfl, rfl, by decide +kernel, rfl, by decide +kernel, by decide +kernel⟩
abbrev s_Reader_read_try : Stmt := inClass (top 13) 7
theorem sc_Reader_read_try : FnScope ["self", "nesting", "body", "handlers", "is_open", "listed", "final"] ["self", "nesting"] (defScope s_Reader_read_try) := ⟨rfl, rfl, rfl, by decide +kernel, rfl, by decide +kernel, by decide +kernel⟩
abbrev s_parts_of : Stmt := top 19
theorem sc_parts_of : FnScope ["statement", "found", "words", "body"] ["statement"] (defScope s_parts_of) := ⟨rfl, rfl, rfl, by decide +kernel, rfl, by decide +kernel, by decide +kernel⟩
abbrev s_listed_statements : Stmt := top 20
theorem sc_listed_statements : FnScope ["body", "is_guarded", "found", "statement", "part"] ["body", "is_guarded"] (defScope s_listed_statements) := ⟨rfl, rfl, rfl, by decide +kernel, rfl, by decide +kernel, by decide +kernel⟩
abbrev s_words_of : Stmt := top 21
theorem sc_words_of : FnScope ["statement", "found", "words", "body"] ["statement"] (defScope s_words_of) := ⟨rfl, rfl, rfl, by decide +kernel, rfl, by decide +kernel, by decide +kernel⟩
abbrev s_comes_back : Stmt := top 22
theorem sc_comes_back : FnScope ["name", "calls", "reached", "done", "other"] ["name", "calls"] (defScope s_comes_back) := ⟨rfl, rfl, rfl, by decide +kernel, rfl, by decide +kernel, by decide +kernel⟩
abbrev s_free_statements : Stmt := top 23
theorem sc_free_statements : FnScope ["body", "statement", "is_guarded"] ["body"] (defScope s_free_statements) := ⟨rfl, rfl, rfl, by decide +kernel, rfl, by decide +kernel, by decide +kernel⟩
abbrev s_weight_of : Stmt := top 24
theorem sc_weight_of : FnScope ["name", "bodies", "known"] ["name", "bodies", "known"] (defScope s_weight_of) := ⟨rfl, rfl, rfl, by decide +kernel, rfl, by decide +kernel, by decide +kernel⟩
abbrev s_body_weight : Stmt := top 25
theorem sc_body_weight : FnScope ["body", "bodies", "known", "found", "statement"] ["body", "bodies", "known"] (defScope s_body_weight) := ⟨rfl, rfl, rfl, by decide +kernel, rfl, by decide +kernel, by decide +kernel⟩
abbrev s_LibraryU_initU : Stmt := inClass (top 26) 0
theorem sc_LibraryU_initU : FnScope ["self", "text", "longest", "reader", "name"] ["self", "text", "longest"] (defScope s_LibraryU_initU) := ⟨rfl, rfl, rfl, by decide +kernel, rfl, by decide +kernel, by decide +kernel⟩
abbrev s_Library_stay_in_bounds : Stmt := inClass (top 26) 1
theorem sc_Library_stay_in_bounds : FnScope ["self", "counts", "what", "most"] ["self"] (defScope s_Library_stay_in_bounds) := ⟨rfl, rfl, rfl, by decide +kernel, rfl, by decide +kernel, by decide +kernel⟩
abbrev s_Library_come_to_an_end : Stmt := inClass (top 26) 2
theorem sc_Library_come_to_an_end : FnScope ["self", "calls", "known", "name", "free", "statement", "is_guarded", "one"] ["self"] (defScope s_Library_come_to_an_end) := ⟨rfl, rfl, rfl, by decide +kernel, rfl, by decide +kernel, by decide +kernel⟩
abbrev s_Library_functions : Stmt := inClass (top 26) 3
theorem sc_Library_functions : FnScope ["self"] ["self"] (defScope s_Library_functions) := ⟨rfl, rfl, rfl, by decide +kernel, rfl, by decide +kernel, by decide +kernel⟩
abbrev s_Library_records : Stmt := inClass (top 26) 4
theorem sc_Library_records : FnScope ["self", "statement", "is_guarded"] ["self"] (defScope s_Library_records) := ⟨rfl, rfl, rfl, by decide +kernel, rfl, by decide +kernel, by decide +kernel⟩
abbrev s_Library_errors : Stmt := inClass (top 26) 5
theorem sc_Library_errors : FnScope ["self", "found", "statement", "is_guarded"] ["self"] (defScope s_Library_errors) := ⟨rfl, rfl, rfl, by decide +kernel, rfl, by decide +kernel, by decide +kernel⟩
abbrev s_Library_unknown : Stmt := inClass (top 26) 6
theorem sc_Library_unknown : FnScope ["self", "called", "statement", "is_guarded", "name"] ["self"] (defScope s_Library_unknown) := ⟨rfl, rfl, rfl, by decide +kernel, rfl, by decide +kernel, by decide +kernel⟩
abbrev s_Library_blocks : Stmt := inClass (top 26) 7
theorem sc_Library_blocks : FnScope ["self", "line", "mode"] ["self"] (defScope s_Library_blocks) := ⟨rfl, rfl, rfl, by decide +kernel, rfl, by decide +kernel, by decide +kernel⟩
abbrev s_LibraryU_lenU : Stmt := inClass (top 26) 10
theorem sc_LibraryU_lenU : FnScope ["self"] ["self"] (defScope s_LibraryU_lenU) := ⟨rfl, rfl, rfl, by decide +kernel, rfl, by decide +kernel, by decide +kernel⟩
abbrev s_LibraryU_containsU : Stmt := inClass (top 26) 11
theorem sc_LibraryU_containsU : FnScope ["self", "name"] ["self", "name"] (defScope s_LibraryU_containsU) := ⟨rfl, rfl, rfl, by decide +kernel, rfl, by decide +kernel, by decide +kernel⟩
abbrev s_LibraryU_getitemU : Stmt := inClass (top 26) 12
theorem sc_LibraryU_getitemU : FnScope ["self", "name", "first", "later", "at"] ["self", "name"] (defScope s_LibraryU_getitemU) := ⟨rfl, rfl, rfl, by decide +kernel, rfl, by decide +kernel, by decide +kernel⟩
abbrev s_LibraryU_strU : Stmt := inClass (top 26) 14
theorem sc_LibraryU_strU : FnScope ["self"] ["self"] (defScope s_LibraryU_strU) := ⟨rfl, rfl, rfl, by decide +kernel, rfl, by decide +kernel, by decide +kernel⟩
abbrev s_LibraryU_eqU : Stmt := inClass (top 26) 15
theorem sc_LibraryU_eqU : FnScope ["self", "other"] ["self", "other"] (defScope s_LibraryU_eqU) := ⟨rfl, rfl, rfl, by decide +kernel, rfl, by decide +kernel, by decide +kernel⟩
abbrev s_law_pool : Stmt := top 28
theorem sc_law_pool : FnScope ["_law_script", "_law_at", "_law_cell", "_law_size", "_law_seed"] ["_law_script", "_law_at"] (defScope s_law_pool) := ⟨rfl, rfl, rfl, by decide +kernel, rfl, by decide +kernel, by decide +kernel⟩
abbrev s_law_draw : Stmt := top 29
theorem sc_law_draw : FnScope ["_law_pool_here", "_law_many", "_law_digit", "_law_count", "_law_mixed"] ["_law_pool_here", "_law_many"] (defScope s_law_draw) := ⟨rfl, rfl, rfl, by decide +kernel, rfl, by decide +kernel, by decide +kernel⟩
abbrev s_law_word : Stmt := top 30
theorem sc_law_word : FnScope ["_law_pool_here", "_law_letters", "_law_k"] ["_law_pool_here"] (defScope s_law_word) := ⟨rfl, rfl, rfl, by decide +kernel, rfl, by decide +kernel, by decide +kernel⟩
abbrev s_law_different : Stmt := top 31
theorem sc_law_different : FnScope ["_law_pool_here", "_law_many", "_law_taken", "_law_found", "_law_k", "_law_word_here", "_law_turn"] ["_law_pool_here", "_law_many", "_law_taken"] (defScope s_law_different) := ⟨rfl, rfl, rfl, by decide +kernel, rfl, by decide +kernel, by decide +kernel⟩
abbrev s_law_pick : Stmt := top 32
theorem sc_law_pick : FnScope ["_law_pool_here", "_law_some"] ["_law_pool_here", "_law_some"] (defScope s_law_pick) := ⟨rfl, rfl, rfl, by decide +kernel, rfl, by decide +kernel, by decide +kernel⟩
abbrev s_law_row : Stmt := top 33
theorem sc_law_row : FnScope ["_law_nesting", "_law_words"] ["_law_nesting", "_law_words"] (defScope s_law_row) := ⟨rfl, rfl, rfl, by decide +kernel, rfl, by decide +kernel, by decide +kernel⟩
abbrev s_law_body : Stmt := top 34
theorem sc_law_body : FnScope ["_law_pool_here", "_law_nesting", "_law_words", "_law_room", "_law_rows", "_law_turn"] ["_law_pool_here", "_law_nesting", "_law_words", "_law_room"] (defScope s_law_body) := ⟨rfl, rfl, rfl, by decide +kernel, rfl, by decide +kernel, by decide +kernel⟩
abbrev s_law_statement : Stmt := top 35
theorem sc_law_statement : FnScope ["_law_pool_here", "_law_nesting", "_law_words", "_law_room", "_law_sort", "_law_name", "_law_mode", "_law_listed", "_law_guarded", "_law_rows", "_law_k"] ["_law_pool_here", "_law_nesting", "_law_words", "_law_room"] (defScope s_law_statement) := ⟨rfl, rfl, rfl, by decide +kernel, rfl, by decide +kernel, by decide +kernel⟩
abbrev s_law_try : Stmt := top 36
theorem sc_law_try : FnScope ["_law_pool_here", "_law_nesting", "_law_words", "_law_room", "_law_rows", "_law_many", "_law_is_final", "_law_k", "_law_listed", "_law_more"] ["_law_pool_here", "_law_nesting", "_law_words", "_law_room"] (defScope s_law_try) := ⟨rfl, rfl, rfl, by decide +kernel, rfl, by decide +kernel, by decide +kernel⟩
abbrev s_law_library : Stmt := top 37
theorem sc_law_library : FnScope ["_law_pool_here", "_law_names", "_law_others", "_law_room", "_law_records", "_law_errors", "_law_rows", "_law_name", "_law_words"] ["_law_pool_here", "_law_names", "_law_others", "_law_room"] (defScope s_law_library) := ⟨rfl, rfl, rfl, by decide +kernel, rfl, by decide +kernel, by decide +kernel⟩
abbrev s_law_lines : Stmt := top 38
theorem sc_law_lines : FnScope ["_law_library_here", "_law_name", "_law_told", "e"] ["_law_library_here", "_law_name"] (defScope s_law_lines) := ⟨rfl, rfl, rfl, by decide +kernel, rfl, by decide +kernel, by decide +kernel⟩
abbrev s_law_asked : Stmt := top 39
theorem sc_law_asked : FnScope ["_law_library_here", "_law_lines_here", "_law_thing", "_law_due_here", "_law_told"] ["_law_library_here", "_law_lines_here", "_law_thing"] (defScope s_law_asked) := ⟨rfl, rfl, rfl, by decide +kernel, rfl, by decide +kernel, by decide +kernel⟩
abbrev s_law_due : Stmt := top 40
theorem sc_law_due : FnScope ["_law_rows", "_law_name", "_law_starts", "_law_k"] ["_law_rows", "_law_name"] (defScope s_law_due) := ⟨rfl, rfl, rfl, by decide +kernel, rfl, by decide +kernel, by decide +kernel⟩
abbrev s_law : Stmt := top 41
theorem sc_law : FnScope ["_law_script", "_law_at", "_law_pool_here", "_law_names", "_law_others", "_law_rows", "_law_room", "_law_second", "_law_first", "_law_other", "_law_things", "_law_pairs", "_law_thing", "_law_library_here", "_law_lines_here", "_law_is_same"] ["_law_script"] (defScope s_law) := ⟨rfl, rfl, rfl, by decide +kernel, rfl, by decide +kernel, by decide +kernel⟩
abbrev ef_TooMany : List (Str × Sum Nat Str) := [("what", .inl 0)]
theorem ec_TooMany {K : PySem.W.Frag} {C fI : Addr} {nm qn : Str} {N : Addr} {bs bm : List Value} {sn : List Str} {sub : List Value} {ab : Bool} {col : Option Bool} {dd : Option Addr} {k0 k1 k2 k3 k5 : Option Value}
    {oc : Value} {od : Option Addr} {doc pm : Value} {an : Option Addr} {cda cc : Addr} {ct : Value} {osl : Array (Option Value)} {ccl : Value} {cdd : Option Addr} {vs : Array Value} {ccs : Array (Option Value)} {tf : Tok} {cl : Value} {cld : Option Addr} {csl : Array (Option Value)}
    (h1 : K.lookup C = some (excClassObj nm qn C N bs bm true sn sub ab col dd k0 k1 k2 k3 k5 "ValueError.__new__")) (h2 : PySem.HandSPX.refsVE bm = true) (h3 : PySem.W.findIn K (.ref C) "__setattr__" = some (some (.builtin "object.__setattr__")))
    (h4 : PySem.W.findIn K (.ref C) "__getattribute__" = some (some (.builtin "BaseException.__getattribute__"))) (h5 : PySem.W.findIn K (.ref C) "__getattr__" = some none) (h6 : PySem.W.findIn K (.ref C) "__init__" = some (some (.ref fI)))
    (h7 : PySem.W.typeIn K (.ref fI) = some (.type "function")) (h8 : PySem.W.keepIn K (.ref C) = true) (h9 : PySem.W.subIn K (.ref C) (.type "BaseException") = some true) (h10 : PySem.W.subIn K (.ref C) (.type "ValueError") = some true)
    (h11 : PySem.W.typeIn K (.ref C) = some (.type "type")) (h12 : PySem.W.hasDictIn K C = true) (h13 : PySem.W.ks_superIn K C C "__init__" = some (some (.builtin "ValueError.__init__"))) (h14 : PySem.W.mroIn K C (.ref C) = some true) (h15 : PySem.W.exmOne K (.ref C) (.ref C) = some true)
    (h16 : PySem.W.nsIn K cStatics "thirdparty.any" = some none) (h17 : K.lookup fI = some ⟨oc, od, .func (PySem.W.ksFn "__init__" "TooMany.__init__" (defArgs s_TooManyU_initU) (defBody s_TooManyU_initU) (defScope s_TooManyU_initU) .none .none doc pm an (.ref cda) ct cc), osl⟩) (h18 : PySem.W.codeIn K (.ref cda) "TooMany.__init__" = true)
    (h19 : K.lookup cda = some ⟨ccl, cdd, .fields vs, ccs⟩) (h20 : vs[2]? = some (.str P.main.file tf)) (h21 : K.lookup cc = some ⟨cl, cld, .cell (some (.ref C)), csl⟩) (nf0 : PySem.W.findIn K (.ref C) "what" = some none) : ErrC P K C fI s_TooManyU_initU "TooMany.__init__" ["what"] ef_TooMany := by
  refine ⟨⟨nm, qn, N, bs, bm, sn, sub, ab, col, dd, k0, k1, k2, k3, k5, h1, h2⟩, h3, h4, h5, ?_, h6, h7, h8, h9, h10, h11, h12, h13, h14, h15, h16, ⟨oc, od, doc, pm, an, cda, cc, ct, osl, ccl, cdd, vs, ccs, tf, cl, cld, csl, h17, h18, h19, h20, h21⟩, ⟨_, rfl, rfl⟩, (fun _ _ _ _ _ _ us hl => match us, hl with | [_, _], _ => rfl),
    ⟨_, _, _, _, _, _, _, _, _, rfl, (.par (i := 0) rfl .nil), fun L cda cc => ⟨_, rfl⟩⟩, rfl, rfl, rfl, by decide +kernel, by decide +kernel, rfl, rfl, by decide +kernel, by decide +kernel⟩
  intro p hp
  rcases List.mem_cons.mp hp with rfl | hp
  · exact nf0
  · exact absurd hp (by simp)
abbrev ef_BadLibrary : List (Str × Sum Nat Str) := [("line", .inl 0)]
theorem ec_BadLibrary {K : PySem.W.Frag} {C fI : Addr} {nm qn : Str} {N : Addr} {bs bm : List Value} {sn : List Str} {sub : List Value} {ab : Bool} {col : Option Bool} {dd : Option Addr} {k0 k1 k2 k3 k5 : Option Value}
    {oc : Value} {od : Option Addr} {doc pm : Value} {an : Option Addr} {cda cc : Addr} {ct : Value} {osl : Array (Option Value)} {ccl : Value} {cdd : Option Addr} {vs : Array Value} {ccs : Array (Option Value)} {tf : Tok} {cl : Value} {cld : Option Addr} {csl : Array (Option Value)}
    (h1 : K.lookup C = some (excClassObj nm qn C N bs bm true sn sub ab col dd k0 k1 k2 k3 k5 "ValueError.__new__")) (h2 : PySem.HandSPX.refsVE bm = true) (h3 : PySem.W.findIn K (.ref C) "__setattr__" = some (some (.builtin "object.__setattr__")))
    (h4 : PySem.W.findIn K (.ref C) "__getattribute__" = some (some (.builtin "BaseException.__getattribute__"))) (h5 : PySem.W.findIn K (.ref C) "__getattr__" = some none) (h6 : PySem.W.findIn K (.ref C) "__init__" = some (some (.ref fI)))
    (h7 : PySem.W.typeIn K (.ref fI) = some (.type "function")) (h8 : PySem.W.keepIn K (.ref C) = true) (h9 : PySem.W.subIn K (.ref C) (.type "BaseException") = some true) (h10 : PySem.W.subIn K (.ref C) (.type "ValueError") = some true)
    (h11 : PySem.W.typeIn K (.ref C) = some (.type "type")) (h12 : PySem.W.hasDictIn K C = true) (h13 : PySem.W.ks_superIn K C C "__init__" = some (some (.builtin "ValueError.__init__"))) (h14 : PySem.W.mroIn K C (.ref C) = some true) (h15 : PySem.W.exmOne K (.ref C) (.ref C) = some true)
    (h16 : PySem.W.nsIn K cStatics "thirdparty.any" = some none) (h17 : K.lookup fI = some ⟨oc, od, .func (PySem.W.ksFn "__init__" "BadLibrary.__init__" (defArgs s_BadLibraryU_initU) (defBody s_BadLibraryU_initU) (defScope s_BadLibraryU_initU) .none .none doc pm an (.ref cda) ct cc), osl⟩) (h18 : PySem.W.codeIn K (.ref cda) "BadLibrary.__init__" = true)
    (h19 : K.lookup cda = some ⟨ccl, cdd, .fields vs, ccs⟩) (h20 : vs[2]? = some (.str P.main.file tf)) (h21 : K.lookup cc = some ⟨cl, cld, .cell (some (.ref C)), csl⟩) (nf0 : PySem.W.findIn K (.ref C) "line" = some none) : ErrC P K C fI s_BadLibraryU_initU "BadLibrary.__init__" ["line"] ef_BadLibrary := by
  refine ⟨⟨nm, qn, N, bs, bm, sn, sub, ab, col, dd, k0, k1, k2, k3, k5, h1, h2⟩, h3, h4, h5, ?_, h6, h7, h8, h9, h10, h11, h12, h13, h14, h15, h16, ⟨oc, od, doc, pm, an, cda, cc, ct, osl, ccl, cdd, vs, ccs, tf, cl, cld, csl, h17, h18, h19, h20, h21⟩, ⟨_, rfl, rfl⟩, (fun _ _ _ _ _ _ us hl => match us, hl with | [_, _], _ => rfl),
    ⟨_, _, _, _, _, _, _, _, _, rfl, (.par (i := 0) rfl .nil), fun L cda cc => ⟨_, rfl⟩⟩, rfl, rfl, rfl, by decide +kernel, by decide +kernel, rfl, rfl, by decide +kernel, by decide +kernel⟩
  intro p hp
  rcases List.mem_cons.mp hp with rfl | hp
  · exact nf0
  · exact absurd hp (by simp)
abbrev ef_Endless : List (Str × Sum Nat Str) := [("name", .inl 0)]
theorem ec_Endless {K : PySem.W.Frag} {C fI : Addr} {nm qn : Str} {N : Addr} {bs bm : List Value} {sn : List Str} {sub : List Value} {ab : Bool} {col : Option Bool} {dd : Option Addr} {k0 k1 k2 k3 k5 : Option Value}
    {oc : Value} {od : Option Addr} {doc pm : Value} {an : Option Addr} {cda cc : Addr} {ct : Value} {osl : Array (Option Value)} {ccl : Value} {cdd : Option Addr} {vs : Array Value} {ccs : Array (Option Value)} {tf : Tok} {cl : Value} {cld : Option Addr} {csl : Array (Option Value)}
    (h1 : K.lookup C = some (excClassObj nm qn C N bs bm true sn sub ab col dd k0 k1 k2 k3 k5 "ValueError.__new__")) (h2 : PySem.HandSPX.refsVE bm = true) (h3 : PySem.W.findIn K (.ref C) "__setattr__" = some (some (.builtin "object.__setattr__")))
    (h4 : PySem.W.findIn K (.ref C) "__getattribute__" = some (some (.builtin "BaseException.__getattribute__"))) (h5 : PySem.W.findIn K (.ref C) "__getattr__" = some none) (h6 : PySem.W.findIn K (.ref C) "__init__" = some (some (.ref fI)))
    (h7 : PySem.W.typeIn K (.ref fI) = some (.type "function")) (h8 : PySem.W.keepIn K (.ref C) = true) (h9 : PySem.W.subIn K (.ref C) (.type "BaseException") = some true) (h10 : PySem.W.subIn K (.ref C) (.type "ValueError") = some true)
    (h11 : PySem.W.typeIn K (.ref C) = some (.type "type")) (h12 : PySem.W.hasDictIn K C = true) (h13 : PySem.W.ks_superIn K C C "__init__" = some (some (.builtin "ValueError.__init__"))) (h14 : PySem.W.mroIn K C (.ref C) = some true) (h15 : PySem.W.exmOne K (.ref C) (.ref C) = some true)
    (h16 : PySem.W.nsIn K cStatics "thirdparty.any" = some none) (h17 : K.lookup fI = some ⟨oc, od, .func (PySem.W.ksFn "__init__" "Endless.__init__" (defArgs s_EndlessU_initU) (defBody s_EndlessU_initU) (defScope s_EndlessU_initU) .none .none doc pm an (.ref cda) ct cc), osl⟩) (h18 : PySem.W.codeIn K (.ref cda) "Endless.__init__" = true)
    (h19 : K.lookup cda = some ⟨ccl, cdd, .fields vs, ccs⟩) (h20 : vs[2]? = some (.str P.main.file tf)) (h21 : K.lookup cc = some ⟨cl, cld, .cell (some (.ref C)), csl⟩) (nf0 : PySem.W.findIn K (.ref C) "name" = some none) : ErrC P K C fI s_EndlessU_initU "Endless.__init__" ["name"] ef_Endless := by
  refine ⟨⟨nm, qn, N, bs, bm, sn, sub, ab, col, dd, k0, k1, k2, k3, k5, h1, h2⟩, h3, h4, h5, ?_, h6, h7, h8, h9, h10, h11, h12, h13, h14, h15, h16, ⟨oc, od, doc, pm, an, cda, cc, ct, osl, ccl, cdd, vs, ccs, tf, cl, cld, csl, h17, h18, h19, h20, h21⟩, ⟨_, rfl, rfl⟩, (fun _ _ _ _ _ _ us hl => match us, hl with | [_, _], _ => rfl),
    ⟨_, _, _, _, _, _, _, _, _, rfl, (.par (i := 0) rfl .nil), fun L cda cc => ⟨_, rfl⟩⟩, rfl, rfl, rfl, by decide +kernel, by decide +kernel, rfl, rfl, by decide +kernel, by decide +kernel⟩
  intro p hp
  rcases List.mem_cons.mp hp with rfl | hp
  · exact nf0
  · exact absurd hp (by simp)
abbrev ef_NoFunction : List (Str × Sum Nat Str) := [("name", .inl 0)]
theorem ec_NoFunction {K : PySem.W.Frag} {C fI : Addr} {nm qn : Str} {N : Addr} {bs bm : List Value} {sn : List Str} {sub : List Value} {ab : Bool} {col : Option Bool} {dd : Option Addr} {k0 k1 k2 k3 k5 : Option Value}
    {oc : Value} {od : Option Addr} {doc pm : Value} {an : Option Addr} {cda cc : Addr} {ct : Value} {osl : Array (Option Value)} {ccl : Value} {cdd : Option Addr} {vs : Array Value} {ccs : Array (Option Value)} {tf : Tok} {cl : Value} {cld : Option Addr} {csl : Array (Option Value)}
    (h1 : K.lookup C = some (excClassObj nm qn C N bs bm true sn sub ab col dd k0 k1 k2 k3 k5 "ValueError.__new__")) (h2 : PySem.HandSPX.refsVE bm = true) (h3 : PySem.W.findIn K (.ref C) "__setattr__" = some (some (.builtin "object.__setattr__")))
    (h4 : PySem.W.findIn K (.ref C) "__getattribute__" = some (some (.builtin "BaseException.__getattribute__"))) (h5 : PySem.W.findIn K (.ref C) "__getattr__" = some none) (h6 : PySem.W.findIn K (.ref C) "__init__" = some (some (.ref fI)))
    (h7 : PySem.W.typeIn K (.ref fI) = some (.type "function")) (h8 : PySem.W.keepIn K (.ref C) = true) (h9 : PySem.W.subIn K (.ref C) (.type "BaseException") = some true) (h10 : PySem.W.subIn K (.ref C) (.type "ValueError") = some true)
    (h11 : PySem.W.typeIn K (.ref C) = some (.type "type")) (h12 : PySem.W.hasDictIn K C = true) (h13 : PySem.W.ks_superIn K C C "__init__" = some (some (.builtin "ValueError.__init__"))) (h14 : PySem.W.mroIn K C (.ref C) = some true) (h15 : PySem.W.exmOne K (.ref C) (.ref C) = some true)
    (h16 : PySem.W.nsIn K cStatics "thirdparty.any" = some none) (h17 : K.lookup fI = some ⟨oc, od, .func (PySem.W.ksFn "__init__" "NoFunction.__init__" (defArgs s_NoFunctionU_initU) (defBody s_NoFunctionU_initU) (defScope s_NoFunctionU_initU) .none .none doc pm an (.ref cda) ct cc), osl⟩) (h18 : PySem.W.codeIn K (.ref cda) "NoFunction.__init__" = true)
    (h19 : K.lookup cda = some ⟨ccl, cdd, .fields vs, ccs⟩) (h20 : vs[2]? = some (.str P.main.file tf)) (h21 : K.lookup cc = some ⟨cl, cld, .cell (some (.ref C)), csl⟩) (nf0 : PySem.W.findIn K (.ref C) "name" = some none) : ErrC P K C fI s_NoFunctionU_initU "NoFunction.__init__" ["name"] ef_NoFunction := by
  refine ⟨⟨nm, qn, N, bs, bm, sn, sub, ab, col, dd, k0, k1, k2, k3, k5, h1, h2⟩, h3, h4, h5, ?_, h6, h7, h8, h9, h10, h11, h12, h13, h14, h15, h16, ⟨oc, od, doc, pm, an, cda, cc, ct, osl, ccl, cdd, vs, ccs, tf, cl, cld, csl, h17, h18, h19, h20, h21⟩, ⟨_, rfl, rfl⟩, (fun _ _ _ _ _ _ us hl => match us, hl with | [_, _], _ => rfl),
    ⟨_, _, _, _, _, _, _, _, _, rfl, (.par (i := 0) rfl .nil), fun L cda cc => ⟨_, rfl⟩⟩, rfl, rfl, rfl, by decide +kernel, by decide +kernel, rfl, rfl, by decide +kernel, by decide +kernel⟩
  intro p hp
  rcases List.mem_cons.mp hp with rfl | hp
  · exact nf0
  · exact absurd hp (by simp)
structure Ad where
  Mode : Addr
  Mode_ALL : Addr
  Mode_is_mode : Addr
  p_Mode_is_mode : Addr
  is_word : Addr
  TooMany : Addr
  TooManyU_initU : Addr
  BadLibrary : Addr
  BadLibraryU_initU : Addr
  Endless : Addr
  EndlessU_initU : Addr
  NoFunction : Addr
  NoFunctionU_initU : Addr
  split_line : Addr
  Reader : Addr
  ReaderU_initU : Addr
  Reader_words_at : Addr
  Reader_wrong_if : Addr
  Reader_read_all : Addr
  Reader_read_body : Addr
  Reader_read_statement : Addr
  Reader_read_block : Addr
  Reader_read_try : Addr
  DATABASE_ERRORS : Addr
  BOUNDS : Addr
  BOUNDS_0 : Addr
  BOUNDS_1 : Addr
  BOUNDS_2 : Addr
  BOUNDS_3 : Addr
  BOUNDS_4 : Addr
  BOUNDS_5 : Addr
  Library : Addr
  LibraryU_initU : Addr
  parts_of : Addr
  listed_statements : Addr
  words_of : Addr
  comes_back : Addr
  free_statements : Addr
  weight_of : Addr
  body_weight : Addr
  Library_stay_in_bounds : Addr
  Library_come_to_an_end : Addr
  Library_functions : Addr
  Library_records : Addr
  Library_errors : Addr
  Library_unknown : Addr
  Library_blocks : Addr
  LibraryU_lenU : Addr
  LibraryU_containsU : Addr
  LibraryU_getitemU : Addr
  LibraryU_strU : Addr
  LibraryU_eqU : Addr
  law_pool : Addr
  law_draw : Addr
  law_word : Addr
  law_different : Addr
  law_pick : Addr
  law_row : Addr
  law_body : Addr
  law_statement : Addr
  law_try : Addr
  law_library : Addr
  law_lines : Addr
  law_asked : Addr
  law_due : Addr
  law : Addr
structure Fd where
  Mode_is_mode : FuncData
  is_word : FuncData
  split_line : FuncData
  ReaderU_initU : FuncData
  Reader_words_at : FuncData
  Reader_wrong_if : FuncData
  Reader_read_all : FuncData
  Reader_read_body : FuncData
  Reader_read_statement : FuncData
  Reader_read_block : FuncData
  Reader_read_try : FuncData
  LibraryU_initU : FuncData
  parts_of : FuncData
  listed_statements : FuncData
  words_of : FuncData
  comes_back : FuncData
  free_statements : FuncData
  weight_of : FuncData
  body_weight : FuncData
  Library_stay_in_bounds : FuncData
  Library_come_to_an_end : FuncData
  Library_functions : FuncData
  Library_records : FuncData
  Library_errors : FuncData
  Library_unknown : FuncData
  Library_blocks : FuncData
  LibraryU_lenU : FuncData
  LibraryU_containsU : FuncData
  LibraryU_getitemU : FuncData
  LibraryU_strU : FuncData
  LibraryU_eqU : FuncData
  law_pool : FuncData
  law_draw : FuncData
  law_word : FuncData
  law_different : FuncData
  law_pick : FuncData
  law_row : FuncData
  law_body : FuncData
  law_statement : FuncData
  law_try : FuncData
  law_library : FuncData
  law_lines : FuncData
  law_asked : FuncData
  law_due : FuncData
  law : FuncData
structure Txt (K : PySem.W.Frag) (mg : Str → Option Value) (a : Ad) (d : Fd) : Prop where
  g_Mode : mg "Mode" = some (.ref a.Mode)
  r_Mode : ClX.CRead K a.Mode (.type "type")
  c_Mode_JOIN : ∃ u, ClX.CVal K a.Mode (.type "type") "JOIN" (.str "join") u
  c_Mode_INNER : ∃ u, ClX.CVal K a.Mode (.type "type") "INNER" (.str "inner") u
  c_Mode_APART : ∃ u, ClX.CVal K a.Mode (.type "type") "APART" (.str "apart") u
  c_Mode_MUST : ∃ u, ClX.CVal K a.Mode (.type "type") "MUST" (.str "must") u
  c_Mode_EITHER : ∃ u, ClX.CVal K a.Mode (.type "type") "EITHER" (.str "either") u
  c_Mode_NEVER : ∃ u, ClX.CVal K a.Mode (.type "type") "NEVER" (.str "never") u
  c_Mode_OUTSIDE : ∃ u, ClX.CVal K a.Mode (.type "type") "OUTSIDE" (.str "outside") u
  c_Mode_ALONE : ∃ u, ClX.CVal K a.Mode (.type "type") "ALONE" (.str "alone") u
  c_Mode_ALL : ∃ u, ClX.CVal K a.Mode (.type "type") "ALL" (.ref a.Mode_ALL) u
  q_Mode_ALL : (∀ H, SqT K H a.Mode_ALL [.str "join", .str "inner", .str "apart", .str "must", .str "either", .str "never", .str "outside", .str "alone"])
  k_Mode_ALL : (∃ o, K.lookup a.Mode_ALL = some o ∧ o.cls = .type "tuple")
  Mode_is_mode : Fun K "is_mode" "Mode.is_mode" s_Mode_is_mode a.Mode_is_mode d.Mode_is_mode
  b_Mode_is_mode : Binds K d.Mode_is_mode ["thing"] []
  s_Mode_is_mode : SMet K a.Mode (.type "type") "is_mode" a.p_Mode_is_mode a.Mode_is_mode
  is_word : Fun K "is_word" "is_word" s_is_word a.is_word d.is_word
  b_is_word : Binds K d.is_word ["thing"] []
  g_is_word : mg "is_word" = some (.ref a.is_word)
  g_TooMany : mg "TooMany" = some (.ref a.TooMany)
  e_TooMany : ErrC P K a.TooMany a.TooManyU_initU s_TooManyU_initU "TooMany.__init__" ["what"] ef_TooMany
  g_BadLibrary : mg "BadLibrary" = some (.ref a.BadLibrary)
  e_BadLibrary : ErrC P K a.BadLibrary a.BadLibraryU_initU s_BadLibraryU_initU "BadLibrary.__init__" ["line"] ef_BadLibrary
  g_Endless : mg "Endless" = some (.ref a.Endless)
  e_Endless : ErrC P K a.Endless a.EndlessU_initU s_EndlessU_initU "Endless.__init__" ["name"] ef_Endless
  g_NoFunction : mg "NoFunction" = some (.ref a.NoFunction)
  e_NoFunction : ErrC P K a.NoFunction a.NoFunctionU_initU s_NoFunctionU_initU "NoFunction.__init__" ["name"] ef_NoFunction
  v_DEEPEST : ∃ u, mg "DEEPEST" = some u ∧ RelV (.int 8) u
  split_line : Fun K "split_line" "split_line" s_split_line a.split_line d.split_line
  b_split_line : Binds K d.split_line ["line"] []
  g_split_line : mg "split_line" = some (.ref a.split_line)
  g_Reader : mg "Reader" = some (.ref a.Reader)
  k_Reader : Cls K a.Reader
  na_Reader_rows : NoAttr K a.Reader "rows"
  na_Reader_at : NoAttr K a.Reader "at"
  na_Reader_starts : NoAttr K a.Reader "starts"
  na_Reader_bodies : NoAttr K a.Reader "bodies"
  na_Reader_marks : NoAttr K a.Reader "marks"
  ReaderU_initU : Fun K "__init__" "Reader.__init__" s_ReaderU_initU a.ReaderU_initU d.ReaderU_initU
  b_ReaderU_initU : Binds K d.ReaderU_initU ["self", "lines"] []
  mk_Reader : Mk K a.Reader a.ReaderU_initU
  Reader_words_at : Fun K "words_at" "Reader.words_at" s_Reader_words_at a.Reader_words_at d.Reader_words_at
  b_Reader_words_at : Binds K d.Reader_words_at ["self", "nesting"] []
  m_Reader_words_at : Meth K a.Reader "words_at" a.Reader_words_at
  Reader_wrong_if : Fun K "wrong_if" "Reader.wrong_if" s_Reader_wrong_if a.Reader_wrong_if d.Reader_wrong_if
  b_Reader_wrong_if : Binds K d.Reader_wrong_if ["self", "is_wrong"] []
  m_Reader_wrong_if : Meth K a.Reader "wrong_if" a.Reader_wrong_if
  Reader_read_all : Fun K "read_all" "Reader.read_all" s_Reader_read_all a.Reader_read_all d.Reader_read_all
  b_Reader_read_all : Binds K d.Reader_read_all ["self"] []
  m_Reader_read_all : Meth K a.Reader "read_all" a.Reader_read_all
  Reader_read_body : Fun K "read_body" "Reader.read_body" s_Reader_read_body a.Reader_read_body d.Reader_read_body
  b_Reader_read_body : Binds K d.Reader_read_body ["self", "nesting"] []
  m_Reader_read_body : Meth K a.Reader "read_body" a.Reader_read_body
  Reader_read_statement : Fun K "read_statement" "Reader.read_statement" s_Reader_read_statement a.Reader_read_statement d.Reader_read_statement
  b_Reader_read_statement : Binds K d.Reader_read_statement ["self", "words", "nesting"] []
  m_Reader_read_statement : Meth K a.Reader "read_statement" a.Reader_read_statement
  Reader_read_block : Fun K "read_block" "Reader.read_block" s_Reader_read_block a.Reader_read_block d.Reader_read_block
  b_Reader_read_block : Binds K d.Reader_read_block ["self", "words", "nesting"] []
  m_Reader_read_block : Meth K a.Reader "read_block" a.Reader_read_block
  Reader_read_try : Fun K "read_try" "Reader.read_try" s_Reader_read_try a.Reader_read_try d.Reader_read_try
  b_Reader_read_try : Binds K d.Reader_read_try ["self", "nesting"] []
  m_Reader_read_try : Meth K a.Reader "read_try" a.Reader_read_try
  v_MOST_CHARACTERS : ∃ u, mg "MOST_CHARACTERS" = some u ∧ RelV (.int 6000) u
  v_MOST_WEIGHT : ∃ u, mg "MOST_WEIGHT" = some u ∧ RelV (.int 400) u
  g_DATABASE_ERRORS : mg "DATABASE_ERRORS" = some (.ref a.DATABASE_ERRORS)
  q_DATABASE_ERRORS : (∀ H, SqT K H a.DATABASE_ERRORS [.str "doomed", .str "missing", .str "present", .str "refused", .str "waits"])
  g_BOUNDS : mg "BOUNDS" = some (.ref a.BOUNDS)
  q_BOUNDS_0 : (∀ H, SqT K H a.BOUNDS_0 [.str "functions", .int 12])
  q_BOUNDS_1 : (∀ H, SqT K H a.BOUNDS_1 [.str "statements", .int 80])
  q_BOUNDS_2 : (∀ H, SqT K H a.BOUNDS_2 [.str "records", .int 6])
  q_BOUNDS_3 : (∀ H, SqT K H a.BOUNDS_3 [.str "errors", .int 11])
  q_BOUNDS_4 : (∀ H, SqT K H a.BOUNDS_4 [.str "blocks", .int 16])
  q_BOUNDS_5 : (∀ H, SqT K H a.BOUNDS_5 [.str "unknown", .int 4])
  q_BOUNDS : (∀ H, SqT K H a.BOUNDS [.ref a.BOUNDS_0, .ref a.BOUNDS_1, .ref a.BOUNDS_2, .ref a.BOUNDS_3, .ref a.BOUNDS_4, .ref a.BOUNDS_5])
  g_Library : mg "Library" = some (.ref a.Library)
  k_Library : Cls K a.Library
  na_Library_text : NoAttr K a.Library "text"
  na_Library_lines : NoAttr K a.Library "lines"
  na_Library_starts : NoAttr K a.Library "starts"
  na_Library_bodies : NoAttr K a.Library "bodies"
  na_Library_marks : NoAttr K a.Library "marks"
  na_Library_pairs : NoAttr K a.Library "pairs"
  LibraryU_initU : FunD K "__init__" "Library.__init__" (defArgs s_LibraryU_initU) (defBody s_LibraryU_initU) (defScope s_LibraryU_initU) [.int 6000] [] a.LibraryU_initU d.LibraryU_initU
  mk_Library : Mk K a.Library a.LibraryU_initU
  parts_of : Fun K "parts_of" "parts_of" s_parts_of a.parts_of d.parts_of
  b_parts_of : Binds K d.parts_of ["statement"] []
  g_parts_of : mg "parts_of" = some (.ref a.parts_of)
  listed_statements : FunD K "listed_statements" "listed_statements" (defArgs s_listed_statements) (defBody s_listed_statements) (defScope s_listed_statements) [.bl false] [] a.listed_statements d.listed_statements
  g_listed_statements : mg "listed_statements" = some (.ref a.listed_statements)
  words_of : Fun K "words_of" "words_of" s_words_of a.words_of d.words_of
  b_words_of : Binds K d.words_of ["statement"] []
  g_words_of : mg "words_of" = some (.ref a.words_of)
  comes_back : Fun K "comes_back" "comes_back" s_comes_back a.comes_back d.comes_back
  b_comes_back : Binds K d.comes_back ["name", "calls"] []
  g_comes_back : mg "comes_back" = some (.ref a.comes_back)
  free_statements : Fun K "free_statements" "free_statements" s_free_statements a.free_statements d.free_statements
  b_free_statements : Binds K d.free_statements ["body"] []
  g_free_statements : mg "free_statements" = some (.ref a.free_statements)
  weight_of : Fun K "weight_of" "weight_of" s_weight_of a.weight_of d.weight_of
  b_weight_of : Binds K d.weight_of ["name", "bodies", "known"] []
  g_weight_of : mg "weight_of" = some (.ref a.weight_of)
  body_weight : Fun K "body_weight" "body_weight" s_body_weight a.body_weight d.body_weight
  b_body_weight : Binds K d.body_weight ["body", "bodies", "known"] []
  g_body_weight : mg "body_weight" = some (.ref a.body_weight)
  Library_stay_in_bounds : Fun K "stay_in_bounds" "Library.stay_in_bounds" s_Library_stay_in_bounds a.Library_stay_in_bounds d.Library_stay_in_bounds
  b_Library_stay_in_bounds : Binds K d.Library_stay_in_bounds ["self"] []
  m_Library_stay_in_bounds : Meth K a.Library "stay_in_bounds" a.Library_stay_in_bounds
  Library_come_to_an_end : Fun K "come_to_an_end" "Library.come_to_an_end" s_Library_come_to_an_end a.Library_come_to_an_end d.Library_come_to_an_end
  b_Library_come_to_an_end : Binds K d.Library_come_to_an_end ["self"] []
  m_Library_come_to_an_end : Meth K a.Library "come_to_an_end" a.Library_come_to_an_end
  Library_functions : Fun K "functions" "Library.functions" s_Library_functions a.Library_functions d.Library_functions
  b_Library_functions : Binds K d.Library_functions ["self"] []
  m_Library_functions : Meth K a.Library "functions" a.Library_functions
  Library_records : Fun K "records" "Library.records" s_Library_records a.Library_records d.Library_records
  b_Library_records : Binds K d.Library_records ["self"] []
  m_Library_records : Meth K a.Library "records" a.Library_records
  Library_errors : Fun K "errors" "Library.errors" s_Library_errors a.Library_errors d.Library_errors
  b_Library_errors : Binds K d.Library_errors ["self"] []
  m_Library_errors : Meth K a.Library "errors" a.Library_errors
  Library_unknown : Fun K "unknown" "Library.unknown" s_Library_unknown a.Library_unknown d.Library_unknown
  b_Library_unknown : Binds K d.Library_unknown ["self"] []
  m_Library_unknown : Meth K a.Library "unknown" a.Library_unknown
  Library_blocks : Fun K "blocks" "Library.blocks" s_Library_blocks a.Library_blocks d.Library_blocks
  b_Library_blocks : Binds K d.Library_blocks ["self"] []
  m_Library_blocks : Meth K a.Library "blocks" a.Library_blocks
  LibraryU_lenU : Fun K "__len__" "Library.__len__" s_LibraryU_lenU a.LibraryU_lenU d.LibraryU_lenU
  b_LibraryU_lenU : Binds K d.LibraryU_lenU ["self"] []
  m_LibraryU_lenU : Meth K a.Library "__len__" a.LibraryU_lenU
  LibraryU_containsU : Fun K "__contains__" "Library.__contains__" s_LibraryU_containsU a.LibraryU_containsU d.LibraryU_containsU
  b_LibraryU_containsU : Binds K d.LibraryU_containsU ["self", "name"] []
  m_LibraryU_containsU : Meth K a.Library "__contains__" a.LibraryU_containsU
  LibraryU_getitemU : Fun K "__getitem__" "Library.__getitem__" s_LibraryU_getitemU a.LibraryU_getitemU d.LibraryU_getitemU
  b_LibraryU_getitemU : Binds K d.LibraryU_getitemU ["self", "name"] []
  m_LibraryU_getitemU : Meth K a.Library "__getitem__" a.LibraryU_getitemU
  LibraryU_strU : Fun K "__str__" "Library.__str__" s_LibraryU_strU a.LibraryU_strU d.LibraryU_strU
  b_LibraryU_strU : Binds K d.LibraryU_strU ["self"] []
  m_LibraryU_strU : Meth K a.Library "__str__" a.LibraryU_strU
  LibraryU_eqU : Fun K "__eq__" "Library.__eq__" s_LibraryU_eqU a.LibraryU_eqU d.LibraryU_eqU
  b_LibraryU_eqU : Binds K d.LibraryU_eqU ["self", "other"] []
  m_LibraryU_eqU : Meth K a.Library "__eq__" a.LibraryU_eqU
  fi_LibraryU_getitemU : PySem.W.fnIn K a.LibraryU_getitemU = true
  eq_Library : EqC K a.Library
  kl_Library : PySem.W.kitOne K (.type "list") (.ref a.Library) = some false
  nl_Library : PySem.W.notFirst K a.Library (.type "list") = true
  law_pool : Fun K "_law_pool" "_law_pool" s_law_pool a.law_pool d.law_pool
  b_law_pool : Binds K d.law_pool ["_law_script", "_law_at"] []
  g_law_pool : mg "_law_pool" = some (.ref a.law_pool)
  law_draw : Fun K "_law_draw" "_law_draw" s_law_draw a.law_draw d.law_draw
  b_law_draw : Binds K d.law_draw ["_law_pool_here", "_law_many"] []
  g_law_draw : mg "_law_draw" = some (.ref a.law_draw)
  law_word : Fun K "_law_word" "_law_word" s_law_word a.law_word d.law_word
  b_law_word : Binds K d.law_word ["_law_pool_here"] []
  g_law_word : mg "_law_word" = some (.ref a.law_word)
  law_different : Fun K "_law_different" "_law_different" s_law_different a.law_different d.law_different
  b_law_different : Binds K d.law_different ["_law_pool_here", "_law_many", "_law_taken"] []
  g_law_different : mg "_law_different" = some (.ref a.law_different)
  law_pick : Fun K "_law_pick" "_law_pick" s_law_pick a.law_pick d.law_pick
  b_law_pick : Binds K d.law_pick ["_law_pool_here", "_law_some"] []
  g_law_pick : mg "_law_pick" = some (.ref a.law_pick)
  law_row : Fun K "_law_row" "_law_row" s_law_row a.law_row d.law_row
  b_law_row : Binds K d.law_row ["_law_nesting", "_law_words"] []
  g_law_row : mg "_law_row" = some (.ref a.law_row)
  law_body : Fun K "_law_body" "_law_body" s_law_body a.law_body d.law_body
  b_law_body : Binds K d.law_body ["_law_pool_here", "_law_nesting", "_law_words", "_law_room"] []
  g_law_body : mg "_law_body" = some (.ref a.law_body)
  law_statement : Fun K "_law_statement" "_law_statement" s_law_statement a.law_statement d.law_statement
  b_law_statement : Binds K d.law_statement ["_law_pool_here", "_law_nesting", "_law_words", "_law_room"] []
  g_law_statement : mg "_law_statement" = some (.ref a.law_statement)
  law_try : Fun K "_law_try" "_law_try" s_law_try a.law_try d.law_try
  b_law_try : Binds K d.law_try ["_law_pool_here", "_law_nesting", "_law_words", "_law_room"] []
  g_law_try : mg "_law_try" = some (.ref a.law_try)
  law_library : Fun K "_law_library" "_law_library" s_law_library a.law_library d.law_library
  b_law_library : Binds K d.law_library ["_law_pool_here", "_law_names", "_law_others", "_law_room"] []
  g_law_library : mg "_law_library" = some (.ref a.law_library)
  law_lines : Fun K "_law_lines" "_law_lines" s_law_lines a.law_lines d.law_lines
  b_law_lines : Binds K d.law_lines ["_law_library_here", "_law_name"] []
  g_law_lines : mg "_law_lines" = some (.ref a.law_lines)
  law_asked : Fun K "_law_asked" "_law_asked" s_law_asked a.law_asked d.law_asked
  b_law_asked : Binds K d.law_asked ["_law_library_here", "_law_lines_here", "_law_thing"] []
  g_law_asked : mg "_law_asked" = some (.ref a.law_asked)
  law_due : Fun K "_law_due" "_law_due" s_law_due a.law_due d.law_due
  b_law_due : Binds K d.law_due ["_law_rows", "_law_name"] []
  g_law_due : mg "_law_due" = some (.ref a.law_due)
  law : Fun K "law" "law" s_law a.law d.law
  b_law : Binds K d.law ["_law_script"] []
  g_law : mg "law" = some (.ref a.law)
  n_len : mg "len" = none
  n_isinstance : mg "isinstance" = none
  n_str : mg "str" = none
  n_all : mg "all" = none
  n_super : mg "super" = none
  n_tuple : mg "tuple" = none
  n_list : mg "list" = none
  n_sorted : mg "sorted" = none
  n_set : mg "set" = none
  n_min : mg "min" = none
  n_abs : mg "abs" = none
  n_int : mg "int" = none
  n_range : mg "range" = none
  n_max : mg "max" = none

section
variable {w : World} {K : PySem.W.Frag} {mg : Str → Option Value} {base : Heap} {a : Ad} {d : Fd}
theorem ok_is_word (T : Txt K mg a d) : FnOk P w K mg base CX0 1 a.is_word d.is_word ["thing"] spIsWord := by
  refine T.is_word.ok sc_is_word (fun vs H Q E h => ?_) (fun cdv A outer s H vs Q E hr h => ?_)
  · obtain ⟨v, rfl, _⟩ := h
    rfl
  · obtain ⟨v, rfl, hv, k⟩ := h
    refine ⟨_, (pss_cons (ps_if (PW.pt (pw_or (pt_not (pt_val (pe_callB call_isi (by rfl) T.n_isinstance (by decide +kernel) (pa_cons (pv 0) (pa_cons (pe_bltn (v := .ty "str") (u := .type "str") (by rfl) T.n_str (by decide +kernel) rfl) pa_nil))))) (pw_or1 (pt_not (pt_chain op_le op_le pe_int (pe_callB call_len_str (by rfl) T.n_len PySem.boot_len (pa_cons (pv 0) pa_nil)) pe_int))))) (pss_one (ps_ret pe_bl)) pss_nil)
  (pss_cons (ps_for PassesOwn.never rfl (pi_str (pv 0)) (pg_name (i := 1) sc_is_word.nd rfl (Or.inl rfl))
  (pss_one (ps_if (pt_not (pt_chain op_le_str op_le_str pe_str (pv 1) pe_str)) (pss_one (ps_ret pe_bl)) pss_nil)))
  (pss_one (ps_ret pe_bl)))), ?_⟩
    dsimp only [cxOf]
    obtain ⟨ty, h1, h2⟩ := hv.isi (K := K)
    refine ⟨_, rfl, _, _, _, _, _, rfl, ClsV.ty _, h1, h2, _, rfl, ?_⟩
    cases hv with
    | str z hz ha0 =>
      refine iteF ?_
      have hs : z.length ≤ sizeLine := by rw [sizeLine_eq]; omega
      refine ⟨_, rfl, z, rfl, hs, ?_⟩
      walk_at "rd"
      by_cases c1 : (1 : Int) ≤ (z.length : Int)
      · rw [decide_eq_true c1]
        refine iteT ?_
        walk_at "rd"
        by_cases c2 : (z.length : Int) ≤ 8
        · rw [decide_eq_true c2]
          refine iteF ?_
          walk_at "rd"
          refine for_it (walk_str (z := z)) (fun i σ H' => H' = H ∧ ∃ v, σ = [some (.str z), v] ∧ (z.cps.toList.take i).all okC = true) ?_ (fun _ _ _ _ _ => trivial) ?_ ?_
          · exact ⟨rfl, none, rfl, rfl⟩
          · rintro i x σ H1 H2 hi ⟨rfl, v, rfl, ha⟩ ⟨rfl, c, hc, rfl⟩
            have hc' : z.cps.toList[i]? = some c := by rw [Array.getElem?_toList]; exact hc
            walk_at "rd"
            rw [le_a]
            by_cases d1 : 97 ≤ c
            · rw [decide_eq_true d1]
              refine iteT ?_
              walk_at "rd"
              rw [le_z]
              by_cases d2 : c ≤ 122
              · rw [decide_eq_true d2]
                refine iteF ?_
                refine ⟨rfl, _, rfl, all_take hc' ha ?_⟩
                unfold okC; rw [decide_eq_true d1, decide_eq_true d2]; rfl
              · rw [decide_eq_false d2]
                refine iteT ?_
                have : wordB (.str z) = false := by
                  show wordS z = false
                  unfold wordS; rw [all_no hc' (show okC c = false by unfold okC; rw [decide_eq_false d2, Bool.and_false]), Bool.and_false]
                rw [this] at k
                exact k
            · rw [decide_eq_false d1]
              refine iteF ?_
              walk_at "rd"
              refine iteT ?_
              have : wordB (.str z) = false := by
                show wordS z = false
                unfold wordS; rw [all_no hc' (show okC c = false by unfold okC; rw [decide_eq_false d1, Bool.false_and]), Bool.and_false]
              rw [this] at k
              exact k
          · rintro σ H1 ⟨rfl, v, rfl, ha⟩
            have e : (z.cps.toList.take z.cps.size) = z.cps.toList := List.take_of_length_le (by simp)
            rw [e] at ha
            have : wordB (.str z) = true := by
              show wordS z = true
              unfold wordS; rw [ha, decide_eq_true (show 1 ≤ z.length by omega), decide_eq_true (show z.length ≤ 8 by omega)]; rfl
            rw [this] at k
            exact k
        · rw [decide_eq_false c2]
          refine iteT ?_
          have : wordB (.str z) = false := by
            show wordS z = false
            unfold wordS; rw [decide_eq_false (show ¬ z.length ≤ 8 by omega), Bool.and_false, Bool.false_and]
          rw [this] at k
          exact k
      · rw [decide_eq_false c1]
        refine iteF ?_
        walk_at "rd"
        refine iteT ?_
        have : wordB (.str z) = false := by
          show wordS z = false
          unfold wordS; rw [decide_eq_false (show ¬ 1 ≤ z.length by omega), Bool.false_and, Bool.false_and]
        rw [this] at k
        exact k
    | int i => exact iteT (iteT k)
    | bl b => exact iteT (iteT k)
    | non => exact iteT (iteT k)
    | lst h => exact iteT (iteT k)
    | tup h => exact iteT (iteT k)
/-! ### modes -/
abbrev modesS : List Str := ["join", "inner", "apart", "must", "either", "never", "outside", "alone"]
abbrev modesV : List V := [.str "join", .str "inner", .str "apart", .str "must", .str "either", .str "never", .str "outside", .str "alone"]
def modeB (v : V) : Bool := strB v && inV v modesV
theorem strB_flat {v : V} (h : strB v = true) : flatV v = true := by
  cases v <;> first | rfl | cases h
def spIsMode : Sp := fun vs H Q _ => ∃ v, vs = [v] ∧ Thing H v ∧ Q (.bl (modeB v)) H
theorem ok_Mode_is_mode (T : Txt K mg a d) : FnOk P w K mg base CX0 1 a.Mode_is_mode d.Mode_is_mode ["thing"] spIsMode := by
  refine T.Mode_is_mode.ok sc_Mode_is_mode (fun vs H Q E h => ?_) (fun cdv A outer s H vs Q E hr h => ?_)
  · obtain ⟨v, rfl, _⟩ := h
    rfl
  · obtain ⟨v, rfl, hv, k⟩ := h
    refine ⟨_, (pss_one (ps_ret (pe_and (pe_callB call_isi (by rfl) T.n_isinstance (by decide +kernel) (pa_cons (pv 0) (pa_cons (pe_bltn (v := .ty "str") (u := .type "str") (by rfl) T.n_str (by decide +kernel) rfl) pa_nil))) (pe_one (pe_cmpR op_in_seq (pv 0) (ClX.pe_cval (pe_glob (v := .ref a.Mode) (by rfl) T.g_Mode rfl)) (by rfl)))))), ?_⟩
    dsimp only [cxOf]
    obtain ⟨ty, h1, h2⟩ := hv.isi (K := K)
    refine ⟨_, rfl, _, _, _, _, _, rfl, ClsV.ty _, h1, h2, _, rfl, ?_⟩
    obtain ⟨u, hu⟩ := T.c_Mode_ALL
    unfold modeB at k
    cases hb : strB v with
    | true =>
      rw [hb] at k
      refine iteT ⟨_, rfl, _, _, _, _, rfl, T.r_Mode, hu, _, _, rfl, .inr (T.q_Mode_ALL H), strB_flat hb, rfl, k⟩
    | false =>
      rw [hb] at k
      exact iteF k
theorem mode_thing {H : Hp} {m : Str} (h : m ∈ modesS) : Thing H (.str m) := by
  refine .str m ?_ ?_
  · have : modesS.all (fun m => decide (m.length ≤ 1000)) = true := by decide +kernel
    exact of_decide_eq_true (List.all_eq_true.mp this m h)
  · intro c hc
    have : modesS.all (fun m => m.cps.toList.all fun c => decide (c < 128)) = true := by decide +kernel
    exact of_decide_eq_true (List.all_eq_true.mp (List.all_eq_true.mp this m h) c hc)
theorem mode_isB {m : Str} (h : m ∈ modesS) : modeB (.str m) = true := by
  have : modesS.all (fun m => modeB (.str m)) = true := by decide +kernel
  exact List.all_eq_true.mp this m h
/-! ### libraries: rows, statements, the reader as a plain function -/
abbrev Row := Option (Nat × List Str)
abbrev Mk := Nat × Str
/-- what a statement says beside its bodies -/
inductive Hd
  | sim (w : Str)
  | one (k w : Str)
  | blk (n : Nat) (m : Str) (ks : List Str)
  | gua (k : Str)
  | tr (ws : List (Option (List Str))) (fin : Bool)
inductive Stm
  | mk (h : Hd) (ps : List (List Stm))
inductive Rs (α : Type)
  | err (l : Nat)
  | ok (x : α) (at_ : Nat) (mk : List Mk)
def wordsAt (rows : List Row) (n at_ : Nat) : List Str := match rows[at_]? with
  | some (some (m, ws)) => if m = n then ws else []
  | _ => []
def stops (ws : List Str) : Bool := match ws with
  | [] => true
  | w :: _ => decide (w ∈ (["except", "finally"] : List Str))
def fstW (ws : List Str) : Str := ws.getD 0 ""
def modeS (z : Str) : Bool := decide (z ∈ (["join", "inner", "apart", "must", "either", "never", "outside", "alone"] : List Str))
mutual
def rdB (rows : List Row) : Nat → Nat → Nat → List Mk → Option (Rs (List Stm))
  | 0, _, _, _ => none
  | k + 1, n, i, mk => rdL rows k n i mk []
def rdL (rows : List Row) : Nat → Nat → Nat → List Mk → List Stm → Option (Rs (List Stm))
  | 0, _, _, _, _ => none
  | k + 1, n, i, mk, acc =>
    if stops (wordsAt rows n i) = true then (if acc.isEmpty = true then some (.err i) else some (.ok acc i mk))
    else match rdS rows k n i mk with
      | none => none
      | some (.err l) => some (.err l)
      | some (.ok s j mk1) => rdL rows k n j mk1 (acc ++ [s])
def rdS (rows : List Row) : Nat → Nat → Nat → List Mk → Option (Rs Stm)
  | 0, _, _, _ => none
  | k + 1, n, i, mk =>
    if fstW (wordsAt rows n i) ∈ (["pass", "doom"] : List Str) then (if (wordsAt rows n i).length = 1 then some (.ok (.mk (.sim (fstW (wordsAt rows n i))) []) (i + 1) mk) else some (.err i))
    else if fstW (wordsAt rows n i) ∈ (["write", "raise", "call"] : List Str) then (if (wordsAt rows n i).length = 2 then some (.ok (.mk (.one (fstW (wordsAt rows n i)) ((wordsAt rows n i).getD 1 "")) []) (i + 1) mk) else some (.err i))
    else if fstW (wordsAt rows n i) ∉ (["block", "maybe", "repeat", "try"] : List Str) ∨ n = 8 then some (.err i)
    else if fstW (wordsAt rows n i) = "block" then
      (if (wordsAt rows n i).length < 2 ∨ modeS ((wordsAt rows n i).getD 1 "") = false ∨ (wordsAt rows n i).length = 3 then some (.err i)
      else if 3 < (wordsAt rows n i).length ∧ (wordsAt rows n i).getD 2 "" ≠ "keep" then some (.err i)
      else match rdB rows k (n + 1) (i + 1) (mk ++ [(i, (wordsAt rows n i).getD 1 "")]) with
        | none => none
        | some (.err l) => some (.err l)
        | some (.ok b j mk1) => some (.ok (.mk (.blk mk.length ((wordsAt rows n i).getD 1 "") ((wordsAt rows n i).drop 3)) [b]) j mk1))
    else if (wordsAt rows n i).length ≠ 1 then some (.err i)
    else if fstW (wordsAt rows n i) = "try" then rdT rows k n (i + 1) mk
    else match rdB rows k (n + 1) (i + 1) mk with
        | none => none
        | some (.err l) => some (.err l)
        | some (.ok b j mk1) => some (.ok (.mk (.gua (fstW (wordsAt rows n i))) [b]) j mk1)
def rdT (rows : List Row) : Nat → Nat → Nat → List Mk → Option (Rs Stm)
  | 0, _, _, _ => none
  | k + 1, n, i, mk => match rdB rows k (n + 1) i mk with
      | none => none
      | some (.err l) => some (.err l)
      | some (.ok b j mk1) => rdH rows k n j mk1 b [] [] true
def rdH (rows : List Row) : Nat → Nat → Nat → List Mk → List Stm → List (Option (List Str)) → List (List Stm) → Bool → Option (Rs Stm)
  | 0, _, _, _, _, _, _, _ => none
  | k + 1, n, i, mk, b, hw, hb, op =>
    if op = true ∧ (wordsAt rows n i).take 1 = (["except"] : List Str) then
      match rdB rows k (n + 1) (i + 1) mk with
        | none => none
        | some (.err l) => some (.err l)
        | some (.ok c j mk1) => rdH rows k n j mk1 b (hw ++ [if (wordsAt rows n i).drop 1 = [] then none else some ((wordsAt rows n i).drop 1)]) (hb ++ [c]) (decide ((wordsAt rows n i).drop 1 ≠ []))
    else if wordsAt rows n i = (["finally"] : List Str) then
      match rdB rows k (n + 1) (i + 1) mk with
        | none => none
        | some (.err l) => some (.err l)
        | some (.ok c j mk1) => some (.ok (.mk (.tr hw true) (b :: hb ++ [c])) j mk1)
    else if hw = [] then some (.err i)
    else some (.ok (.mk (.tr hw false) (b :: hb)) i mk)
end
/-- a function of a library: its name, its line, its body -/
structure Fun where
  name : Str
  start : Nat
  body : List Stm
def rdAll (rows : List Row) : Nat → Nat → List Mk → List Fun → Option (Rs (List Fun))
  | 0, _, _, _ => none
  | k + 1, i, mk, fs =>
    if i < rows.length then
      (if (wordsAt rows 0 i).length ≠ 2 ∨ fstW (wordsAt rows 0 i) ≠ "function" ∨ (wordsAt rows 0 i).getD 1 "" ∈ fs.map (·.name) then some (.err i)
      else match rdB rows k 1 (i + 1) mk with
        | none => none
        | some (.err l) => some (.err l)
        | some (.ok b j mk1) => rdAll rows k j mk1 (fs ++ [⟨(wordsAt rows 0 i).getD 1 "", i, b⟩]))
    else some (.ok fs i mk)
/-! ### in the heap -/
def optV : Option (List Str) → (Option Addr) → HO → Prop := fun _ _ _ => True
/-- the tuple's items, its bodies' tuples at rs -/
def HdAt (H : Hp) : Hd → List Addr → List V → Prop
  | .sim w, rs, xs => rs = [] ∧ xs = [.str w]
  | .one k w, rs, xs => rs = [] ∧ xs = [.str k, .str w]
  | .blk n m ks, rs, xs => ∃ q r, rs = [r] ∧ xs = [.str "block", .int (n : Int), .str m, .ref q, .ref r] ∧ H q = some (.tup (ks.map V.str))
  | .gua k, rs, xs => ∃ r, rs = [r] ∧ xs = [.str k, .ref r]
  | .tr ws fin, rs, xs => ∃ r0 rr q ts fv, xs = [.str "try", .ref r0, .ref q, fv] ∧ H q = some (.tup (ts.map V.ref)) ∧
      A2 (fun (t : Addr) (p : Option (List Str) × Addr) => ∃ lv, H t = some (.tup [lv, .ref p.2]) ∧ match p.1 with | none => lv = .non | some l => ∃ y, lv = .ref y ∧ H y = some (.tup (l.map V.str))) ts (ws.zip rr) ∧ rr.length = ws.length ∧
      (if fin = true then ∃ r1, fv = .ref r1 ∧ rs = r0 :: rr ++ [r1] else fv = .non ∧ rs = r0 :: rr)
mutual
def SAt (H : Hp) : Stm → V → Prop
  | .mk h ps, v => ∃ p xs rs, v = .ref p ∧ H p = some (.tup xs) ∧ HdAt H h rs xs ∧ PsAt H ps rs
def PsAt (H : Hp) : List (List Stm) → List Addr → Prop
  | [], rs => rs = []
  | b :: r, rs => ∃ y rt vs, rs = y :: rt ∧ H y = some (.tup vs) ∧ BAt H b vs ∧ PsAt H r rt
def BAt (H : Hp) : List Stm → List V → Prop
  | [], vs => vs = []
  | s :: r, vs => ∃ v vt, vs = v :: vt ∧ SAt H s v ∧ BAt H r vt
end
theorem A2.imp2 {α β : Type} {R S : α → β → Prop} (h : ∀ x y, R x y → S x y) : ∀ {xs : List α} {ys : List β}, A2 R xs ys → A2 S xs ys := fun a => a.imp h
theorem HdAt.tup {H H' : Hp} (e : TupK H H') : ∀ {h : Hd} {rs : List Addr} {xs : List V}, HdAt H h rs xs → HdAt H' h rs xs
  | .sim _, _, _, h => h
  | .one _ _, _, _, h => h
  | .blk _ _ _, _, _, ⟨q, r, h1, h2, h3⟩ => ⟨q, r, h1, h2, e _ _ h3⟩
  | .gua _, _, _, h => h
  | .tr ws fin, rs, xs, ⟨r0, rr, q, ts, fv, h1, h2, h3, h4, h5⟩ => ⟨r0, rr, q, ts, fv, h1, e _ _ h2, h3.imp fun t p ⟨lv, a1, a2⟩ => ⟨lv, e _ _ a1, by
      cases hp : p.1 with
      | none => rw [hp] at a2; exact a2
      | some l =>
        rw [hp] at a2
        obtain ⟨y, b1, b2⟩ := a2
        exact ⟨y, b1, e _ _ b2⟩⟩, h4, h5⟩
mutual
theorem SAt.tup {H H' : Hp} (e : TupK H H') : ∀ {s : Stm} {v : V}, SAt H s v → SAt H' s v
  | .mk h ps, v, ⟨p, xs, rs, h1, h2, h3, h4⟩ => ⟨p, xs, rs, h1, e _ _ h2, h3.tup e, PsAt.tup e h4⟩
theorem PsAt.tup {H H' : Hp} (e : TupK H H') : ∀ {ps : List (List Stm)} {rs : List Addr}, PsAt H ps rs → PsAt H' ps rs
  | [], _, h => h
  | b :: r, rs, ⟨y, rt, vs, h1, h2, h3, h4⟩ => ⟨y, rt, vs, h1, e _ _ h2, BAt.tup e h3, PsAt.tup e h4⟩
theorem BAt.tup {H H' : Hp} (e : TupK H H') : ∀ {b : List Stm} {vs : List V}, BAt H b vs → BAt H' b vs
  | [], _, h => h
  | s :: r, vs, ⟨v, vt, h1, h2, h3⟩ => ⟨v, vt, h1, SAt.tup e h2, BAt.tup e h3⟩
end
theorem BAt.app {H : Hp} : ∀ {b c : List Stm} {vs us : List V}, BAt H b vs → BAt H c us → BAt H (b ++ c) (vs ++ us)
  | [], _, _, _, h, h2 => by
    have h : _ = ([] : List V) := h
    subst h; exact h2
  | s :: r, _, _, _, ⟨v, vt, h1, h3, h4⟩, h2 => by
    subst h1
    exact ⟨v, vt ++ _, rfl, h3, BAt.app h4 h2⟩
theorem BAt.len {H : Hp} : ∀ {b : List Stm} {vs : List V}, BAt H b vs → vs.length = b.length
  | [], _, h => by
    have h : _ = ([] : List V) := h
    subst h; rfl
  | s :: r, _, ⟨v, vt, h1, h3, h4⟩ => by
    subst h1
    exact congrArg Nat.succ (BAt.len h4)
theorem PsAt.app {H : Hp} : ∀ {b c : List (List Stm)} {vs us : List Addr}, PsAt H b vs → PsAt H c us → PsAt H (b ++ c) (vs ++ us)
  | [], _, _, _, h, h2 => by
    have h : _ = ([] : List Addr) := h
    subst h; exact h2
  | s :: r, _, _, _, ⟨y, rt, vs, h1, h3, h4, h5⟩, h2 => by
    subst h1
    exact ⟨y, rt ++ _, vs, rfl, h3, h4, PsAt.app h5 h2⟩
theorem cutV_from (xs : List V) (k : Nat) : cutV xs (some (k : Int)) none = xs.drop k := by
  unfold cutV
  rw [HT.sIx_none, HT.sIx_nat]
  rcases Nat.le_total k xs.length with h | h
  · rw [Nat.min_eq_left h, List.take_of_length_le (by rw [List.length_drop]; omega)]
  · rw [Nat.min_eq_right h, List.drop_length, List.drop_of_length_le h, List.take_nil]
theorem cutV_to (xs : List V) (k : Nat) : cutV xs none (some (k : Int)) = xs.take k := by
  unfold cutV
  rw [HT.sIx_none, HT.sIx_nat, List.drop_zero, Nat.sub_zero]
  rcases Nat.le_total k xs.length with h | h
  · rw [Nat.min_eq_left h]
  · rw [Nat.min_eq_right h, List.take_length, List.take_of_length_le h]
/-! ### split_line -/
def bareS (z : Str) : Str := Txt.lstripChars z " "
def spacesN (z : Str) : Nat := z.length - (bareS z).length
def wordsN (z : Str) : List Str := Txt.split (bareS z) " "
def rowOf (z : Str) : Row := if spacesN z % 2 = 1 ∨ (wordsN z).all wordS = false then none else some (spacesN z / 2, wordsN z)
structure LineOk (z : Str) : Prop where
  len : z.length ≤ 100000
  bl : (bareS z).length ≤ z.length
  wl : (wordsN z).length ≤ 100002
  ws : ∀ w ∈ wordsN z, w.length ≤ 1000 ∧ asc w
/-- a row in the heap; its list of words is not at m -/
def RowAt (m : Addr) (H : Hp) (v : V) (r : Row) : Prop := match r with
  | none => v = .non
  | some (n, ws) => ∃ t l, v = .ref t ∧ H t = some (.tup [.int (n : Int), .ref l]) ∧ H l = some (.lst (ws.map V.str)) ∧ l ≠ m
def spSplit : Sp := fun vs H Q _ => ∃ z : Str, vs = [.str z] ∧ LineOk z ∧ ∀ H' v, Same H H' → (∀ m, H m ≠ none → RowAt m H' v (rowOf z)) → Q v H'
theorem bitAnd_one (n : Nat) : Builtin.bitAnd (n : Int) 1 = ((n % 2 : Nat) : Int) := by
  unfold Builtin.bitAnd
  rw [decide_eq_true (Int.natCast_nonneg n), decide_eq_true (by decide : (0 : Int) ≤ 1)]
  simp
theorem words_all : ∀ (ws : List Str) (i : Nat), ((ws.take i).map fun w => V.bl (wordS w)) = ((ws.take i).map wordS).map V.bl := fun ws i => by rw [List.map_map]; rfl
theorem ok_split_line (T : Txt K mg a d) : FnOk P w K mg base CX0 2 a.split_line d.split_line ["line"] spSplit := by
  have G_is_word : FnOk P w K mg base CX0 1 a.is_word d.is_word ["thing"] spIsWord := ok_is_word T
  refine T.split_line.ok sc_split_line (fun vs H Q E h => ?_) (fun cdv A outer s H vs Q E hr h => ?_)
  · obtain ⟨z, rfl, _⟩ := h
    rfl
  · obtain ⟨z, rfl, L, k⟩ := h
    refine ⟨_, (pss_cons (ps_set (i := 1) sc_split_line.nd rfl (Or.inl rfl) (pe_bm PySem.F.plainAttrs_str PySem.F.slot_str_lstrip PySem.F.type_str_lstrip mt_lstripChars (pv 0) (pa_cons pe_str pa_nil)))
  (pss_cons (ps_set (i := 2) sc_split_line.nd rfl (Or.inl rfl) (pe_op op_sub (pe_callB call_len_str (by rfl) T.n_len PySem.boot_len (pa_cons (pv 0) pa_nil)) (pe_callB call_len_str (by rfl) T.n_len PySem.boot_len (pa_cons (pv 1) pa_nil))))
  (pss_cons (ps_set (i := 3) sc_split_line.nd rfl (Or.inl rfl) (pe_split (pv 1) pe_str))
  (pss_cons (ps_if (PW.pt (pw_or (pt_truth (pe_op op_and (pv 2) pe_int) (by intro _; rfl)) (pw_or1 (pt_not (pt_truth (pe_callB (cr_all rfl) (by rfl) T.n_all (by decide +kernel) (pa_cons (pe_lc (own := [("word", 4)]) (tt := tYes) rfl sc_split_line.nd (pi_list (pv 3)) (blkOk_by (own := [("word", 4)]) (N := ["line", "bare", "spaces", "words", "word"]) (sc := defScope s_split_line) (by decide +kernel)) (fun _ _ _ _ _ => (pg_name (i := 4) sc_split_line.nd rfl (Or.inl rfl))) (fun _ _ _ _ _ => pts_nil) (fun _ _ _ _ _ => (pe_call G_is_word (hr.mono (by omega)) (by rfl) T.g_is_word T.is_word.kp T.b_is_word .nil pass0 (pa_cons (pv 4) pa_nil)))) pa_nil)) (by intro _; rfl)))))) (pss_one (ps_ret pe_non)) pss_nil)
  (pss_one (ps_ret (pe_tup (pa_cons (pe_op op_fdivW (pv 2) pe_int) (pa_cons (pv 3) pa_nil))))))))), ?_⟩
    dsimp only [cxOf]
    have esp : (z.length : Int) - ((bareS z).length : Int) = (spacesN z : Int) := by have := L.bl; unfold spacesN; omega
    walk_at "rd"
    rw [show Txt.lstripChars z (Str.ofString " ") = bareS z from rfl]
    have hl : z.length ≤ sizeLine := by rw [sizeLine_eq]; have := L.len; omega
    have hb : (bareS z).length ≤ sizeLine := by have := L.bl; omega
    refine ⟨hl, ?_⟩
    walk_at "rd"
    have hb2 : (bareS z).length + 2 ≤ sizeLine := by rw [sizeLine_eq]; have := L.len; have := L.bl; omega
    refine ⟨hb2, ?_⟩
    rw [show ((fun i j => V.int (i - j)) ((z.length : Nat) : Int) ((bareS z).length : Int)) = V.int (spacesN z : Int) from congrArg V.int esp]
    intro l hl1
    rw [show Txt.split (bareS z) (Str.ofString " ") = wordsN z from rfl]
    have s1 : Same H (upd H l (.lst ((wordsN z).map V.str))) := (Same.refl H).new hl1
    have e1 := upd_same (H := H) (a := l) (o := .lst ((wordsN z).map V.str))
    generalize upd H l (.lst ((wordsN z).map V.str)) = H1 at s1 e1 ⊢
    have b1 := bitAnd_one (spacesN z)
    by_cases c0 : spacesN z % 2 = 1
    · have er : rowOf z = none := if_pos (.inl c0)
      have c1 : (Builtin.bitAnd (spacesN z : Int) 1 != 0) = true := by rw [b1, c0]; rfl
      walk_at "rd"
      rw [c1]
      refine iteT ?_
      walk_at "rd"
      exact k H1 .non s1 (fun m _ => by rw [er]; rfl)
    · have c1 : (Builtin.bitAnd (spacesN z : Int) 1 != 0) = false := by rw [b1, show spacesN z % 2 = 0 by omega]; rfl
      walk_at "rd"
      rw [c1]
      refine iteF ?_
      walk_at "rd"
      refine ⟨⟨_, SqL.of e1⟩, fun D hD => ?_⟩
      refine lc_list (xs := (wordsN z).map V.str) (fun i G => Same H1 G ∧ G D = some (.lst (((wordsN z).take i).map fun w => V.bl (wordS w)))) ?_ ?_ ?_ ?_
      · exact ⟨(Same.refl _).new hD, upd_same⟩
      · rintro i G _ ⟨s2, _⟩
        exact SqL.of (s2 _ _ e1)
      · rintro i x G hx ⟨s2, g2⟩
        obtain ⟨w', hw', rfl⟩ : ∃ w', (wordsN z)[i]? = some w' ∧ x = V.str w' := by
          rw [List.getElem?_map] at hx
          cases q : (wordsN z)[i]? with
          | none => rw [q] at hx; cases hx
          | some w' => rw [q] at hx; cases hx; exact ⟨w', rfl, rfl⟩
        obtain ⟨lw, aw⟩ := L.ws w' (List.mem_of_getElem? hw')
        have li : i < (wordsN z).length := (List.getElem?_eq_some_iff.mp hw').1
        have lw2 := L.wl
        refine ⟨rfl, ?_⟩
        walk_at "rd"
        refine ⟨.str w' lw aw, ?_⟩
        refine ⟨_, g2, by rw [List.length_map, List.length_take, sizeLine_eq]; omega, s2.frsh hD, ?_⟩
        rw [upd_same, List.take_add_one, hw', List.map_append]; rfl
      · rintro G ⟨s2, g2⟩
        rw [List.length_map, List.take_length] at g2
        have g3 : G D = some (.lst (((wordsN z).map wordS).map V.bl)) := by rw [g2, List.map_map]; rfl
        refine ⟨D, _, rfl, SqL.of g3, ?_⟩
        have ea : ((wordsN z).map wordS).all id = (wordsN z).all wordS := by rw [List.all_map]; rfl
        have e2 := s2 _ _ e1
        refine ⟨_, rfl, ?_⟩
        rw [ea]
        cases c2 : (wordsN z).all wordS with
        | false =>
          have er : rowOf z = none := if_pos (.inr c2)
          refine iteT ?_
          exact k G .non (s1.trans s2) (fun m _ => by rw [er]; rfl)
        | true =>
          have er : rowOf z = some (spacesN z / 2, wordsN z) := if_neg (by rw [c2]; simp [c0])
          refine iteF ?_
          have ed : ((spacesN z : Int)) / 2 = ((spacesN z / 2 : Nat) : Int) := by omega
          walk_at "rd"
          intro p hp
          rw [show (fun i j => V.int (i / j)) (spacesN z : Int) 2 = V.int ((spacesN z / 2 : Nat) : Int) from congrArg V.int ed]
          refine k _ _ ((s1.trans s2).new hp) (fun m hm => ?_)
          rw [er]
          exact ⟨p, l, rfl, upd_same, upd_old e2 hp, fun e => hm (e ▸ hl1)⟩
/-! ### Reader: its state in the heap; words_at, wrong_if -/
structure RA where
  x : Addr
  dx : Addr
  rl : Addr
  sd : Addr
  bd : Addr
  ml : Addr
def MkAt (H : Hp) (t : Addr) (m : Mk) : Prop := H t = some (.tup [.int (m.1 : Int), .str m.2])
def rdF (L : RA) (i : Nat) : List (Str × V) := [("rows", .ref L.rl), ("at", .int (i : Int)), ("starts", .ref L.sd), ("bodies", .ref L.bd), ("marks", .ref L.ml)]
/-- all tuples stand, and all lists but the one at m -/
def LK (m : Addr) (H H' : Hp) : Prop := TupK H H' ∧ ∀ b l, b ≠ m → H b = some (.lst l) → H' b = some (.lst l)
theorem LK.of_same {m : Addr} {H H' : Hp} (e : Same H H') : LK m H H' := ⟨TupK.of_same e, fun b l _ h => e _ _ h⟩
theorem LK.trans {m : Addr} {H H1 H2 : Hp} (a : LK m H H1) (b : LK m H1 H2) : LK m H H2 := ⟨a.1.trans b.1, fun c l n h => b.2 c l n (a.2 c l n h)⟩
theorem LK.ins {m x C dx : Addr} {H : Hp} {fs : List (Str × V)} {o : HO} (h : H x = some (.ins C dx fs)) : LK m H (upd H x o) :=
  ⟨fun b l e => upd_oth (fun z => by rw [z, h] at e; cases e) e, fun b l _ e => upd_oth (fun z => by rw [z, h] at e; cases e) e⟩
theorem LK.lst {m : Addr} {H : Hp} {xs : List V} {o : HO} (h : H m = some (.lst xs)) : LK m H (upd H m o) := ⟨TupK.set h, fun b l n e => upd_oth n e⟩
theorem RowAt.lk {m : Addr} {H H' : Hp} (e : LK m H H') {v : V} {r : Row} (h : RowAt m H v r) : RowAt m H' v r := by
  cases r with
  | none => exact h
  | some p =>
    obtain ⟨t, l, h1, h2, h3, h4⟩ := h
    exact ⟨t, l, h1, e.1 _ _ h2, e.2 _ _ h4 h3, h4⟩
/-- what all rows that are read have -/
def RowsOk (rows : List Row) : Prop := rows.length ≤ 100000 ∧ ∀ n ws, some (n, ws) ∈ rows → (∀ w ∈ ws, IsWord w) ∧ ws.length ≤ 100002
theorem wordsAt_ok {rows : List Row} (h : RowsOk rows) {n i : Nat} : (∀ w ∈ wordsAt rows n i, IsWord w) ∧ (wordsAt rows n i).length ≤ 100002 := by
  unfold wordsAt
  cases e : rows[i]? with
  | none => exact ⟨(fun w h => nomatch h), Nat.zero_le _⟩
  | some r =>
    cases r with
    | none => exact ⟨(fun w h => nomatch h), Nat.zero_le _⟩
    | some p =>
      obtain ⟨m, ws⟩ := p
      dsimp only
      by_cases c : m = n
      · rw [if_pos c]
        exact h.2 m ws (List.mem_of_getElem? e)
      · rw [if_neg c]
        exact ⟨(fun w h => nomatch h), Nat.zero_le _⟩
structure RdAt (a : Ad) (H : Hp) (L : RA) (rows : List Row) (i : Nat) (mk : List Mk) : Prop where
  ob : H L.x = some (.ins a.Reader L.dx (rdF L i))
  rw_ : ∃ vs, H L.rl = some (.lst vs) ∧ A2 (RowAt L.ml H) vs rows
  mk_ : ∃ ms : List Addr, H L.ml = some (.lst (ms.map V.ref)) ∧ A2 (MkAt H) ms mk
  ne : L.rl ≠ L.ml
  le : i ≤ rows.length
  ln : RowsOk rows
theorem RdAt.same {a : Ad} {H H' : Hp} {L : RA} {rows : List Row} {i : Nat} {mk : List Mk} (e : Same H H') (h : RdAt a H L rows i mk) : RdAt a H' L rows i mk := by
  obtain ⟨vs, h1, h2⟩ := h.rw_
  obtain ⟨ms, h3, h4⟩ := h.mk_
  exact ⟨e _ _ h.ob, ⟨vs, e _ _ h1, h2.imp fun _ _ r => r.lk (LK.of_same e)⟩, ⟨ms, e _ _ h3, h4.imp fun _ _ r => e _ _ r⟩, h.ne, h.le, h.ln⟩
/-- self.at is moved -/
theorem RdAt.move {a : Ad} {H : Hp} {L : RA} {rows : List Row} {i j : Nat} {mk : List Mk} (h : RdAt a H L rows i mk) (hj : j ≤ rows.length) : RdAt a (upd H L.x (.ins a.Reader L.dx (rdF L j))) L rows j mk := by
  obtain ⟨vs, h1, h2⟩ := h.rw_
  obtain ⟨ms, h3, h4⟩ := h.mk_
  have n : ∀ {b l}, H b = some (.lst l) → b ≠ L.x := fun {b l} e z => by rw [z, h.ob] at e; cases e
  exact ⟨upd_same, ⟨vs, upd_oth (n h1) h1, h2.imp fun _ _ r => r.lk (LK.ins h.ob)⟩, ⟨ms, upd_oth (n h3) h3, h4.imp fun _ _ r => (LK.ins (m := L.ml) h.ob).1 _ _ r⟩, h.ne, hj, h.ln⟩
/-- a mark is put behind -/
theorem RdAt.mark {a : Ad} {H : Hp} {L : RA} {rows : List Row} {i : Nat} {mk : List Mk} {m : Mk} {ms : List Addr} {t : Addr} (h : RdAt a H L rows i mk) (h3 : H L.ml = some (.lst (ms.map V.ref))) (h4 : A2 (MkAt H) ms mk) (ht : MkAt H t m) :
    RdAt a (upd H L.ml (.lst (ms.map V.ref ++ [.ref t]))) L rows i (mk ++ [m]) := by
  obtain ⟨vs, h1, h2⟩ := h.rw_
  have nx : L.x ≠ L.ml := fun z => by rw [← z, h.ob] at h3; cases h3
  have lk := LK.lst (o := .lst (ms.map V.ref ++ [.ref t])) h3
  exact ⟨upd_oth nx h.ob, ⟨vs, upd_oth h.ne h1, h2.imp fun _ _ r => r.lk lk⟩, ⟨ms ++ [t], by rw [upd_same, List.map_append]; rfl, (h4.imp fun _ _ r => lk.1 _ _ r).app (.cons (lk.1 _ _ ht) .nil)⟩, h.ne, h.le, h.ln⟩
abbrev FrR (L : RA) (H H' : Hp) : Prop := Kp (fun b => b = L.x ∨ b = L.ml) H H'
theorem words_some {rows : List Row} {n i : Nat} (h : wordsAt rows n i ≠ []) : i < rows.length := by
  rcases Nat.lt_or_ge i rows.length with l | g
  · exact l
  · exfalso
    apply h
    unfold wordsAt
    rw [List.getElem?_eq_none g]
def spWat (a : Ad) : Sp := fun vs H Q _ => ∃ (L : RA) (rows : List Row) (n i : Nat) (mk : List Mk), vs = [.ref L.x, .int (n : Int)] ∧ RdAt a H L rows i mk ∧
  ∀ H' l, Same H H' → H' l = some (.lst ((wordsAt rows n i).map V.str)) → l ≠ L.ml → Q (.ref l) H'
theorem ok_Reader_words_at (T : Txt K mg a d) : FnOk P w K mg base CX0 1 a.Reader_words_at d.Reader_words_at ["self", "nesting"] (spWat a) := by
  refine T.Reader_words_at.ok sc_Reader_words_at (fun vs H Q E h => ?_) (fun cdv A outer s H vs Q E hr h => ?_)
  · obtain ⟨L, rows, n, i, mk, rfl, _⟩ := h
    rfl
  · obtain ⟨L, rows, n, i, mk, rfl, I, k⟩ := h
    have c1 := T.k_Reader
    have n1 := T.na_Reader_at
    have n2 := T.na_Reader_rows
    obtain ⟨vs, h1, h2⟩ := I.rw_
    have ho := I.ob
    have lv := h2.len
    obtain ⟨ms, h3, _⟩ := I.mk_
    refine ⟨_, (pss_cons (ps_if (pt_cmpR op_eq (pe_fld (pv 0) rfl) (pe_callB call_len_seq (by rfl) T.n_len PySem.boot_len (pa_cons (pe_fld (pv 0) rfl) pa_nil)) (nomark _)) (pss_one (ps_ret (pe_lst pa_nil))) pss_nil)
  (pss_cons (ps_set (i := 2) sc_Reader_words_at.nd rfl (Or.inl rfl) (pe_ix ix_list (pe_fld (pv 0) rfl) (pe_fld (pv 0) rfl) (fun _ _ => rfl)))
  (pss_one (ps_ret (pe_ifExp (PW.pt (pw_and (pt_cmpR op_notN (pv 2) pe_non (nomark _)) (pw_and1 (pt_cmpR op_eq (pe_ix ix_tup (pv 2) pe_int (fun _ _ => rfl)) (pv 1) (nomark _))))) (pe_ix ix_tup (pv 2) pe_int (fun _ _ => rfl)) (pe_lst pa_nil)))))), ?_⟩
    dsimp only [cxOf]
    have l1 : List.lookup ("at" : Str) (rdF L i) = some (.int (i : Int)) := rfl
    have l2 : List.lookup ("rows" : Str) (rdF L i) = some (.ref L.rl) := rfl
    have a0 : ∀ (p q : V), atI [p, q] 0 = some p := fun p q => (atI_nat rfl : atI [p, q] ((0 : Nat) : Int) = _)
    have a1 : ∀ (p q : V), atI [p, q] 1 = some q := fun p q => (atI_nat rfl : atI [p, q] ((1 : Nat) : Int) = _)
    walk_at "rd"
    refine ite2 (fun c0 => ?_) (fun c0 => ?_)
    · have e := V.int.inj (of_decide_eq_true c0)
      have ew : wordsAt rows n i = [] := by
        unfold wordsAt
        rw [List.getElem?_eq_none (by omega)]
      rw [ew] at k
      walk_at "rd"
      intro p hp
      exact k _ p ((Same.refl H).new hp) upd_same (Ne.symm (ne_of_none h3 hp))
    · have li : i < vs.length := by
        have le := I.le
        rcases Nat.lt_or_ge i vs.length with l | g
        · exact l
        · exact absurd (decide_eq_true (congrArg V.int (by omega : (i : Int) = (vs.length : Int)))) c0
      have hv := List.getElem?_eq_getElem li
      obtain ⟨r, hr1, hrow⟩ := h2.at hv
      have hat : atI vs (i : Int) = some vs[i] := atI_nat hv
      generalize vs[i] = v at hat hrow
      unfold wordsAt at k
      rw [hr1] at k
      cases r with
      | none =>
        have hrow : v = .non := hrow
        subst hrow
        walk_at "rd"
        intro p hp
        exact k _ p ((Same.refl H).new hp) upd_same (Ne.symm (ne_of_none h3 hp))
      | some p =>
        obtain ⟨m, ws⟩ := p
        obtain ⟨t, l, rfl, ht, hl, nl⟩ := hrow
        have b0 := a0 (.int (m : Int)) (.ref l)
        have b1 := a1 (.int (m : Int)) (.ref l)
        dsimp only at k
        walk_at "rd"
        refine ite2 (fun c1 => ?_) (fun c1 => ?_)
        · have e := V.int.inj (of_decide_eq_true c1)
          rw [if_pos (show m = n by omega)] at k
          walk_at "rd"
          exact k H l (Same.refl H) hl nl
        · rw [if_neg (fun e => c1 (decide_eq_true (by rw [e])))] at k
          walk_at "rd"
          intro p hp
          exact k _ p ((Same.refl H).new hp) upd_same (Ne.symm (ne_of_none h3 hp))
/-! ### Reader: wrong_if, read_block, read_statement -/
def spWrong (a : Ad) : Sp := fun vs H Q E => ∃ (x dx : Addr) (fs : List (Str × V)) (i : V) (b : Bool), vs = [.ref x, .bl b] ∧ H x = some (.ins a.Reader dx fs) ∧ List.lookup ("wrong_if" : Str) fs = none ∧ List.lookup ("at" : Str) fs = some i ∧ (b = true → errQ a.BadLibrary ef_BadLibrary [i] H E) ∧ (b = false → Q .non H)
theorem ok_Reader_wrong_if (T : Txt K mg a d) : FnOk P w K mg base (L2.CX P w) 3 a.Reader_wrong_if d.Reader_wrong_if ["self", "is_wrong"] (spWrong a) := by
  refine T.Reader_wrong_if.okX sc_Reader_wrong_if (fun vs H Q E h => ?_) (fun cdv A outer s H vs Q E hr h => ?_)
  · obtain ⟨x, dx, fs, i, b, rfl, _⟩ := h
    rfl
  · obtain ⟨x, dx, fs, i, b, rfl, hx, _, hl, k1, k2⟩ := h
    have c1 := T.k_Reader
    have n1 := T.na_Reader_at
    refine ⟨_, (pss_one (ps_if (pt_val (pv 1)) (pss_one (ps_raise rfl (takes_of rfl rfl rfl rfl) (pmk_err T.e_BadLibrary T.g_BadLibrary T.n_super hr (pa_cons (pe_fld (pv 0) rfl) pa_nil)))) pss_nil)), ?_⟩
    try dsimp only [cxOf]
    cases b
    · walk_at "rd"
      refine iteF ?_
      exact k2 rfl
    · walk_at "rd"
      exact k1 rfl
def outB (a : Ad) (L : RA) (rows : List Row) (H : Hp) (Q : VK) (E : XK) : Rs (List Stm) → Prop
  | .err l => ∀ H', FrR L H H' → errQ a.BadLibrary ef_BadLibrary [.int (l : Int)] H' E
  | .ok b j mk => ∀ H' p vs, FrR L H H' → RdAt a H' L rows j mk → H' p = some (.tup vs) → BAt H' b vs → Q (.ref p) H'
def outS (a : Ad) (L : RA) (rows : List Row) (H : Hp) (Q : VK) (E : XK) : Rs Stm → Prop
  | .err l => ∀ H', FrR L H H' → errQ a.BadLibrary ef_BadLibrary [.int (l : Int)] H' E
  | .ok s j mk => ∀ H' v, FrR L H H' → RdAt a H' L rows j mk → SAt H' s v → Q v H'
theorem outB.fr {a : Ad} {L : RA} {rows : List Row} {H H1 : Hp} {Q : VK} {E : XK} {r : Rs (List Stm)} (f : FrR L H H1) (h : outB a L rows H Q E r) : outB a L rows H1 Q E r := by
  cases r with
  | err l => exact fun H' f' => h H' (f.trans f')
  | ok b j mk => exact fun H' p vs f' => h H' p vs (f.trans f')
theorem outS.fr {a : Ad} {L : RA} {rows : List Row} {H H1 : Hp} {Q : VK} {E : XK} {r : Rs Stm} (f : FrR L H H1) (h : outS a L rows H Q E r) : outS a L rows H1 Q E r := by
  cases r with
  | err l => exact fun H' f' => h H' (f.trans f')
  | ok b j mk => exact fun H' v f' => h H' v (f.trans f')
def spBody (a : Ad) (r : Nat) : Sp := fun vs H Q E => ∃ (L : RA) (rows : List Row) (n i : Nat) (mk : List Mk) (k : Nat) (res : Rs (List Stm)), vs = [.ref L.x, .int (n : Int)] ∧ n + r = 9 ∧ n ≤ 8 ∧ RdAt a H L rows i mk ∧ mk.length ≤ i ∧ rdB rows k n i mk = some res ∧ outB a L rows H Q E res
def spStm (a : Ad) (r : Nat) : Sp := fun vs H Q E => ∃ (L : RA) (rows : List Row) (n i : Nat) (mk : List Mk) (l : Addr) (k : Nat) (res : Rs Stm), vs = [.ref L.x, .ref l, .int (n : Int)] ∧ n + r = 9 ∧ n ≤ 8 ∧ RdAt a H L rows i mk ∧ H l = some (.lst ((wordsAt rows n i).map V.str)) ∧ l ≠ L.ml ∧ stops (wordsAt rows n i) = false ∧
  mk.length ≤ i ∧ rdS rows k n i mk = some res ∧ outS a L rows H Q E res
def blkX (rows : List Row) (k n i : Nat) (mk : List Mk) : Option (Rs Stm) :=
  if (wordsAt rows n i).length < 2 ∨ modeS ((wordsAt rows n i).getD 1 "") = false ∨ (wordsAt rows n i).length = 3 then some (.err i)
  else if 3 < (wordsAt rows n i).length ∧ (wordsAt rows n i).getD 2 "" ≠ "keep" then some (.err i)
  else match rdB rows k (n + 1) (i + 1) (mk ++ [(i, (wordsAt rows n i).getD 1 "")]) with
    | none => none
    | some (.err l) => some (.err l)
    | some (.ok b j mk1) => some (.ok (.mk (.blk mk.length ((wordsAt rows n i).getD 1 "") ((wordsAt rows n i).drop 3)) [b]) j mk1)
def spBlk (a : Ad) (r : Nat) : Sp := fun vs H Q E => ∃ (L : RA) (rows : List Row) (n i : Nat) (mk : List Mk) (l : Addr) (k : Nat) (res : Rs Stm), vs = [.ref L.x, .ref l, .int (n : Int)] ∧ n + 1 + r = 9 ∧ n ≤ 7 ∧ RdAt a H L rows i mk ∧ H l = some (.lst ((wordsAt rows n i).map V.str)) ∧ l ≠ L.ml ∧ wordsAt rows n i ≠ [] ∧
  mk.length ≤ i ∧ blkX rows k n i mk = some res ∧ outS a L rows H Q E res
theorem word_thingL {H : Hp} {z : Str} (h : IsWord z) : Thing H (.str z) :=
  .str z (by rw [← len_toList]; have := h.hi; omega) (fun c hc => by have := h.al c hc; omega)
theorem inV_strL {z : Str} {l : List Str} : inV (.str z) (l.map V.str) = decide (z ∈ l) := by
  unfold inV
  rw [List.any_map]
  cases h : decide (z ∈ l) with
  | true =>
    rw [List.any_eq_true]
    exact ⟨z, of_decide_eq_true h, by show eqV (.str z) (.str z) = true; simp [eqV]⟩
  | false =>
    rw [List.any_eq_false]
    intro y hy e
    have e : eqV (.str y) (.str z) = true := e
    simp [eqV] at e
    subst e
    exact of_decide_eq_false h hy
theorem modeB_S (z : Str) : modeB (.str z) = modeS z := by
  show (true && inV (.str z) modesV) = _
  rw [Bool.true_and]
  exact inV_strL (l := modesS)
theorem getD_at {ws : List Str} {j : Nat} (h : j < ws.length) : ws.getD j "" = ws[j] := by
  rw [List.getD_eq_getElem?_getD, List.getElem?_eq_getElem h]; rfl
theorem at_str {ws : List Str} {j : Nat} (h : j < ws.length) : atI (ws.map V.str) (j : Int) = some (.str (ws.getD j "")) := by
  refine atI_nat ?_
  rw [List.getElem?_map, List.getElem?_eq_getElem h, getD_at h]; rfl
theorem getD_mem {ws : List Str} {j : Nat} (h : j < ws.length) : ws.getD j "" ∈ ws := by
  rw [getD_at h]
  exact List.getElem_mem h
theorem ok_Reader_read_block (T : Txt K mg a d) (r : Nat) (G_Reader_read_body : FnOk P w K mg base (L2.CX P w) (4 * r + 4) a.Reader_read_body d.Reader_read_body ["self", "nesting"] (spBody a r)) : FnOk P w K mg base (L2.CX P w) (4 * r + 5) a.Reader_read_block d.Reader_read_block ["self", "words", "nesting"] (spBlk a r) := by
  have G_Reader_wrong_if : FnOk P w K mg base (L2.CX P w) 3 a.Reader_wrong_if d.Reader_wrong_if ["self", "is_wrong"] (spWrong a) := ok_Reader_wrong_if T
  have G_Mode_is_mode : FnOk P w K mg base CX0 1 a.Mode_is_mode d.Mode_is_mode ["thing"] spIsMode := ok_Mode_is_mode T
  refine T.Reader_read_block.okX sc_Reader_read_block (fun vs H Q E h => ?_) (fun cdv A outer s H vs Q E hr h => ?_)
  · obtain ⟨L, rows, n, i, mk, l, k, res, rfl, _⟩ := h
    rfl
  · obtain ⟨L, rows, n, i, mk, l, k, res, rfl, hn, hn7, I, hl, nl, nw, lm, hk, out⟩ := h
    obtain ⟨iw, lw⟩ := wordsAt_ok I.ln (n := n) (i := i)
    have lr := I.ln.1
    have c1 := T.k_Reader
    have n1 := T.na_Reader_at
    have n2 := T.na_Reader_marks
    have ho := I.ob
    have li := words_some nw
    obtain ⟨ms, h3, h4⟩ := I.mk_
    have lms := h4.len
    unfold blkX at hk
    generalize wordsAt rows n i = ws at hl nw iw lw hk
    refine ⟨_, (pss_cons (ps_expr (pe_meth (pv 0) T.k_Reader T.m_Reader_wrong_if G_Reader_wrong_if (hr.mono (by omega)) T.b_Reader_wrong_if .nil (passes_call (takes_of rfl rfl rfl rfl) (fun _ _ _ _ h => h)) (pa_cons (pe_or (pe_cmpR op_lt (pe_callB call_len_seq (by rfl) T.n_len PySem.boot_len (pa_cons (pv 1) pa_nil)) pe_int (nomark _)) (pe_or (pe_not (pe_smeth (pe_glob (v := .ref a.Mode) (by rfl) T.g_Mode rfl) T.r_Mode T.s_Mode_is_mode G_Mode_is_mode (hr.mono (by omega)) T.Mode_is_mode.kp T.b_Mode_is_mode .nil pass0 (pa_cons (pe_ix ix_list (pv 1) pe_int (fun _ _ => rfl)) pa_nil))) (pe_one (pe_cmpR op_eq (pe_callB call_len_seq (by rfl) T.n_len PySem.boot_len (pa_cons (pv 1) pa_nil)) pe_int (nomark _))))) pa_nil)))
  (C8.pss_cut (ps_expr (pe_meth (pv 0) T.k_Reader T.m_Reader_wrong_if G_Reader_wrong_if (hr.mono (by omega)) T.b_Reader_wrong_if .nil (passes_call (takes_of rfl rfl rfl rfl) (fun _ _ _ _ h => h)) (pa_cons (pe_and (pe_cmpR op_gt (pe_callB call_len_seq (by rfl) T.n_len PySem.boot_len (pa_cons (pv 1) pa_nil)) pe_int (nomark _)) (pe_one (pe_cmpR op_ne (pe_ix ix_list (pv 1) pe_int (fun _ _ => rfl)) pe_str (nomark _)))) pa_nil)))
  (pss_cons (ps_set (i := 3) sc_Reader_read_block.nd rfl (Or.inl rfl) (pe_callB call_len_seq (by rfl) T.n_len PySem.boot_len (pa_cons (pe_fld (pv 0) rfl) pa_nil)))
  (pss_cons (ps_expr (pe_bm PySem.F.plainAttrs_list PySem.F.slot_list_append PySem.F.type_list_append mt_append (pe_fld (pv 0) rfl) (pa_cons (pe_tup (pa_cons (pe_fld (pv 0) rfl) (pa_cons (pe_ix ix_list (pv 1) pe_int (fun _ _ => rfl)) pa_nil))) pa_nil)))
  (pss_cons (ps_fldaug (pv 0) pe_int in_add)
  (pss_one (ps_ret (pe_tup (pa_cons pe_str (pa_cons (pv 3) (pa_cons (pe_ix ix_list (pv 1) pe_int (fun _ _ => rfl)) (pa_cons (pe_callTy call_tuple_of (by rfl) T.n_tuple (by decide +kernel) (pa_cons (pe_slice sl_list (pv 1) (po_some pe_int) po_none) pa_nil)) (pa_cons (pe_meth (pv 0) T.k_Reader T.m_Reader_read_body G_Reader_read_body (hr.mono (by omega)) T.b_Reader_read_body .nil (passes_call (takes_of rfl rfl rfl rfl) (fun _ _ _ _ h => h)) (pa_cons (pe_op op_add (pv 2) pe_int) pa_nil)) pa_nil))))))))))))), ?_⟩
    try dsimp only [cxOf]
    have hw0 : List.lookup ("wrong_if" : Str) (rdF L i) = none := rfl
    have hat : List.lookup ("at" : Str) (rdF L i) = some (.int (i : Int)) := rfl
    walk_at "rd"
    rw [List.length_map]
    by_cases d1 : ws.length < 2
    · rw [if_pos (.inl d1)] at hk
      cases hk
      refine (if_pos (decide_eq_true (by omega))).mpr ?_
      refine ⟨L.x, L.dx, rdF L i, .int (i : Int), true, rfl, ho, rfl, rfl, fun _ => out H Kp.refl, fun h => by cases h⟩
    · refine (if_neg (fun e => d1 (by have := of_decide_eq_true e; omega))).mpr ?_
      have w1 := at_str (ws := ws) (j := 1) (by omega)
      have m1 := iw _ (getD_mem (ws := ws) (j := 1) (by omega))
      walk_at "rd"
      refine ⟨word_thingL m1, ?_⟩
      rw [modeB_S]
      refine ⟨_, rfl, _, rfl, ?_⟩
      cases d2 : modeS (ws.getD 1 "") with
      | false =>
        rw [if_pos (.inr (.inl d2))] at hk
        cases hk
        refine iteT ?_
        refine ⟨L.x, L.dx, rdF L i, .int (i : Int), true, rfl, ho, rfl, rfl, fun _ => out H Kp.refl, fun h => by cases h⟩
      | true =>
        refine iteF ?_
        walk_at "rd"
        rw [List.length_map]
        by_cases d3 : ws.length = 3
        · rw [if_pos (.inr (.inr d3))] at hk
          cases hk
          have e3 : decide (V.int (ws.length : Int) = V.int 3) = true := by rw [d3]; rfl
          rw [e3]
          exact ⟨fun _ => out H Kp.refl, fun h => by cases h⟩
        · rw [if_neg (by rw [d2]; simp [d1, d3])] at hk
          have e3 : decide (V.int (ws.length : Int) = V.int 3) = false := decide_eq_false (fun e => d3 (by have := V.int.inj e; omega))
          rw [e3]
          refine ⟨fun h => (by cases h), fun _ => ?_⟩
          refine ⟨fun σ' H' => H' = H ∧ ¬ (3 < ws.length ∧ ws.getD 2 "" ≠ "keep") ∧ σ' = [some (.ref L.x), some (.ref l), some (.int (n : Int)), none], ?_, ?_⟩
          · walk_at "rd"
            rw [List.length_map]
            by_cases d4 : 3 < ws.length
            · refine (if_pos (decide_eq_true (by omega))).mpr ?_
              have w2 := at_str (ws := ws) (j := 2) (by omega)
              walk_at "rd"
              by_cases d5 : ws.getD 2 "" = "keep"
              · refine ⟨fun e => ?_, fun _ => ?_⟩
                · rw [d5] at e
                  exact absurd e (by decide +kernel)
                · exact ⟨rfl, fun z => z.2 d5, rfl⟩
              · rw [if_pos ⟨d4, d5⟩] at hk
                cases hk
                refine ⟨fun e => ?_, fun e => ?_⟩
                · exact out H Kp.refl
                · rw [decide_eq_false (fun z => d5 (V.str.inj z))] at e
                  cases e
            · refine (if_neg (fun e => d4 (by have := of_decide_eq_true e; omega))).mpr ?_
              walk_at "rd"
              exact ⟨fun e => (by cases e), fun _ => ⟨rfl, fun z => d4 z.1, rfl⟩⟩
          · rintro σ' _ ⟨rfl, d4, rfl⟩
            rw [if_neg d4] at hk
            rename_i H
            have lz : (ms.map V.ref).length < sizeLine := by rw [List.length_map, sizeLine_eq]; omega
            walk_at "rd"
            rw [List.length_map, lms]
            intro t ht
            have I1 := I.same ((Same.refl H).new (o := .tup [.int (i : Int), .str (ws.getD 1 "")]) ht)
            have f1 : FrR L H (upd H t (.tup [.int (i : Int), .str (ws.getD 1 "")])) := Kp.refl.new ht
            have g3 := upd_old (o := .tup [.int (i : Int), .str (ws.getD 1 "")]) h3 ht
            have g4 := h4.imp fun _ _ r => (Same.refl H).new (o := .tup [.int (i : Int), .str (ws.getD 1 "")]) ht _ _ r
            have gl := upd_old (o := .tup [.int (i : Int), .str (ws.getD 1 "")]) hl ht
            have gt := upd_same (H := H) (a := t) (o := .tup [.int (i : Int), .str (ws.getD 1 "")])
            generalize upd H t (.tup [.int (i : Int), .str (ws.getD 1 "")]) = H1 at I1 f1 g3 g4 gl gt ⊢
            refine ⟨_, _, _, rfl, rfl, g3, lz, ?_⟩
            have I2 := I1.mark (m := (i, ws.getD 1 "")) g3 g4 gt
            have f2 := f1.set (o := .lst (ms.map V.ref ++ [.ref t])) (.inr rfl : L.ml = L.x ∨ L.ml = L.ml)
            have gl2 := upd_oth (o := .lst (ms.map V.ref ++ [.ref t])) nl gl
            generalize upd H1 L.ml (.lst (ms.map V.ref ++ [.ref t])) = H2 at I2 f2 gl2 ⊢
            have ho2 := I2.ob
            walk_at "rd"
            rw [show putF "at" (.int ((i : Int) + 1)) (rdF L i) = rdF L (i + 1) from rfl]
            have I3 := I2.move (j := i + 1) (by omega)
            have gl3 := (LK.ins (m := L.ml) (o := .ins a.Reader L.dx (rdF L (i + 1))) ho2).2 l _ nl gl2
            have f3 := f2.set (o := .ins a.Reader L.dx (rdF L (i + 1))) (.inl rfl : L.x = L.x ∨ L.x = L.ml)
            generalize upd H2 L.x (.ins a.Reader L.dx (rdF L (i + 1))) = H3 at I3 f3 gl3 ⊢
            have w1' := at_str (ws := ws) (j := 1) (by omega)
            walk_at "rd"
            intro p1 hp1
            rw [show cutV (ws.map V.str) (some 3) none = (ws.drop 3).map V.str by rw [List.map_drop]; exact cutV_from _ 3]
            have I4 := I3.same ((Same.refl H3).new (o := .lst ((ws.drop 3).map V.str)) hp1)
            have f4 := f3.new (o := .lst ((ws.drop 3).map V.str)) hp1
            have e4 := upd_same (H := H3) (a := p1) (o := .lst ((ws.drop 3).map V.str))
            generalize upd H3 p1 (.lst ((ws.drop 3).map V.str)) = H4 at I4 f4 e4 ⊢
            refine ⟨p1, _, rfl, .inl ⟨SqL.of e4, fun q hq => ?_⟩⟩
            have I5 := I4.same ((Same.refl H4).new (o := .tup ((ws.drop 3).map V.str)) hq)
            have f5 := f4.new (o := .tup ((ws.drop 3).map V.str)) hq
            have e5 := upd_same (H := H4) (a := q) (o := .tup ((ws.drop 3).map V.str))
            generalize upd H4 q (.tup ((ws.drop 3).map V.str)) = H5 at I5 f5 e5 ⊢
            have ho5 := I5.ob
            walk_at "rd"
            cases hb : rdB rows k (n + 1) (i + 1) (mk ++ [(i, ws.getD 1 "")]) with
            | none => rw [hb] at hk; cases hk
            | some rb =>
              rw [hb] at hk
              refine ⟨L, rows, n + 1, i + 1, _, k, rb, rfl, by omega, by omega, I5, by rw [List.length_append]; simp only [List.length_cons, List.length_nil]; omega, hb, ?_⟩
              cases rb with
              | err l =>
                cases hk
                exact fun H' f' => out H' (f5.trans f')
              | ok b j mk1 =>
                cases hk
                intro H' pb vs f' I' hp' hB
                walk_at "rd"
                intro y hy
                have e5' : H' q = some (.tup ((ws.drop 3).map V.str)) := f' _ _ e5 (by
                  rintro (z | z)
                  · rw [z, I5.ob] at e5; cases e5
                  · obtain ⟨ms5, g5, _⟩ := I5.mk_
                    rw [z, g5] at e5; cases e5)
                refine out _ (.ref y) ((f5.trans f').new hy) (I'.same ((Same.refl H').new hy)) ?_
                have tk : TupK H' (upd H' y (.tup [.str "block", .int (mk.length : Int), .str (ws.getD 1 ""), .ref q, .ref pb])) := TupK.of_same ((Same.refl H').new hy)
                exact ⟨y, _, [pb], rfl, upd_same, ⟨q, pb, rfl, rfl, tk _ _ e5'⟩, ⟨pb, [], vs, rfl, tk _ _ hp', hB.tup tk, rfl⟩⟩
/-! ### Reader: read_statement -/
def spTry (a : Ad) (r : Nat) : Sp := fun vs H Q E => ∃ (L : RA) (rows : List Row) (n i : Nat) (mk : List Mk) (k : Nat) (res : Rs Stm), vs = [.ref L.x, .int (n : Int)] ∧ n + 1 + r = 9 ∧ n ≤ 7 ∧ RdAt a H L rows i mk ∧ mk.length ≤ i ∧ rdT rows k n i mk = some res ∧ outS a L rows H Q E res
theorem stops_ne {ws : List Str} (h : stops ws = false) : ws ≠ [] := fun e => by rw [e] at h; cases h
theorem fn_noneX {P : Program} {w : World} {K : PySem.W.Frag} {mg : Str → Option Value} {base : Heap} {f : Addr} {fd : FuncData} {ps : List Str} {sp : Sp} {k : Nat} {CX : CXT} (h : ∀ vs H Q E, ¬ sp vs H Q E) : FnOk P w K mg base CX k f fd ps sp :=
  ⟨fun vs H Q E z => (h vs H Q E z).elim, fun A outer s H args us vs Q E hr e0 b r z => (h vs H Q E z).elim⟩
structure Sit (a : Ad) (L : RA) (rows : List Row) (i : Nat) (mk : List Mk) (H0 H : Hp) (l : Addr) (ws : List Str) : Prop where
  I : RdAt a H L rows i mk
  f : FrR L H0 H
  gl : H l = some (.lst (ws.map V.str))
  nl : l ≠ L.ml
theorem Sit.new {a : Ad} {L : RA} {rows : List Row} {i : Nat} {mk : List Mk} {H0 H : Hp} {l p : Addr} {ws : List Str} {o : HO} (S : Sit a L rows i mk H0 H l ws) (h : H p = none) : Sit a L rows i mk H0 (upd H p o) l ws :=
  ⟨S.I.same ((Same.refl H).new h), S.f.new h, upd_old S.gl h, S.nl⟩
theorem Sit.move {a : Ad} {L : RA} {rows : List Row} {i : Nat} {mk : List Mk} {H0 H : Hp} {l : Addr} {ws : List Str} (S : Sit a L rows i mk H0 H l ws) (h : i < rows.length) : Sit a L rows (i + 1) mk H0 (upd H L.x (.ins a.Reader L.dx (rdF L (i + 1)))) l ws :=
  ⟨S.I.move h, S.f.set (.inl rfl), (LK.ins (m := L.ml) S.I.ob).2 l _ S.nl S.gl, S.nl⟩
theorem len_ne (ws : List Str) (k : Nat) : (!decide (V.int ((ws.map V.str).length : Int) = V.int (k : Int))) = !decide (ws.length = k) := by
  rw [List.length_map]
  congr 1
  exact decide_eq_decide.mpr ⟨fun e => by have := V.int.inj e; omega, fun e => by rw [e]⟩
/-- what wrong_if is asked: the branch is the plain function's -/
theorem wrong_at {a : Ad} {L : RA} {rows : List Row} {i : Nat} {mk : List Mk} {H0 H : Hp} {l : Addr} {ws : List Str} {Q : VK} {E : XK} {res : Rs Stm} (S : Sit a L rows i mk H0 H l ws) {b : Bool} {g : Prop} (out : outS a L rows H0 Q E res)
    (h1 : b = true → res = .err i) (h2 : b = false → g) : (b = true → errQ a.BadLibrary ef_BadLibrary [.int (i : Int)] H E) ∧ (b = false → g) :=
  ⟨fun e => by
    have e := h1 e
    subst e
    exact out H S.f, h2⟩
theorem ok_Reader_read_statement (T : Txt K mg a d) (r : Nat) (G_Reader_read_body : FnOk P w K mg base (L2.CX P w) (4 * r + 4) a.Reader_read_body d.Reader_read_body ["self", "nesting"] (spBody a r)) (G_Reader_read_block : FnOk P w K mg base (L2.CX P w) (4 * r + 5) a.Reader_read_block d.Reader_read_block ["self", "words", "nesting"] (spBlk a r)) (G_Reader_read_try : FnOk P w K mg base (L2.CX P w) (4 * r + 5) a.Reader_read_try d.Reader_read_try ["self", "nesting"] (spTry a r)) :
    FnOk P w K mg base (L2.CX P w) (4 * r + 6) a.Reader_read_statement d.Reader_read_statement ["self", "words", "nesting"] (spStm a (r + 1)) := by
  have G_Reader_wrong_if : FnOk P w K mg base (L2.CX P w) 3 a.Reader_wrong_if d.Reader_wrong_if ["self", "is_wrong"] (spWrong a) := ok_Reader_wrong_if T
  obtain ⟨u0, v_DEEPEST, r_DEEPEST⟩ := T.v_DEEPEST
  refine T.Reader_read_statement.okX sc_Reader_read_statement (fun vs H Q E h => ?_) (fun cdv A outer s H vs Q E hr h => ?_)
  · obtain ⟨L, rows, n, i, mk, l, k, res, rfl, _⟩ := h
    rfl
  · obtain ⟨L, rows, n, i, mk, l, k, res, rfl, hn, hn8, I, hl, nl, hst, lm, hk, out⟩ := h
    have c1 := T.k_Reader
    have n1 := T.na_Reader_at
    have ho := I.ob
    have nw := stops_ne hst
    have li := words_some nw
    obtain ⟨iw, lw⟩ := wordsAt_ok I.ln (n := n) (i := i)
    have lr := I.ln.1
    cases k with
    | zero => rw [rdS] at hk; cases hk
    | succ k =>
    rw [rdS] at hk
    have hl' := hl
    have hbx : fstW (wordsAt rows n i) = "block" → n ≠ 8 → blkX rows k n i mk = some res := fun e1 e2 => by
      rw [e1, if_neg (by decide +kernel), if_neg (by decide +kernel), if_neg (by rintro (z | z); exact z (by decide +kernel); exact e2 z), if_pos rfl] at hk
      exact hk
    generalize hws : wordsAt rows n i = ws at hl nw iw lw hk hbx
    have lpos : 0 < ws.length := List.length_pos_iff.mpr nw
    have w0 := at_str (ws := ws) (j := 0) lpos
    have hf : ws.getD 0 "" = fstW ws := rfl
    rw [hf] at w0
    generalize fstW ws = f at w0 hk hbx
    refine ⟨_, (pss_cons (ps_set (i := 3) sc_Reader_read_statement.nd rfl (Or.inl rfl) (pe_ix ix_list (pv 1) pe_int (fun _ _ => rfl)))
  (pss_cons (ps_if (pt_cmpR op_in_seq (pv 3) (pe_tup (pa_cons pe_str (pa_cons pe_str pa_nil))) (by rfl)) (pss_cons (ps_expr (pe_meth (pv 0) T.k_Reader T.m_Reader_wrong_if G_Reader_wrong_if (hr.mono (by omega)) T.b_Reader_wrong_if .nil (passes_call (takes_of rfl rfl rfl rfl) (fun _ _ _ _ h => h)) (pa_cons (pe_cmpR op_ne (pe_callB call_len_seq (by rfl) T.n_len PySem.boot_len (pa_cons (pv 1) pa_nil)) pe_int (nomark _)) pa_nil)))
  (pss_cons (ps_fldaug (pv 0) pe_int in_add)
  (pss_one (ps_ret (pe_tup (pa_cons (pv 3) pa_nil)))))) pss_nil)
  (pss_cons (ps_if (pt_cmpR op_in_seq (pv 3) (pe_tup (pa_cons pe_str (pa_cons pe_str (pa_cons pe_str pa_nil)))) (by rfl)) (pss_cons (ps_expr (pe_meth (pv 0) T.k_Reader T.m_Reader_wrong_if G_Reader_wrong_if (hr.mono (by omega)) T.b_Reader_wrong_if .nil (passes_call (takes_of rfl rfl rfl rfl) (fun _ _ _ _ h => h)) (pa_cons (pe_cmpR op_ne (pe_callB call_len_seq (by rfl) T.n_len PySem.boot_len (pa_cons (pv 1) pa_nil)) pe_int (nomark _)) pa_nil)))
  (pss_cons (ps_fldaug (pv 0) pe_int in_add)
  (pss_one (ps_ret (pe_tup (pa_cons (pv 3) (pa_cons (pe_ix ix_list (pv 1) pe_int (fun _ _ => rfl)) pa_nil))))))) pss_nil)
  (C8.pss_cut (ps_expr (pe_meth (pv 0) T.k_Reader T.m_Reader_wrong_if G_Reader_wrong_if (hr.mono (by omega)) T.b_Reader_wrong_if .nil (passes_call (takes_of rfl rfl rfl rfl) (fun _ _ _ _ h => h)) (pa_cons (pe_or (pe_cmpR op_notIn_seq (pv 3) (pe_tup (pa_cons pe_str (pa_cons pe_str (pa_cons pe_str (pa_cons pe_str pa_nil))))) (by rfl)) (pe_one (pe_cmpR op_eq (pv 2) (pe_glob (v := .int 8) (by rfl) v_DEEPEST r_DEEPEST) (nomark _)))) pa_nil)))
  (pss_cons (ps_if (pt_cmpR op_eq (pv 3) pe_str (nomark _)) (pss_one (ps_ret (pe_meth (pv 0) T.k_Reader T.m_Reader_read_block G_Reader_read_block (hr.mono (by omega)) T.b_Reader_read_block .nil (passes_call (takes_of rfl rfl rfl rfl) (fun _ _ _ _ h => h)) (pa_cons (pv 1) (pa_cons (pv 2) pa_nil))))) pss_nil)
  (pss_cons (ps_expr (pe_meth (pv 0) T.k_Reader T.m_Reader_wrong_if G_Reader_wrong_if (hr.mono (by omega)) T.b_Reader_wrong_if .nil (passes_call (takes_of rfl rfl rfl rfl) (fun _ _ _ _ h => h)) (pa_cons (pe_cmpR op_ne (pe_callB call_len_seq (by rfl) T.n_len PySem.boot_len (pa_cons (pv 1) pa_nil)) pe_int (nomark _)) pa_nil)))
  (pss_cons (ps_fldaug (pv 0) pe_int in_add)
  (pss_cons (ps_if (pt_cmpR op_eq (pv 3) pe_str (nomark _)) (pss_one (ps_ret (pe_meth (pv 0) T.k_Reader T.m_Reader_read_try G_Reader_read_try (hr.mono (by omega)) T.b_Reader_read_try .nil (passes_call (takes_of rfl rfl rfl rfl) (fun _ _ _ _ h => h)) (pa_cons (pv 2) pa_nil)))) pss_nil)
  (pss_one (ps_ret (pe_tup (pa_cons (pv 3) (pa_cons (pe_meth (pv 0) T.k_Reader T.m_Reader_read_body G_Reader_read_body (hr.mono (by omega)) T.b_Reader_read_body .nil (passes_call (takes_of rfl rfl rfl rfl) (fun _ _ _ _ h => h)) (pa_cons (pe_op op_add (pv 2) pe_int) pa_nil)) pa_nil))))))))))))), ?_⟩
    try dsimp only [cxOf]
    have hw0 : List.lookup ("wrong_if" : Str) (rdF L i) = none := rfl
    have hat : List.lookup ("at" : Str) (rdF L i) = some (.int (i : Int)) := rfl
    have S0 : Sit a L rows i mk H H l ws := ⟨I, Kp.refl, hl, nl⟩
    walk_at "rd"
    intro p hp
    have S1 := S0.new (o := .tup [.str "pass", .str "doom"]) hp
    have e1 := upd_same (H := H) (a := p) (o := .tup [.str "pass", .str "doom"])
    generalize upd H p (.tup [.str "pass", .str "doom"]) = H1 at S1 e1 ⊢
    refine ⟨p, _, rfl, .inr (SqT.of e1), rfl, rfl, _, rfl, ?_⟩
    rw [show (if false = true then !inV (V.str f) [.str "pass", .str "doom"] else inV (V.str f) [.str "pass", .str "doom"]) = decide (f ∈ (["pass", "doom"] : List Str)) from inV_strL (l := ["pass", "doom"])]
    have ho1 := S1.I.ob
    have hl1 := S1.gl
    by_cases d1 : f ∈ (["pass", "doom"] : List Str)
    · rw [if_pos d1] at hk
      refine (if_pos (decide_eq_true d1)).mpr ?_
      walk_at "rd"
      rw [show (!decide (V.int ((ws.map V.str).length : Int) = V.int 1)) = !decide (ws.length = 1) from len_ne ws 1]
      refine wrong_at S1 out (fun e => ?_) (fun e => ?_)
      · rw [if_neg (by simpa using e)] at hk
        cases hk; rfl
      · have e2 : ws.length = 1 := by simpa using e
        rw [if_pos e2] at hk
        cases hk
        walk_at "rd"
        rw [show putF "at" (.int ((i : Int) + 1)) (rdF L i) = rdF L (i + 1) from rfl]
        have S2 := S1.move li
        generalize upd H1 L.x (.ins a.Reader L.dx (rdF L (i + 1))) = H2 at S2 ⊢
        intro y hy
        refine out _ _ (S2.f.new hy) (S2.I.same ((Same.refl H2).new hy)) ⟨y, _, [], rfl, upd_same, ⟨rfl, rfl⟩, rfl⟩
    · rw [if_neg d1] at hk
      refine (if_neg (fun e => d1 (of_decide_eq_true e))).mpr ?_
      walk_at "rd"
      intro p2 hp2
      have S2 := S1.new (o := .tup [.str "write", .str "raise", .str "call"]) hp2
      have e2 := upd_same (H := H1) (a := p2) (o := .tup [.str "write", .str "raise", .str "call"])
      generalize upd H1 p2 (.tup [.str "write", .str "raise", .str "call"]) = H2 at S2 e2 ⊢
      refine ⟨p2, _, rfl, .inr (SqT.of e2), rfl, rfl, _, rfl, ?_⟩
      rw [show (if false = true then !inV (V.str f) [.str "write", .str "raise", .str "call"] else inV (V.str f) [.str "write", .str "raise", .str "call"]) = decide (f ∈ (["write", "raise", "call"] : List Str)) from inV_strL (l := ["write", "raise", "call"])]
      have ho2 := S2.I.ob
      have hl2 := S2.gl
      by_cases d2 : f ∈ (["write", "raise", "call"] : List Str)
      · rw [if_pos d2] at hk
        refine (if_pos (decide_eq_true d2)).mpr ?_
        walk_at "rd"
        rw [show (!decide (V.int ((ws.map V.str).length : Int) = V.int 2)) = !decide (ws.length = 2) from len_ne ws 2]
        refine wrong_at S2 out (fun e => ?_) (fun e => ?_)
        · rw [if_neg (by simpa using e)] at hk
          cases hk; rfl
        · have e3 : ws.length = 2 := by simpa using e
          rw [if_pos e3] at hk
          cases hk
          have w1 := at_str (ws := ws) (j := 1) (by omega)
          walk_at "rd"
          rw [show putF "at" (.int ((i : Int) + 1)) (rdF L i) = rdF L (i + 1) from rfl]
          have S3 := S2.move li
          generalize upd H2 L.x (.ins a.Reader L.dx (rdF L (i + 1))) = H3 at S3 ⊢
          have hl3 := S3.gl
          walk_at "rd"
          intro y hy
          exact out _ _ (S3.f.new hy) (S3.I.same ((Same.refl H3).new hy)) ⟨y, _, [], rfl, upd_same, ⟨rfl, rfl⟩, rfl⟩
      · rw [if_neg d2] at hk
        refine (if_neg (fun e => d2 (of_decide_eq_true e))).mpr ?_
        refine ⟨fun σ' H' => Sit a L rows i mk H H' l ws ∧ f ∈ (["block", "maybe", "repeat", "try"] : List Str) ∧ n ≠ 8 ∧ σ' = [some (.ref L.x), some (.ref l), some (.int (n : Int)), some (.str f)], ?_, ?_⟩
        · walk_at "rd"
          intro p3 hp3
          have S3 := S2.new (o := .tup [.str "block", .str "maybe", .str "repeat", .str "try"]) hp3
          have e3 := upd_same (H := H2) (a := p3) (o := .tup [.str "block", .str "maybe", .str "repeat", .str "try"])
          generalize upd H2 p3 (.tup [.str "block", .str "maybe", .str "repeat", .str "try"]) = H3 at S3 e3 ⊢
          refine ⟨p3, _, rfl, .inr (SqT.of e3), rfl, rfl, _, rfl, ?_⟩
          rw [show (if true = true then !inV (V.str f) [.str "block", .str "maybe", .str "repeat", .str "try"] else inV (V.str f) [.str "block", .str "maybe", .str "repeat", .str "try"]) = !decide (f ∈ (["block", "maybe", "repeat", "try"] : List Str)) from (if_pos rfl).trans (congrArg (fun b => !b) (inV_strL (l := ["block", "maybe", "repeat", "try"])))]
          have ho3 := S3.I.ob
          have hl3 := S3.gl
          by_cases d3 : f ∈ (["block", "maybe", "repeat", "try"] : List Str)
          · rw [decide_eq_true d3]
            refine iteF ?_
            walk_at "rd"
            refine wrong_at S3 out (fun e => ?_) (fun e => ?_)
            · have e := V.int.inj (of_decide_eq_true e)
              rw [if_pos (.inr (by omega))] at hk
              cases hk; rfl
            · exact ⟨S3, d3, fun z => of_decide_eq_false e (by rw [z]; rfl), rfl⟩
          · rw [decide_eq_false d3]
            refine iteT ?_
            walk_at "rd"
            rw [if_pos (.inl d3)] at hk
            cases hk
            exact ⟨fun _ => out H3 S3.f, fun e => by cases e⟩
        · rintro σ' H3 ⟨S3, d3, d8, rfl⟩
          rw [if_neg (by rintro (z | z); exact z d3; exact d8 z)] at hk
          have ho3 := S3.I.ob
          have hl3 := S3.gl
          walk_at "rd"
          refine ite2 (fun c4 => ?_) (fun c4 => ?_)
          · have d4 : f = "block" := V.str.inj (of_decide_eq_true c4)
            have hbx := hbx d4 d8
            walk_at "rd"
            exact ⟨L, rows, n, i, mk, l, k, res, rfl, by omega, by omega, S3.I, by rw [hws]; exact S3.gl, S3.nl, by rw [hws]; exact nw, lm, hbx, out.fr S3.f⟩
          · have d4 : ¬ f = "block" := fun e => c4 (decide_eq_true (by rw [e]))
            rw [if_neg d4] at hk
            walk_at "rd"
            rw [show (!decide (V.int ((ws.map V.str).length : Int) = V.int 1)) = !decide (ws.length = 1) from len_ne ws 1]
            refine wrong_at S3 out (fun e => ?_) (fun e => ?_)
            · rw [if_pos (by simpa using e)] at hk
              cases hk; rfl
            · have e5 : ws.length = 1 := by simpa using e
              rw [if_neg (by simpa using e5)] at hk
              walk_at "rd"
              rw [show putF "at" (.int ((i : Int) + 1)) (rdF L i) = rdF L (i + 1) from rfl]
              have S4 := S3.move li
              generalize upd H3 L.x (.ins a.Reader L.dx (rdF L (i + 1))) = H4 at S4 ⊢
              have ho4 := S4.I.ob
              walk_at "rd"
              refine ite2 (fun c6 => ?_) (fun c6 => ?_)
              · have d6 : f = "try" := V.str.inj (of_decide_eq_true c6)
                rw [if_pos d6] at hk
                walk_at "rd"
                exact ⟨L, rows, n, i + 1, mk, k, res, rfl, by omega, by omega, S4.I, by omega, hk, out.fr S4.f⟩
              · have d6 : ¬ f = "try" := fun e => c6 (decide_eq_true (by rw [e]))
                rw [if_neg d6] at hk
                walk_at "rd"
                cases hb : rdB rows k (n + 1) (i + 1) mk with
                | none => rw [hb] at hk; cases hk
                | some rb =>
                  rw [hb] at hk
                  refine ⟨L, rows, n + 1, i + 1, _, k, rb, rfl, by omega, by omega, S4.I, by omega, hb, ?_⟩
                  cases rb with
                  | err l =>
                    cases hk
                    exact fun H' f' => out H' (S4.f.trans f')
                  | ok b j mk1 =>
                    cases hk
                    intro H' pb vs f' I' hp' hB
                    walk_at "rd"
                    intro y hy
                    have tk : TupK H' (upd H' y (.tup [.str f, .ref pb])) := TupK.of_same ((Same.refl H').new hy)
                    refine out _ (.ref y) ((S4.f.trans f').new hy) (I'.same ((Same.refl H').new hy)) ?_
                    exact ⟨y, _, [pb], rfl, upd_same, ⟨pb, rfl, rfl⟩, ⟨pb, [], vs, rfl, tk _ _ hp', hB.tup tk, rfl⟩⟩
/-! ### the reader goes on -/
theorem rd_le (rows : List Row) : ∀ k,
    (∀ n i mk b j mk1, rdB rows k n i mk = some (.ok b j mk1) → i ≤ j ∧ mk1.length + i ≤ mk.length + j) ∧
    (∀ n i mk acc b j mk1, rdL rows k n i mk acc = some (.ok b j mk1) → i ≤ j ∧ mk1.length + i ≤ mk.length + j) ∧
    (∀ n i mk s j mk1, rdS rows k n i mk = some (.ok s j mk1) → i < j ∧ mk1.length + i ≤ mk.length + j) ∧
    (∀ n i mk s j mk1, rdT rows k n i mk = some (.ok s j mk1) → i ≤ j ∧ mk1.length + i ≤ mk.length + j) ∧
    (∀ n i mk b hw hb op s j mk1, rdH rows k n i mk b hw hb op = some (.ok s j mk1) → i ≤ j ∧ mk1.length + i ≤ mk.length + j)
  | 0 => by
    refine ⟨?_, ?_, ?_, ?_, ?_⟩
    · intro n i mk b j mk1 h; rw [rdB] at h; cases h
    · intro n i mk acc b j mk1 h; rw [rdL] at h; cases h
    · intro n i mk s j mk1 h; rw [rdS] at h; cases h
    · intro n i mk s j mk1 h; rw [rdT] at h; cases h
    · intro n i mk b hw hb op s j mk1 h; rw [rdH] at h; cases h
  | k + 1 => by
    obtain ⟨hB, hL, hS, hT, hH⟩ := rd_le rows k
    refine ⟨?_, ?_, ?_, ?_, ?_⟩
    · intro n i mk b j mk1 h
      rw [rdB] at h
      exact hL n i mk [] b j mk1 h
    · intro n i mk acc b j mk1 h
      rw [rdL] at h
      split at h
      · split at h
        · cases h
        · cases h; exact ⟨Nat.le_refl _, Nat.le_refl _⟩
      · split at h
        · cases h
        · cases h
        · rename_i s j1 mk2 e
          have h1 := hS _ _ _ _ _ _ e
          have h2 := hL _ _ _ _ _ _ _ h
          omega
    · intro n i mk s j mk1 h
      rw [rdS] at h
      split at h
      · split at h
        · cases h; exact ⟨by omega, by omega⟩
        · cases h
      · split at h
        · split at h
          · cases h; exact ⟨by omega, by omega⟩
          · cases h
        · split at h
          · cases h
          · split at h
            · split at h
              · cases h
              · split at h
                · cases h
                · split at h
                  · cases h
                  · cases h
                  · rename_i b j1 mk2 e
                    have h1 := hB _ _ _ _ _ _ e
                    rw [List.length_append] at h1
                    simp only [List.length_cons, List.length_nil] at h1
                    cases h
                    omega
            · split at h
              · cases h
              · split at h
                · have := hT _ _ _ _ _ _ h
                  omega
                · split at h
                  · cases h
                  · cases h
                  · rename_i b j1 mk2 e
                    have h1 := hB _ _ _ _ _ _ e
                    cases h
                    omega
    · intro n i mk s j mk1 h
      rw [rdT] at h
      split at h
      · cases h
      · cases h
      · rename_i b j1 mk2 e
        have h1 := hB _ _ _ _ _ _ e
        have h2 := hH _ _ _ _ _ _ _ _ _ _ h
        omega
    · intro n i mk b hw hb op s j mk1 h
      rw [rdH] at h
      split at h
      · split at h
        · cases h
        · cases h
        · rename_i c j1 mk2 e
          have h1 := hB _ _ _ _ _ _ e
          have h2 := hH _ _ _ _ _ _ _ _ _ _ h
          omega
      · split at h
        · split at h
          · cases h
          · cases h
          · rename_i c j1 mk2 e
            have h1 := hB _ _ _ _ _ _ e
            cases h
            omega
        · split at h
          · cases h
          · cases h; exact ⟨Nat.le_refl _, Nat.le_refl _⟩
/-! ### Reader: read_body -/
structure BodI (a : Ad) (L : RA) (rows : List Row) (n : Nat) (res : Rs (List Stm)) (H0 : Hp) (m : Nat) (σ : L2.St) (H : Hp) (q l : Addr) (vs : List V) (acc : List Stm) (i : Nat) (mk : List Mk) : Prop where
  f : FrR L H0 H
  I : RdAt a H L rows i mk
  lm : mk.length ≤ i
  q_ : H q = some (.lst vs)
  b_ : BAt H acc vs
  nq : q ≠ L.ml
  fq : H0 q = none
  l_ : H l = some (.lst ((wordsAt rows n i).map V.str))
  nl : l ≠ L.ml
  al : acc.length ≤ i
  hk : rdL rows m n i mk acc = some res
  hs : σ = [some (.ref L.x), some (.int (n : Int)), some (.ref q), some (.ref l)]
theorem BodI.new {a : Ad} {L : RA} {rows : List Row} {n m i : Nat} {res : Rs (List Stm)} {H0 H : Hp} {σ : L2.St} {q l p : Addr} {vs : List V} {acc : List Stm} {mk : List Mk} {o : HO} (B : BodI a L rows n res H0 m σ H q l vs acc i mk) (h : H p = none) : BodI a L rows n res H0 m σ (upd H p o) q l vs acc i mk :=
  ⟨B.f.new h, B.I.same ((Same.refl H).new h), B.lm, upd_old B.q_ h, B.b_.tup (TupK.of_same ((Same.refl H).new h)), B.nq, B.fq, upd_old B.l_ h, B.nl, B.al, B.hk, B.hs⟩
/-- a list of one's own is changed -/
theorem RdAt.own {a : Ad} {H0 H : Hp} {L : RA} {rows : List Row} {i0 i : Nat} {mk0 mk : List Mk} {q : Addr} {vs xs : List V} (I0 : RdAt a H0 L rows i0 mk0) (I : RdAt a H L rows i mk) (f : FrR L H0 H) (fq : H0 q = none) (hq : H q = some (.lst vs)) : RdAt a (upd H q (.lst xs)) L rows i mk := by
  have nx : L.x ≠ q := ne_of_none I0.ob fq
  obtain ⟨ms0, h3, _⟩ := I0.mk_
  have nm : L.ml ≠ q := ne_of_none h3 fq
  obtain ⟨us, h1, h2⟩ := I0.rw_
  have nrx : L.rl ≠ L.x := fun z => by rw [z, I0.ob] at h1; cases h1
  have kt : ∀ b l, H0 b = some (.tup l) → upd H q (.lst xs) b = some (.tup l) := fun b l e => upd_oth (ne_of_none e fq) (f b _ e (by
    rintro (z | z)
    · rw [z, I0.ob] at e; cases e
    · rw [z, h3] at e; cases e))
  have kl : ∀ b l, b ≠ L.ml → H0 b = some (.lst l) → upd H q (.lst xs) b = some (.lst l) := fun b l n e => upd_oth (ne_of_none e fq) (f b _ e (by
    rintro (z | z)
    · rw [z, I0.ob] at e; cases e
    · exact n z))
  obtain ⟨ms, h4, h5⟩ := I.mk_
  exact ⟨upd_oth nx I.ob, ⟨us, kl _ _ I0.ne h1, h2.imp fun _ _ r => r.lk ⟨kt, kl⟩⟩, ⟨ms, upd_oth nm h4, h5.imp fun _ _ r => upd_oth (fun z => by
    rw [z] at r
    rw [show H q = _ from r] at hq
    cases hq) r⟩, I.ne, I.le, I.ln⟩
theorem ok_Reader_read_body (T : Txt K mg a d) (r : Nat) (G_Reader_read_statement : FnOk P w K mg base (L2.CX P w) (4 * r + 2) a.Reader_read_statement d.Reader_read_statement ["self", "words", "nesting"] (spStm a r)) : FnOk P w K mg base (L2.CX P w) (4 * r + 4) a.Reader_read_body d.Reader_read_body ["self", "nesting"] (spBody a r) := by
  have G_Reader_wrong_if : FnOk P w K mg base (L2.CX P w) 3 a.Reader_wrong_if d.Reader_wrong_if ["self", "is_wrong"] (spWrong a) := ok_Reader_wrong_if T
  have G_Reader_words_at : FnOk P w K mg base CX0 1 a.Reader_words_at d.Reader_words_at ["self", "nesting"] (spWat a) := ok_Reader_words_at T
  refine T.Reader_read_body.okX sc_Reader_read_body (fun vs H Q E h => ?_) (fun cdv A outer s H vs Q E hr h => ?_)
  · obtain ⟨L, rows, n, i, mk, k, res, rfl, _⟩ := h
    rfl
  · obtain ⟨L, rows, n, i, mk, k, res, rfl, hn, hn8, I, lm, hk, out⟩ := h
    have c1 := T.k_Reader
    have n1 := T.na_Reader_at
    cases k with
    | zero => rw [rdB] at hk; cases hk
    | succ k =>
    rw [rdB] at hk
    have ho := I.ob
    refine ⟨_, (pss_cons (ps_set (i := 2) sc_Reader_read_body.nd rfl (Or.inl rfl) (pe_lst pa_nil))
  (pss_cons (ps_set (i := 3) sc_Reader_read_body.nd rfl (Or.inl rfl) (pe_meth (pv 0) T.k_Reader T.m_Reader_words_at G_Reader_words_at (hr.mono (by omega)) T.b_Reader_words_at .nil pass0 (pa_cons (pv 1) pa_nil)))
  (C8.pss_cut (ps_while (passes_of rfl) (PW.pt (pw_and (pt_cmpR (op_neNil (hu_of hr)) (pv 3) (pe_lst pa_nil) (nomark _)) (pw_and1 (pt_cmpR op_notIn_seq (pe_ix ix_list (pv 3) pe_int (fun _ _ => rfl)) (pe_tup (pa_cons pe_str (pa_cons pe_str pa_nil))) (by rfl)))))
  (pss_cons (ps_expr (pe_bm PySem.F.plainAttrs_list PySem.F.slot_list_append PySem.F.type_list_append mt_append (pv 2) (pa_cons (pe_meth (pv 0) T.k_Reader T.m_Reader_read_statement G_Reader_read_statement (hr.mono (by omega)) T.b_Reader_read_statement .nil (passes_call (takes_of rfl rfl rfl rfl) (fun _ _ _ _ h => h)) (pa_cons (pv 3) (pa_cons (pv 1) pa_nil))) pa_nil)))
  (pss_one (ps_set (i := 3) sc_Reader_read_body.nd rfl (Or.inl rfl) (pe_meth (pv 0) T.k_Reader T.m_Reader_words_at G_Reader_words_at (hr.mono (by omega)) T.b_Reader_words_at .nil pass0 (pa_cons (pv 1) pa_nil))))))
  (pss_cons (ps_expr (pe_meth (pv 0) T.k_Reader T.m_Reader_wrong_if G_Reader_wrong_if (hr.mono (by omega)) T.b_Reader_wrong_if .nil (passes_call (takes_of rfl rfl rfl rfl) (fun _ _ _ _ h => h)) (pa_cons (pe_cmpR (op_eqNil (hu_of hr)) (pv 2) (pe_lst pa_nil) (nomark _)) pa_nil)))
  (pss_one (ps_ret (pe_callTy call_tuple_of (by rfl) T.n_tuple (by decide +kernel) (pa_cons (pv 2) pa_nil)))))))), ?_⟩
    try dsimp only [cxOf]
    have hwa : ∀ i, List.lookup ("words_at" : Str) (rdF L i) = none := fun _ => rfl
    have hwr : ∀ i, List.lookup ("wrong_if" : Str) (rdF L i) = none := fun _ => rfl
    have hws : ∀ i, List.lookup ("read_statement" : Str) (rdF L i) = none := fun _ => rfl
    have hat : ∀ i : Nat, List.lookup ("at" : Str) (rdF L i) = some (.int (i : Int)) := fun _ => rfl
    have g0 := hwa i
    walk_at "rd"
    intro q hq
    obtain ⟨ms, h3, _⟩ := I.mk_
    have nq : q ≠ L.ml := Ne.symm (ne_of_none h3 hq)
    have f1 : FrR L H (upd H q (.lst [])) := Kp.refl.new hq
    have I1 := I.same ((Same.refl H).new (o := .lst []) hq)
    have q1 := upd_same (H := H) (a := q) (o := .lst [])
    generalize upd H q (.lst []) = H1 at f1 I1 q1 ⊢
    have ho1 := I1.ob
    walk_at "rd"
    refine ⟨L, rows, n, i, mk, rfl, I1, fun H2 l s2 hl nl => ?_⟩
    refine ⟨fun σ' H' => ∃ (_ : Unit) (m : Nat) (q l : Addr) (vs : List V) (acc : List Stm) (i : Nat) (mk : List Mk), BodI a L rows n res H m σ' H' q l vs acc i mk ∧ stops (wordsAt rows n i) = true, ?_, ?_⟩
    · refine ⟨fun m σ' H' => ∃ (_ : Unit) (q l : Addr) (vs : List V) (acc : List Stm) (i : Nat) (mk : List Mk), BodI a L rows n res H m σ' H' q l vs acc i mk, ⟨k, (), q, l, [], [], i, mk, f1.trans (Kp.of_same s2), I1.same s2, lm, s2 _ _ q1, rfl, nq, hq, hl, nl, Nat.zero_le _, hk, rfl⟩, ?_⟩
      rintro m σ' H' ⟨_, q, l, vs, acc, i, mk, B⟩
      have es := B.hs
      subst es
      walk_at "rd"
      intro p hp
      have B1 := B.new (o := .lst []) hp
      have e1 := upd_same (H := H') (a := p) (o := .lst [])
      generalize upd H' p (.lst []) = H3 at B1 e1 ⊢
      refine ⟨l, p, _, rfl, rfl, SqL.of B1.l_, SqL.of e1, _, rfl, ?_⟩
      have hl3 := B1.l_
      obtain ⟨iw, lw⟩ := wordsAt_ok B1.I.ln (n := n) (i := i)
      cases hw : wordsAt rows n i with
      | nil =>
        refine iteF ?_
        exact ⟨(), m, q, l, vs, acc, i, mk, B1, by rw [hw]; rfl⟩
      | cons w0 rest =>
        rw [hw] at hl3 iw
        refine iteT ?_
        have a0 := at_str (ws := w0 :: rest) (j := 0) (Nat.zero_lt_succ _)
        rw [show (w0 :: rest).getD 0 "" = w0 from rfl] at a0
        walk_at "rd"
        intro p2 hp2
        have B2 := B1.new (o := .tup [.str "except", .str "finally"]) hp2
        have e2 := upd_same (H := H3) (a := p2) (o := .tup [.str "except", .str "finally"])
        generalize upd H3 p2 (.tup [.str "except", .str "finally"]) = H4 at B2 e2 ⊢
        refine ⟨p2, _, rfl, .inr (SqT.of e2), rfl, rfl, _, rfl, ?_⟩
        rw [show (if true = true then !inV (V.str w0) [.str "except", .str "finally"] else inV (V.str w0) [.str "except", .str "finally"]) = !decide (w0 ∈ (["except", "finally"] : List Str)) from (if_pos rfl).trans (congrArg (fun b => !b) (inV_strL (l := ["except", "finally"])))]
        by_cases d1 : w0 ∈ (["except", "finally"] : List Str)
        · rw [decide_eq_true d1]
          refine iteF ?_
          exact ⟨(), m, q, l, vs, acc, i, mk, B2, by rw [hw]; exact decide_eq_true d1⟩
        · rw [decide_eq_false d1]
          refine iteT ?_
          have hst : stops (wordsAt rows n i) = false := by rw [hw]; exact decide_eq_false d1
          cases m with
          | zero => have := B.hk; rw [rdL] at this; cases this
          | succ m =>
          have hk := B2.hk
          rw [rdL, hst, if_neg (by simp)] at hk
          refine ⟨fun σ' H' => ∃ (_ : Unit) (q l : Addr) (vs : List V) (acc : List Stm) (i : Nat) (mk : List Mk), BodI a L rows n res H m σ' H' q l vs acc i mk, fun σ' H' h => ⟨m, Nat.lt_succ_self m, h⟩, ?_⟩
          have q4 := B2.q_
          have ho4 := B2.I.ob
          have g3 := hws i
          walk_at "rd"
          cases hrs : rdS rows m n i mk with
          | none => rw [hrs] at hk; cases hk
          | some rs =>
            rw [hrs] at hk
            refine ⟨L, rows, n, i, mk, l, m, rs, rfl, hn, hn8, B2.I, B2.l_, B2.nl, hst, B2.lm, hrs, ?_⟩
            cases rs with
            | err e =>
              cases hk
              exact fun H' f' => out H' (B2.f.trans f')
            | ok s' j mk1 =>
              intro H5 v f5 I5 hv
              obtain ⟨lj, lmk⟩ := (rd_le rows m).2.2.1 _ _ _ _ _ _ hrs
              have f6 := B2.f.trans f5
              have nqx : q ≠ L.x := Ne.symm (ne_of_none I.ob B2.fq)
              have q5 : H5 q = some (.lst vs) := f5 _ _ B2.q_ (by rintro (z | z); exact nqx z; exact B2.nq z)
              have ll := B2.b_.len
              have la := B2.al
              have lr := I.ln.1
              have le := I5.le
              have lz : vs.length < sizeLine := by rw [sizeLine_eq]; omega
              refine ⟨_, _, _, rfl, rfl, q5, lz, ?_⟩
              have I6 := RdAt.own (xs := vs ++ [v]) I I5 f6 B2.fq q5
              have f7 := f6.fresh (o := .lst (vs ++ [v])) B2.fq
              have tk5 : TupK H4 H5 := fun b l e => f5 _ _ e (by
                rintro (z | z)
                · rw [z, B2.I.ob] at e; cases e
                · obtain ⟨ms5, g5, _⟩ := B2.I.mk_
                  rw [z, g5] at e; cases e)
              have tk6 : TupK H5 (upd H5 q (.lst (vs ++ [v]))) := TupK.set q5
              have b6 := ((B2.b_.tup (tk5.trans tk6)).app (c := [s']) (us := [v]) ⟨v, [], rfl, hv.tup tk6, rfl⟩)
              have q6 := upd_same (H := H5) (a := q) (o := .lst (vs ++ [v]))
              generalize upd H5 q (.lst (vs ++ [v])) = H6 at I6 f7 b6 q6 ⊢
              have ho6 := I6.ob
              have g6 := hwa j
              walk_at "rd"
              refine ⟨L, rows, n, j, mk1, rfl, I6, fun H7 l7 s7 hl7 nl7 => ?_⟩
              exact ⟨(), q, l7, _, _, j, mk1, f7.trans (Kp.of_same s7), I6.same s7, by have := B2.lm; omega, s7 _ _ q6, b6.tup (TupK.of_same s7), B2.nq, B2.fq, hl7, nl7, by rw [List.length_append]; simp only [List.length_cons, List.length_nil]; omega, hk, rfl⟩
    · rintro σ' H' ⟨_, m, q, l, vs, acc, i, mk, B, hst⟩
      have es := B.hs
      subst es
      have ho' := B.I.ob
      have q' := B.q_
      have g1 := hwr i
      have g2 := hat i
      walk_at "rd"
      intro p hp
      have B1 := B.new (o := .lst []) hp
      have e1 := upd_same (H := H') (a := p) (o := .lst [])
      generalize upd H' p (.lst []) = H3 at B1 e1 ⊢
      have hk := B1.hk
      cases m with
      | zero => rw [rdL] at hk; cases hk
      | succ m =>
      rw [rdL, if_pos hst] at hk
      have ll := B1.b_.len
      have q3 := B1.q_
      have ho3 := B1.I.ob
      refine ⟨q, p, _, rfl, rfl, SqL.of B1.q_, SqL.of e1, ?_⟩
      refine ⟨L.x, L.dx, rdF L i, .int (i : Int), vs.isEmpty, rfl, ho3, rfl, rfl, fun e => ?_, fun e => ?_⟩
      · have ea : acc.isEmpty = true := by
          cases acc with
          | nil => rfl
          | cons x y => cases vs with
            | nil => cases ll
            | cons _ _ => cases e
        rw [if_pos ea] at hk
        cases hk
        exact out H3 B1.f
      · have ea : acc.isEmpty = false := by
          cases acc with
          | nil => cases vs with
            | nil => cases e
            | cons _ _ => cases ll
          | cons x y => rfl
        rw [if_neg (by rw [ea]; simp)] at hk
        cases hk
        walk_at "rd"
        refine .inl ⟨SqL.of q3, fun t ht => ?_⟩
        exact out _ t vs (B1.f.new ht) (B1.I.same ((Same.refl H3).new ht)) upd_same (B1.b_.tup (TupK.of_same ((Same.refl H3).new ht)))
/-! ### == of lists of texts -/
theorem eqv_strsL : ∀ xs ys : List Str, PyData.eqvAll (xs.map PyData.str) (ys.map PyData.str) = decide (xs = ys)
  | [], [] => by simp [PyData.eqvAll]
  | [], y :: ys => by simp [PyData.eqvAll]
  | x :: xs, [] => by simp [PyData.eqvAll]
  | x :: xs, y :: ys => by
    show (PyData.eqv (.str x) (.str y) && PyData.eqvAll (xs.map PyData.str) (ys.map PyData.str)) = _
    rw [eqv_strsL xs ys]
    show ((x == y) && decide (xs = ys)) = _
    by_cases h : x = y
    · subst h
      simp
    · simp [h]
theorem eq_strsD {K : PySem.W.Frag} {H : Hp} {a b : Addr} {xs ys : List Str} {Q : VK} (h1 : H a = some (.lst (xs.map V.str))) (h2 : H b = some (.lst (ys.map V.str))) (ax : ∀ z ∈ xs, asc z) (ay : ∀ z ∈ ys, asc z) (q : Q (.bl (decide (xs = ys))) H) : rEqD K (.ref a) (.ref b) H Q :=
  ⟨_, _, .lst (SqL.of h1) (dp_strs _), .lst (SqL.of h2) (dp_strs _), shaped_strs ax, shaped_strs ay, by
    rw [show PyData.eqv (.list (xs.map PyData.str)) (.list (ys.map PyData.str)) = decide (xs = ys) from eqv_strsL xs ys]
    exact q⟩
theorem word_asc {z : Str} (h : IsWord z) : asc z := fun c hc => by have := h.al c hc; omega
/-! ### Reader: read_try -/
def HndAt (H : Hp) (t : Addr) (p : Option (List Str) × Addr) : Prop := ∃ lv, H t = some (.tup [lv, .ref p.2]) ∧ match p.1 with | none => lv = .non | some l => ∃ y, lv = .ref y ∧ H y = some (.tup (l.map V.str))
theorem HndAt.tup {H H' : Hp} {t : Addr} {p : Option (List Str) × Addr} (e : TupK H H') (h : HndAt H t p) : HndAt H' t p := by
  obtain ⟨lv, a1, a2⟩ := h
  refine ⟨lv, e _ _ a1, ?_⟩
  cases hp : p.1 with
  | none => rw [hp] at a2; exact a2
  | some l =>
    rw [hp] at a2
    obtain ⟨y, b1, b2⟩ := a2
    exact ⟨y, b1, e _ _ b2⟩
theorem _root_.Ic.Kp.free2 {a : Ad} {L : RA} {rows rows' : List Row} {H H1 : Hp} {i j : Nat} {mk mk1 : List Mk} {q : Addr} (f : FrR L H H1) (I : RdAt a H L rows i mk) (I1 : RdAt a H1 L rows' j mk1) (h : H1 q = none) : H q = none := by
  cases e : H q with
  | none => rfl
  | some o =>
    obtain ⟨ms, g, _⟩ := I1.mk_
    have := f q o e (by
      rintro (z | z)
      · rw [z, I1.ob] at h; cases h
      · rw [z, g] at h; cases h)
    rw [this] at h; cases h
/-- the state behind the try's own body: b at pb, the handlers so far in the list at q -/
structure HndI (a : Ad) (L : RA) (rows : List Row) (n : Nat) (b : List Stm) (H0 H : Hp) (pb q : Addr) (vb : List V) (ts rr : List Addr) (hw : List (Option (List Str))) (hb : List (List Stm)) (i : Nat) (mk : List Mk) : Prop where
  f : FrR L H0 H
  I : RdAt a H L rows i mk
  lm : mk.length ≤ i
  b_ : H pb = some (.tup vb)
  bb : BAt H b vb
  q_ : H q = some (.lst (ts.map V.ref))
  nq : q ≠ L.ml
  fq : H0 q = none
  hs : A2 (HndAt H) ts (hw.zip rr)
  lr : rr.length = hw.length
  lt : ts.length ≤ i
  ps : PsAt H hb rr
theorem HndI.new {a : Ad} {L : RA} {rows : List Row} {n : Nat} {b : List Stm} {H0 H : Hp} {pb q p : Addr} {vb : List V} {ts rr : List Addr} {hw : List (Option (List Str))} {hb : List (List Stm)} {i : Nat} {mk : List Mk} {o : HO}
    (B : HndI a L rows n b H0 H pb q vb ts rr hw hb i mk) (h : H p = none) : HndI a L rows n b H0 (upd H p o) pb q vb ts rr hw hb i mk :=
  have s := (Same.refl H).new (o := o) h
  ⟨B.f.new h, B.I.same s, B.lm, s _ _ B.b_, B.bb.tup (TupK.of_same s), s _ _ B.q_, B.nq, B.fq, B.hs.imp fun _ _ r => r.tup (TupK.of_same s), B.lr, B.lt, B.ps.tup (TupK.of_same s)⟩
theorem HndI.same {a : Ad} {L : RA} {rows : List Row} {n : Nat} {b : List Stm} {H0 H H' : Hp} {pb q : Addr} {vb : List V} {ts rr : List Addr} {hw : List (Option (List Str))} {hb : List (List Stm)} {i : Nat} {mk : List Mk}
    (s : Same H H') (B : HndI a L rows n b H0 H pb q vb ts rr hw hb i mk) : HndI a L rows n b H0 H' pb q vb ts rr hw hb i mk :=
  ⟨B.f.trans (Kp.of_same s), B.I.same s, B.lm, s _ _ B.b_, B.bb.tup (TupK.of_same s), s _ _ B.q_, B.nq, B.fq, B.hs.imp fun _ _ r => r.tup (TupK.of_same s), B.lr, B.lt, B.ps.tup (TupK.of_same s)⟩
theorem HndI.move {a : Ad} {L : RA} {rows : List Row} {n : Nat} {b : List Stm} {H0 H : Hp} {pb q : Addr} {vb : List V} {ts rr : List Addr} {hw : List (Option (List Str))} {hb : List (List Stm)} {i : Nat} {mk : List Mk}
    (B : HndI a L rows n b H0 H pb q vb ts rr hw hb i mk) (h : i < rows.length) : HndI a L rows n b H0 (upd H L.x (.ins a.Reader L.dx (rdF L (i + 1)))) pb q vb ts rr hw hb (i + 1) mk :=
  have k := LK.ins (m := L.ml) (o := .ins a.Reader L.dx (rdF L (i + 1))) B.I.ob
  ⟨B.f.set (.inl rfl), B.I.move h, Nat.le_succ_of_le B.lm, k.1 _ _ B.b_, B.bb.tup k.1, k.2 _ _ B.nq B.q_, B.nq, B.fq, B.hs.imp fun _ _ r => r.tup k.1, B.lr, Nat.le_succ_of_le B.lt, B.ps.tup k.1⟩
/-- behind a call that reads a body -/
theorem HndI.read {a : Ad} {L : RA} {rows : List Row} {n : Nat} {b : List Stm} {H0 H H' : Hp} {pb q : Addr} {vb : List V} {ts rr : List Addr} {hw : List (Option (List Str))} {hb : List (List Stm)} {i j : Nat} {mk mk' : List Mk}
    (B : HndI a L rows n b H0 H pb q vb ts rr hw hb i mk) (f : FrR L H H') (I : RdAt a H' L rows j mk') (le : i ≤ j) (lm : mk'.length ≤ j) : HndI a L rows n b H0 H' pb q vb ts rr hw hb j mk' := by
  have tk : TupK H H' := fun b l e => f _ _ e (by
    rintro (z | z)
    · rw [z, B.I.ob] at e; cases e
    · obtain ⟨ms, g, _⟩ := B.I.mk_
      rw [z, g] at e; cases e)
  have q' : H' q = some (.lst (ts.map V.ref)) := f _ _ B.q_ (by
    rintro (z | z)
    · have := B.q_
      rw [z, B.I.ob] at this; cases this
    · exact B.nq z)
  exact ⟨B.f.trans f, I, lm, tk _ _ B.b_, B.bb.tup tk, q', B.nq, B.fq, B.hs.imp fun _ _ r => r.tup tk, B.lr, Nat.le_trans B.lt le, B.ps.tup tk⟩
/-- a handler is put behind -/
theorem HndI.put {a : Ad} {L : RA} {rows : List Row} {n : Nat} {b c : List Stm} {H0 H : Hp} {pb q t r : Addr} {vb vc : List V} {ts rr : List Addr} {hw : List (Option (List Str))} {hb : List (List Stm)} {i0 i : Nat} {mk0 mk : List Mk} {w : Option (List Str)}
    (I0 : RdAt a H0 L rows i0 mk0) (B : HndI a L rows n b H0 H pb q vb ts rr hw hb i mk) (ht : HndAt H t (w, r)) (hr : H r = some (.tup vc)) (hc : BAt H c vc) (lt : ts.length + 1 ≤ i) :
    HndI a L rows n b H0 (upd H q (.lst (ts.map V.ref ++ [.ref t]))) pb q vb (ts ++ [t]) (rr ++ [r]) (hw ++ [w]) (hb ++ [c]) i mk := by
  have tk : TupK H (upd H q (.lst (ts.map V.ref ++ [.ref t]))) := TupK.set B.q_
  refine ⟨B.f.fresh B.fq, RdAt.own I0 B.I B.f B.fq B.q_, B.lm, tk _ _ B.b_, B.bb.tup tk, by rw [upd_same, List.map_append]; rfl, B.nq, B.fq, ?_, by rw [List.length_append, List.length_append, B.lr]; rfl, by rw [List.length_append]; exact lt, (B.ps.tup tk).app ⟨r, [], vc, rfl, tk _ _ hr, hc.tup tk, rfl⟩⟩
  rw [List.zip_append B.lr.symm]
  exact (B.hs.imp fun _ _ r => r.tup tk).app (.cons (ht.tup tk) .nil)
theorem ok_Reader_read_try (T : Txt K mg a d) (r : Nat) (G_Reader_read_body : FnOk P w K mg base (L2.CX P w) (4 * r + 4) a.Reader_read_body d.Reader_read_body ["self", "nesting"] (spBody a r)) : FnOk P w K mg base (L2.CX P w) (4 * r + 5) a.Reader_read_try d.Reader_read_try ["self", "nesting"] (spTry a r) := by
  have G_Reader_wrong_if : FnOk P w K mg base (L2.CX P w) 3 a.Reader_wrong_if d.Reader_wrong_if ["self", "is_wrong"] (spWrong a) := ok_Reader_wrong_if T
  have G_Reader_words_at : FnOk P w K mg base CX0 1 a.Reader_words_at d.Reader_words_at ["self", "nesting"] (spWat a) := ok_Reader_words_at T
  refine T.Reader_read_try.okX sc_Reader_read_try (fun vs H Q E h => ?_) (fun cdv A outer s H vs Q E hr h => ?_)
  · obtain ⟨L, rows, n, i, mk, k, res, rfl, _⟩ := h
    rfl
  · obtain ⟨L, rows, n, i, mk, k, res, rfl, hn, hn7, I, lm, hk, out⟩ := h
    have c1 := T.k_Reader
    have n1 := T.na_Reader_at
    cases k with
    | zero => rw [rdT] at hk; cases hk
    | succ k =>
    rw [rdT] at hk
    have ho := I.ob
    refine ⟨_, (pss_cons (ps_set (i := 2) sc_Reader_read_try.nd rfl (Or.inl rfl) (pe_meth (pv 0) T.k_Reader T.m_Reader_read_body G_Reader_read_body (hr.mono (by omega)) T.b_Reader_read_body .nil (passes_call (takes_of rfl rfl rfl rfl) (fun _ _ _ _ h => h)) (pa_cons (pe_op op_add (pv 1) pe_int) pa_nil)))
  (pss_cons (ps_set (i := 3) sc_Reader_read_try.nd rfl (Or.inl rfl) (pe_lst pa_nil))
  (pss_cons (ps_set (i := 4) sc_Reader_read_try.nd rfl (Or.inl rfl) pe_bl)
  (C8.pss_cut (ps_while (passes_of rfl) (PW.pt (pw_and (pt_val (pv 4)) (pw_and1 (pt_cmpR (op_eqD hr.units) (pe_slice sl_list (pe_meth (pv 0) T.k_Reader T.m_Reader_words_at G_Reader_words_at (hr.mono (by omega)) T.b_Reader_words_at .nil pass0 (pa_cons (pv 1) pa_nil)) po_none (po_some pe_int)) (pe_lst (pa_cons pe_str pa_nil)) (nomark _)))))
  (pss_cons (ps_set (i := 5) sc_Reader_read_try.nd rfl (Or.inl rfl) (pe_slice sl_list (pe_meth (pv 0) T.k_Reader T.m_Reader_words_at G_Reader_words_at (hr.mono (by omega)) T.b_Reader_words_at .nil pass0 (pa_cons (pv 1) pa_nil)) (po_some pe_int) po_none))
  (pss_cons (ps_fldaug (pv 0) pe_int in_add)
  (pss_cons (ps_set (i := 4) sc_Reader_read_try.nd rfl (Or.inl rfl) (pe_cmpR (op_neNil (hu_of hr)) (pv 5) (pe_lst pa_nil) (nomark _)))
  (pss_one (ps_expr (pe_bm PySem.F.plainAttrs_list PySem.F.slot_list_append PySem.F.type_list_append mt_append (pv 3) (pa_cons (pe_tup (pa_cons (pe_ifExp (pt_val (pv 4)) (pe_callTy call_tuple_of (by rfl) T.n_tuple (by decide +kernel) (pa_cons (pv 5) pa_nil)) pe_non) (pa_cons (pe_meth (pv 0) T.k_Reader T.m_Reader_read_body G_Reader_read_body (hr.mono (by omega)) T.b_Reader_read_body .nil (passes_call (takes_of rfl rfl rfl rfl) (fun _ _ _ _ h => h)) (pa_cons (pe_op op_add (pv 1) pe_int) pa_nil)) pa_nil))) pa_nil))))))))
  (pss_cons (ps_set (i := 6) sc_Reader_read_try.nd rfl (Or.inl rfl) pe_non)
  (C8.pss_cut (ps_if (pt_cmpR (op_eqD hr.units) (pe_meth (pv 0) T.k_Reader T.m_Reader_words_at G_Reader_words_at (hr.mono (by omega)) T.b_Reader_words_at .nil pass0 (pa_cons (pv 1) pa_nil)) (pe_lst (pa_cons pe_str pa_nil)) (nomark _)) (pss_cons (ps_fldaug (pv 0) pe_int in_add)
  (pss_one (ps_set (i := 6) sc_Reader_read_try.nd rfl (Or.inl rfl) (pe_meth (pv 0) T.k_Reader T.m_Reader_read_body G_Reader_read_body (hr.mono (by omega)) T.b_Reader_read_body .nil (passes_call (takes_of rfl rfl rfl rfl) (fun _ _ _ _ h => h)) (pa_cons (pe_op op_add (pv 1) pe_int) pa_nil))))) pss_nil)
  (C8.pss_cut (ps_expr (pe_meth (pv 0) T.k_Reader T.m_Reader_wrong_if G_Reader_wrong_if (hr.mono (by omega)) T.b_Reader_wrong_if .nil (passes_call (takes_of rfl rfl rfl rfl) (fun _ _ _ _ h => h)) (pa_cons (pe_and (pe_cmpR (op_eqNil (hu_of hr)) (pv 3) (pe_lst pa_nil) (nomark _)) (pe_one (pe_cmpR op_isN (pv 6) pe_non (nomark _)))) pa_nil)))
  (pss_one (ps_ret (pe_tup (pa_cons pe_str (pa_cons (pv 2) (pa_cons (pe_callTy call_tuple_of (by rfl) T.n_tuple (by decide +kernel) (pa_cons (pv 3) pa_nil)) (pa_cons (pv 6) pa_nil)))))))))))))), ?_⟩
    try dsimp only [cxOf]
    have hwa : ∀ i, List.lookup ("words_at" : Str) (rdF L i) = none := fun _ => rfl
    have hwr : ∀ i, List.lookup ("wrong_if" : Str) (rdF L i) = none := fun _ => rfl
    have hws : ∀ i, List.lookup ("read_body" : Str) (rdF L i) = none := fun _ => rfl
    have hat : ∀ i : Nat, List.lookup ("at" : Str) (rdF L i) = some (.int (i : Int)) := fun _ => rfl
    have g0 := hws i
    walk_at "rd"
    cases hb0 : rdB rows k (n + 1) i mk with
    | none => rw [hb0] at hk; cases hk
    | some rb =>
      rw [hb0] at hk
      refine ⟨L, rows, n + 1, i, mk, k, rb, rfl, by omega, by omega, I, lm, hb0, ?_⟩
      cases rb with
      | err l =>
        cases hk
        exact out
      | ok b j mk1 =>
        intro H1 pb vb f1 I1 hpb hbb
        obtain ⟨lj, lmk⟩ := (rd_le rows k).1 _ _ _ _ _ _ hb0
        have hk : rdH rows k n j mk1 b [] [] true = some res := hk
        walk_at "rd"
        intro q hq
        obtain ⟨ms, h3, _⟩ := I1.mk_
        have B1 : HndI a L rows n b H (upd H1 q (.lst [])) pb q vb [] [] [] [] j mk1 :=
          ⟨f1.new hq, I1.same ((Same.refl H1).new hq), by omega, upd_old hpb hq, hbb.tup (TupK.of_same ((Same.refl H1).new hq)), upd_same, Ne.symm (ne_of_none h3 hq), f1.free2 I I1 hq, .nil, rfl, Nat.zero_le _, rfl⟩
        generalize upd H1 q (.lst []) = H2 at B1 ⊢
        refine ⟨fun σ' H' => ∃ (_ : Unit) (m : Nat) (q : Addr) (ts rr : List Addr) (hw : List (Option (List Str))) (hb : List (List Stm)) (op : Bool) (i : Nat) (mk : List Mk) (v5 : Option V), HndI a L rows n b H H' pb q vb ts rr hw hb i mk ∧ rdH rows (m + 1) n i mk b hw hb op = some res ∧ ¬ (op = true ∧ (wordsAt rows n i).take 1 = (["except"] : List Str)) ∧ σ' = [some (.ref L.x), some (.int (n : Int)), some (.ref pb), some (.ref q), some (.bl op), v5, none], ?_, ?_⟩
        · refine ⟨fun m σ' H' => ∃ (_ : Unit) (q : Addr) (ts rr : List Addr) (hw : List (Option (List Str))) (hb : List (List Stm)) (op : Bool) (i : Nat) (mk : List Mk) (v5 : Option V), HndI a L rows n b H H' pb q vb ts rr hw hb i mk ∧ rdH rows m n i mk b hw hb op = some res ∧ σ' = [some (.ref L.x), some (.int (n : Int)), some (.ref pb), some (.ref q), some (.bl op), v5, none], ⟨k, (), q, [], [], [], [], true, j, mk1, none, B1, hk, rfl⟩, ?_⟩
          rintro m σ' H' ⟨_, q, ts, rr, hw, hb, op, i, mk, v5, B, hk, rfl⟩
          cases m with
          | zero => rw [rdH] at hk; cases hk
          | succ m =>
          have ho' := B.I.ob
          have g1 := hwa i
          cases op with
          | false =>
            walk_at "rd"
            refine iteF ?_
            exact ⟨(), m, q, ts, rr, hw, hb, false, i, mk, v5, B, hk, (fun z => by cases z.1), rfl⟩
          | true =>
            walk_at "rd"
            refine ⟨L, rows, n, i, mk, rfl, B.I, fun H3 l s3 hl nl => ?_⟩
            have B3 := B.same s3
            obtain ⟨iw, lw⟩ := wordsAt_ok B.I.ln (n := n) (i := i)
            walk_at "rd"
            intro p1 hp1
            rw [show cutV ((wordsAt rows n i).map V.str) none (some 1) = ((wordsAt rows n i).take 1).map V.str by rw [List.map_take]; exact cutV_to _ 1]
            have B4 := B3.new (o := .lst (((wordsAt rows n i).take 1).map V.str)) hp1
            have e4 := upd_same (H := H3) (a := p1) (o := .lst (((wordsAt rows n i).take 1).map V.str))
            generalize upd H3 p1 (.lst (((wordsAt rows n i).take 1).map V.str)) = H4 at B4 e4 ⊢
            walk_at "rd"
            intro p2 hp2
            have B5 := B4.new (o := .lst [.str "except"]) hp2
            have e5 := upd_old (o := .lst [.str "except"]) e4 hp2
            have f5 := upd_same (H := H4) (a := p2) (o := .lst [.str "except"])
            generalize upd H4 p2 (.lst [.str "except"]) = H5 at B5 e5 f5 ⊢
            refine eq_strsD (ys := ["except"]) e5 f5 (fun z hz => word_asc (iw z (List.mem_of_mem_take hz))) (by unfold asc; decide +kernel) ⟨_, rfl, ?_⟩
            by_cases d1 : (wordsAt rows n i).take 1 = (["except"] : List Str)
            · rw [decide_eq_true d1]
              rw [rdH, if_pos ⟨rfl, d1⟩] at hk
              refine iteT ?_
              refine ⟨fun σ' H' => ∃ (_ : Unit) (q : Addr) (ts rr : List Addr) (hw : List (Option (List Str))) (hb : List (List Stm)) (op : Bool) (i : Nat) (mk : List Mk) (v5 : Option V), HndI a L rows n b H H' pb q vb ts rr hw hb i mk ∧ rdH rows m n i mk b hw hb op = some res ∧ σ' = [some (.ref L.x), some (.int (n : Int)), some (.ref pb), some (.ref q), some (.bl op), v5, none], fun σ' H' h => ⟨m, Nat.lt_succ_self m, h⟩, ?_⟩
              have nw : wordsAt rows n i ≠ [] := fun e => by rw [e] at d1; cases d1
              have li := words_some nw
              have ho5 := B5.I.ob
              walk_at "rd"
              refine ⟨L, rows, n, i, mk, rfl, B5.I, fun H6 l6 s6 hl6 nl6 => ?_⟩
              have B6 := B5.same s6
              walk_at "rd"
              intro p7 hp7
              rw [show cutV ((wordsAt rows n i).map V.str) (some 1) none = ((wordsAt rows n i).drop 1).map V.str by rw [List.map_drop]; exact cutV_from _ 1]
              have B7 := B6.new (o := .lst (((wordsAt rows n i).drop 1).map V.str)) hp7
              have e7 := upd_same (H := H6) (a := p7) (o := .lst (((wordsAt rows n i).drop 1).map V.str))
              obtain ⟨ms6, hm6, _⟩ := B6.I.mk_
              have n7 : p7 ≠ L.ml := Ne.symm (ne_of_none hm6 hp7)
              have q7 : p7 ≠ q := Ne.symm (ne_of_none B6.q_ hp7)
              generalize upd H6 p7 (.lst (((wordsAt rows n i).drop 1).map V.str)) = H7 at B7 e7 ⊢
              have ho7 := B7.I.ob
              walk_at "rd"
              rw [show putF "at" (.int ((i : Int) + 1)) (rdF L i) = rdF L (i + 1) from rfl]
              have B8 := B7.move li
              have e8 := (LK.ins (m := L.ml) (o := .ins a.Reader L.dx (rdF L (i + 1))) ho7).2 p7 _ n7 e7
              generalize upd H7 L.x (.ins a.Reader L.dx (rdF L (i + 1))) = H8 at B8 e8 ⊢
              intro p9 hp9
              have B9 := B8.new (o := .lst []) hp9
              have e9 := upd_old (o := .lst []) e8 hp9
              have f9 := upd_same (H := H8) (a := p9) (o := .lst [])
              generalize upd H8 p9 (.lst []) = H9 at B9 e9 f9 ⊢
              have q9 := B9.q_
              cases hd : (wordsAt rows n i).drop 1 with
              | nil =>
                rw [hd] at e9 hk
                refine ⟨p7, p9, _, rfl, rfl, SqL.of e9, SqL.of f9, ?_⟩
                have B10 := B9
                have ho10 := B10.I.ob
                have g10 := hws (i + 1)
                walk_at "rd"
                cases hrb : rdB rows m (n + 1) (i + 1) mk with
                | none => rw [hrb] at hk; cases hk
                | some rb =>
                  rw [hrb] at hk
                  refine ⟨L, rows, n + 1, i + 1, mk, m, rb, rfl, by omega, by omega, B10.I, by have := B10.lm; omega, hrb, ?_⟩
                  cases rb with
                  | err e =>
                    cases hk
                    exact fun H' f' => out H' (B10.f.trans f')
                  | ok c j2 mk2 =>
                    intro H11 pc vc f11 I11 hpc hbc
                    obtain ⟨lj2, lmk2⟩ := (rd_le rows m).1 _ _ _ _ _ _ hrb
                    have B11 := B10.read f11 I11 lj2 (by have := B.lm; omega)
                    walk_at "rd"
                    intro t ht
                    have B12 := B11.new (o := .tup [.non, .ref pc]) ht
                    have s12 := (Same.refl H11).new (o := .tup [.non, .ref pc]) ht
                    have lt12 := B11.lt
                    have ht12 : HndAt (upd H11 t (.tup [.non, .ref pc])) t (none, pc) := ⟨.non, upd_same, rfl⟩
                    have hpc12 := s12 _ _ hpc
                    have hbc12 := hbc.tup (TupK.of_same s12)
                    generalize upd H11 t (.tup [.non, .ref pc]) = H12 at B12 s12 ht12 hpc12 hbc12 ⊢
                    have le12 := I11.le
                    have lr12 := I.ln.1
                    have lz : (ts.map V.ref).length < sizeLine := by rw [List.length_map, sizeLine_eq]; omega
                    refine ⟨_, _, _, rfl, rfl, B12.q_, lz, ?_⟩
                    have B13 := B12.put I ht12 hpc12 hbc12 (by have := B10.lt; have := B.lt; omega)
                    exact ⟨(), q, _, _, _, _, false, j2, mk2, _, B13, hk, rfl⟩
              | cons w0 wr =>
                rw [hd] at e9 hk
                refine ⟨p7, p9, _, rfl, rfl, SqL.of e9, SqL.of f9, ?_⟩
                walk_at "rd"
                refine .inl ⟨SqL.of e9, fun y hy => ?_⟩
                have B10 := B9.new (o := .tup ((w0 :: wr).map V.str)) hy
                have ey := upd_same (H := H9) (a := y) (o := .tup ((w0 :: wr).map V.str))
                generalize upd H9 y (.tup ((w0 :: wr).map V.str)) = H10 at B10 ey ⊢
                have ho10 := B10.I.ob
                have g10 := hws (i + 1)
                walk_at "rd"
                cases hrb : rdB rows m (n + 1) (i + 1) mk with
                | none => rw [hrb] at hk; cases hk
                | some rb =>
                  rw [hrb] at hk
                  refine ⟨L, rows, n + 1, i + 1, mk, m, rb, rfl, by omega, by omega, B10.I, by have := B10.lm; omega, hrb, ?_⟩
                  cases rb with
                  | err e =>
                    cases hk
                    exact fun H' f' => out H' (B10.f.trans f')
                  | ok c j2 mk2 =>
                    intro H11 pc vc f11 I11 hpc hbc
                    obtain ⟨lj2, lmk2⟩ := (rd_le rows m).1 _ _ _ _ _ _ hrb
                    have B11 := B10.read f11 I11 lj2 (by have := B.lm; omega)
                    have ey11 : H11 y = some (.tup ((w0 :: wr).map V.str)) := f11 _ _ ey (by
                      rintro (z | z)
                      · rw [z, B10.I.ob] at ey; cases ey
                      · obtain ⟨ms, g, _⟩ := B10.I.mk_
                        rw [z, g] at ey; cases ey)
                    walk_at "rd"
                    intro t ht
                    have B12 := B11.new (o := .tup [.ref y, .ref pc]) ht
                    have s12 := (Same.refl H11).new (o := .tup [.ref y, .ref pc]) ht
                    have lt12 := B11.lt
                    have ht12 : HndAt (upd H11 t (.tup [.ref y, .ref pc])) t (some (w0 :: wr), pc) := ⟨.ref y, upd_same, y, rfl, upd_old ey11 ht⟩
                    have hpc12 := s12 _ _ hpc
                    have hbc12 := hbc.tup (TupK.of_same s12)
                    generalize upd H11 t (.tup [.ref y, .ref pc]) = H12 at B12 s12 ht12 hpc12 hbc12 ⊢
                    have le12 := I11.le
                    have lr12 := I.ln.1
                    have lz : (ts.map V.ref).length < sizeLine := by rw [List.length_map, sizeLine_eq]; omega
                    refine ⟨_, _, _, rfl, rfl, B12.q_, lz, ?_⟩
                    have B13 := B12.put I ht12 hpc12 hbc12 (by have := B10.lt; have := B.lt; omega)
                    exact ⟨(), q, _, _, _, _, true, j2, mk2, _, B13, hk, rfl⟩
            · rw [decide_eq_false d1]
              refine iteF ?_
              exact ⟨(), m, q, ts, rr, hw, hb, true, i, mk, v5, B5, hk, fun z => d1 z.2, rfl⟩
        · rintro σ' H' ⟨_, m, q, ts, rr, hw, hb, op, i, mk, v5, B, hk, hc, rfl⟩
          rw [rdH, if_neg hc] at hk
          refine ⟨fun σ'' H'' => ∃ (_ : Unit) (i : Nat) (mk : List Mk) (fv : V), HndI a L rows n b H H'' pb q vb ts rr hw hb i mk ∧ ((fv = .non ∧ (if hw = [] then some (.err i) else some (.ok (.mk (.tr hw false) (b :: hb)) i mk)) = some res) ∨
            (∃ pf vf c, fv = .ref pf ∧ H'' pf = some (.tup vf) ∧ BAt H'' c vf ∧ res = .ok (.mk (.tr hw true) (b :: hb ++ [c])) i mk)) ∧ σ'' = [some (.ref L.x), some (.int (n : Int)), some (.ref pb), some (.ref q), some (.bl op), v5, some fv], ?_, ?_⟩
          · have ho' := B.I.ob
            have g1 := hwa i
            walk_at "rd"
            refine ⟨L, rows, n, i, mk, rfl, B.I, fun H3 l s3 hl nl => ?_⟩
            have B3 := B.same s3
            obtain ⟨iw, lw⟩ := wordsAt_ok B.I.ln (n := n) (i := i)
            walk_at "rd"
            intro p2 hp2
            have B5 := B3.new (o := .lst [.str "finally"]) hp2
            have e5 := upd_old (o := .lst [.str "finally"]) hl hp2
            have f5 := upd_same (H := H3) (a := p2) (o := .lst [.str "finally"])
            generalize upd H3 p2 (.lst [.str "finally"]) = H5 at B5 e5 f5 ⊢
            refine eq_strsD (ys := ["finally"]) e5 f5 (fun z hz => word_asc (iw z hz)) (by unfold asc; decide +kernel) ⟨_, rfl, ?_⟩
            by_cases d1 : wordsAt rows n i = (["finally"] : List Str)
            · rw [decide_eq_true d1]
              rw [if_pos d1] at hk
              refine iteT ?_
              have nw : wordsAt rows n i ≠ [] := fun e => by rw [e] at d1; cases d1
              have li := words_some nw
              have ho5 := B5.I.ob
              walk_at "rd"
              rw [show putF "at" (.int ((i : Int) + 1)) (rdF L i) = rdF L (i + 1) from rfl]
              have B8 := B5.move li
              generalize upd H5 L.x (.ins a.Reader L.dx (rdF L (i + 1))) = H8 at B8 ⊢
              cases hrb : rdB rows m (n + 1) (i + 1) mk with
              | none => rw [hrb] at hk; cases hk
              | some rb =>
                rw [hrb] at hk
                refine ⟨L, rows, n + 1, i + 1, mk, m, rb, rfl, by omega, by omega, B8.I, by have := B8.lm; omega, hrb, ?_⟩
                cases rb with
                | err e =>
                  cases hk
                  exact fun H' f' => out H' (B8.f.trans f')
                | ok c j2 mk2 =>
                  intro H11 pc vc f11 I11 hpc hbc
                  obtain ⟨lj2, lmk2⟩ := (rd_le rows m).1 _ _ _ _ _ _ hrb
                  have B11 := B8.read f11 I11 lj2 (by have := B.lm; omega)
                  cases hk
                  exact ⟨(), j2, mk2, .ref pc, B11, .inr ⟨pc, vc, c, rfl, hpc, hbc, rfl⟩, rfl⟩
            · rw [decide_eq_false d1]
              rw [if_neg d1] at hk
              refine iteF ?_
              exact ⟨(), i, mk, .non, B5, .inl ⟨rfl, hk⟩, rfl⟩
          · rintro σ'' H'' ⟨_, i, mk, fv, B, hf, rfl⟩
            refine ⟨fun σ3 H3 => ∃ (_ : Unit) (i : Nat) (mk : List Mk) (fv : V) (fin : Bool) (tl : List (List Stm)), HndI a L rows n b H H3 pb q vb ts rr hw hb i mk ∧ res = .ok (.mk (.tr hw fin) (b :: hb ++ tl)) i mk ∧
              ((fin = false ∧ tl = [] ∧ fv = .non) ∨ (∃ pf vf c, fin = true ∧ tl = [c] ∧ fv = .ref pf ∧ H3 pf = some (.tup vf) ∧ BAt H3 c vf)) ∧ σ3 = [some (.ref L.x), some (.int (n : Int)), some (.ref pb), some (.ref q), some (.bl op), v5, some fv], ?_, ?_⟩
            · have ho' := B.I.ob
              have q' := B.q_
              have g1 := hwr i
              walk_at "rd"
              intro p hp
              have B1 := B.new (o := .lst []) hp
              have e1 := upd_same (H := H'') (a := p) (o := .lst [])
              have lts := B.hs.len
              have hf1 : (fv = .non ∧ (if hw = [] then some (.err i) else some (.ok (.mk (.tr hw false) (b :: hb)) i mk)) = some res) ∨ (∃ pf vf c, fv = .ref pf ∧ upd H'' p (.lst []) pf = some (.tup vf) ∧ BAt (upd H'' p (.lst [])) c vf ∧ res = .ok (.mk (.tr hw true) (b :: hb ++ [c])) i mk) := by
                rcases hf with h | ⟨pf, vf, c, h1, h2, h3, h4⟩
                · exact .inl h
                · exact .inr ⟨pf, vf, c, h1, upd_old h2 hp, h3.tup (TupK.of_same ((Same.refl H'').new hp)), h4⟩
              generalize upd H'' p (.lst []) = H3 at B1 e1 hf1 ⊢
              have ho1 := B1.I.ob
              have fin : hw ≠ [] ∨ fv ≠ .non → ∃ (_ : Unit) (i : Nat) (mk : List Mk) (fv' : V) (fin : Bool) (tl : List (List Stm)), HndI a L rows n b H H3 pb q vb ts rr hw hb i mk ∧ res = .ok (.mk (.tr hw fin) (b :: hb ++ tl)) i mk ∧
                  ((fin = false ∧ tl = [] ∧ fv' = .non) ∨ (∃ pf vf c, fin = true ∧ tl = [c] ∧ fv' = .ref pf ∧ H3 pf = some (.tup vf) ∧ BAt H3 c vf)) ∧ ([some (.ref L.x), some (.int (n : Int)), some (.ref pb), some (.ref q), some (.bl op), v5, some fv] : L2.St) = [some (.ref L.x), some (.int (n : Int)), some (.ref pb), some (.ref q), some (.bl op), v5, some fv'] := by
                intro hne
                rcases hf1 with ⟨h1, h2⟩ | ⟨pf, vf, c, h1, h2, h3, h4⟩
                · rcases hne with z | z
                  · rw [if_neg z] at h2
                    cases h2
                    exact ⟨(), i, mk, fv, false, [], B1, by rw [List.append_nil], .inl ⟨rfl, rfl, h1⟩, rfl⟩
                  · exact absurd h1 z
                · exact ⟨(), i, mk, fv, true, [c], B1, h4, .inr ⟨pf, vf, c, rfl, rfl, h1, h2, h3⟩, rfl⟩
              refine ⟨q, p, _, rfl, rfl, SqL.of B1.q_, SqL.of e1, _, rfl, ?_⟩
              cases ts with
              | cons t0 tr0 =>
                have hne : hw ≠ [] := fun e => by rw [e] at lts; cases lts
                refine iteF ?_
                walk_at "rd"
                exact ⟨fun e => (by cases e), fun _ => fin (.inl hne)⟩
              | nil =>
                have he : hw = [] := by
                  cases hw with
                  | nil => rfl
                  | cons x y =>
                    have := B.lr
                    cases rr with
                    | nil => cases this
                    | cons _ _ => cases lts
                refine iteT ?_
                walk_at "rd"
                refine ⟨fun e => ?_, fun e => fin (.inr (of_decide_eq_false e))⟩
                have e := of_decide_eq_true e
                rcases hf1 with ⟨h1, h2⟩ | ⟨pf, vf, c, h1, h2, h3, h4⟩
                · rw [if_pos he] at h2
                  cases h2
                  exact out H3 B1.f
                · rw [h1] at e; cases e
            · rintro σ3 H3 ⟨_, i, mk, fv, fin, tl, B, rfl, hf, rfl⟩
              have q' := B.q_
              walk_at "rd"
              refine .inl ⟨SqL.of q', fun q2 hq2 => ?_⟩
              have B1 := B.new (o := .tup (ts.map V.ref)) hq2
              have e1 := upd_same (H := H3) (a := q2) (o := .tup (ts.map V.ref))
              have t1 := TupK.of_same ((Same.refl H3).new (o := .tup (ts.map V.ref)) hq2)
              generalize upd H3 q2 (.tup (ts.map V.ref)) = H4 at B1 e1 t1 ⊢
              walk_at "rd"
              intro y hy
              have t2 := TupK.of_same ((Same.refl H4).new (o := .tup [.str "try", .ref pb, .ref q2, fv]) hy)
              refine out _ (.ref y) (B1.f.new hy) (B1.I.same ((Same.refl H4).new hy)) ?_
              have ps1 := B1.ps.tup t2
              have bb1 := B1.bb.tup t2
              have hs1 := B1.hs.imp fun _ _ r => r.tup t2
              have pb1 := t2 _ _ B1.b_
              have e2 := t2 _ _ e1
              rcases hf with ⟨rfl, rfl, rfl⟩ | ⟨pf, vf, c, rfl, rfl, rfl, h4, h5⟩
              · rw [List.append_nil]
                exact ⟨y, _, pb :: rr, rfl, upd_same, ⟨pb, rr, q2, ts, .non, rfl, e2, hs1, B1.lr, by rw [if_neg (by simp)]; exact ⟨rfl, rfl⟩⟩, ⟨pb, rr, vb, rfl, pb1, bb1, ps1⟩⟩
              · have h5 := h5.tup (t1.trans t2)
                have h4 := t2 _ _ (t1 _ _ h4)
                exact ⟨y, _, pb :: (rr ++ [pf]), rfl, upd_same, ⟨pb, rr, q2, ts, .ref pf, rfl, e2, hs1, B1.lr, by rw [if_pos rfl]; exact ⟨pf, rfl, rfl⟩⟩, ⟨pb, _, vb, rfl, pb1, bb1, ps1.app ⟨pf, [], vf, rfl, h4, h5, rfl⟩⟩⟩
/-! ### Reader: read_all -/
theorem ok_body (T : Txt K mg a d) : ∀ r, FnOk P w K mg base (L2.CX P w) (4 * r + 4) a.Reader_read_body d.Reader_read_body ["self", "nesting"] (spBody a r)
  | 0 => fn_noneX fun vs H Q E ⟨_, _, n, _, _, _, _, _, hn, hn8, _⟩ => by omega
  | r + 1 => ok_Reader_read_body T (r + 1) (ok_Reader_read_statement T r (ok_body T r) (ok_Reader_read_block T r (ok_body T r)) (ok_Reader_read_try T r (ok_body T r)))
def stK (fs : List Fun) : List (Key × V) := fs.map fun f => (Sum.inr f.name, .int (f.start : Int))
def bdK (fs : List Fun) (ps : List Addr) : List (Key × V) := (fs.zip ps).map fun x => (Sum.inr x.1.name, .ref x.2)
def BodyAt (H : Hp) (p : Addr) (f : Fun) : Prop := ∃ vs, H p = some (.tup vs) ∧ BAt H f.body vs
theorem BodyAt.tup {H H' : Hp} {p : Addr} {f : Fun} (e : TupK H H') (h : BodyAt H p f) : BodyAt H' p f := by
  obtain ⟨vs, h1, h2⟩ := h
  exact ⟨vs, e _ _ h1, h2.tup e⟩
abbrev FrA (L : RA) (H H' : Hp) : Prop := Kp (fun b => b = L.x ∨ b = L.ml ∨ b = L.sd ∨ b = L.bd) H H'
theorem FrA.of {L : RA} {H H' : Hp} (f : FrR L H H') : FrA L H H' := f.mono fun b h => h.elim .inl fun h => .inr (.inl h)
structure AllI (a : Ad) (L : RA) (rows : List Row) (H0 H : Hp) (fs : List Fun) (ps : List Addr) (i : Nat) (mk : List Mk) : Prop where
  f : FrA L H0 H
  I : RdAt a H L rows i mk
  lm : mk.length ≤ i
  sd : H L.sd = some (.dK (stK fs))
  bd : H L.bd = some (.dK (bdK fs ps))
  nd : L.sd ≠ L.bd
  bs : A2 (BodyAt H) ps fs
  nn : (fs.map (·.name)).Nodup
  lf : fs.length ≤ i
def outA (a : Ad) (L : RA) (rows : List Row) (H : Hp) (Q : VK) (E : XK) : Rs (List Fun) → Prop
  | .err l => ∀ H', FrA L H H' → errQ a.BadLibrary ef_BadLibrary [.int (l : Int)] H' E
  | .ok fs j mk => ∀ H' ps, AllI a L rows H H' fs ps j mk → Q .non H'
def spAll (a : Ad) : Sp := fun vs H Q E => ∃ (L : RA) (rows : List Row) (k : Nat) (res : Rs (List Fun)), vs = [.ref L.x] ∧ RdAt a H L rows 0 [] ∧ H L.sd = some (.dK []) ∧ H L.bd = some (.dK []) ∧ L.sd ≠ L.bd ∧ rdAll rows k 0 [] [] = some res ∧ outA a L rows H Q E res
theorem valV_none {kvs : List (Key × V)} {k : Key} (h : k ∉ kvs.map (·.1)) : valV kvs k = none := by
  cases e : valV kvs k with
  | none => rfl
  | some v =>
    exfalso
    apply h
    unfold valV at e
    cases q : kvs.find? (fun kv => decide (kv.1 = k)) with
    | none => rw [q] at e; cases e
    | some p =>
      have := List.find?_some q
      rw [← of_decide_eq_true this]
      exact List.mem_map_of_mem (List.mem_of_find?_eq_some q)
theorem valV_some {kvs : List (Key × V)} {k : Key} (h : k ∈ kvs.map (·.1)) : (valV kvs k).isSome = true := by
  obtain ⟨p, hp, rfl⟩ := List.mem_map.mp h
  unfold valV
  rw [Option.isSome_map]
  exact List.find?_isSome.mpr ⟨p, hp, decide_eq_true rfl⟩
theorem putK_last {kvs : List (Key × V)} {k : Key} {v v' : V} (h : k ∉ kvs.map (·.1)) : putK (kvs ++ [(k, v)]) k v' = kvs ++ [(k, v')] := by
  have e : kvs.map (fun kv => if kv.1 = k then (kv.1, v') else kv) = kvs := by
    have : kvs.map (fun kv => if kv.1 = k then (kv.1, v') else kv) = kvs.map id := List.map_congr_left fun p hp => by
      rw [if_neg (fun e => h (by rw [← e]; exact List.mem_map_of_mem hp))]; rfl
    rw [this, List.map_id]
  unfold putK
  rw [if_pos (by rw [List.any_append]; simp), List.map_append, e]
  simp
theorem stK_keys (fs : List Fun) : (stK fs).map (·.1) = (fs.map (·.name)).map Sum.inr := by
  unfold stK
  rw [List.map_map, List.map_map]; rfl
theorem bdK_keys {fs : List Fun} {ps : List Addr} (h : ps.length = fs.length) : (bdK fs ps).map (·.1) = (fs.map (·.name)).map Sum.inr := by
  unfold bdK
  have e : (fs.zip ps).map Prod.fst = fs := List.map_fst_zip (by omega)
  have : ((fs.zip ps).map fun x => ((Sum.inr x.1.name : Key), V.ref x.2)).map (·.1) = ((fs.zip ps).map Prod.fst).map fun f => (Sum.inr f.name : Key) := by
    rw [List.map_map, List.map_map]; rfl
  rw [this, e, List.map_map]; rfl
theorem inr_mem {z : Str} {l : List Str} : (Sum.inr z : Key) ∈ l.map Sum.inr ↔ z ∈ l := by
  simp
theorem LK.dk {m D : Addr} {H : Hp} {kvs : List (Key × V)} {o : HO} (h : H D = some (.dK kvs)) : LK m H (upd H D o) :=
  ⟨fun b l e => upd_oth (fun z => by rw [z, h] at e; cases e) e, fun b l _ e => upd_oth (fun z => by rw [z, h] at e; cases e) e⟩
theorem RdAt.dict {a : Ad} {H : Hp} {L : RA} {rows : List Row} {i : Nat} {mk : List Mk} {D : Addr} {kvs : List (Key × V)} {o : HO} (h : RdAt a H L rows i mk) (hd : H D = some (.dK kvs)) : RdAt a (upd H D o) L rows i mk := by
  obtain ⟨vs, h1, h2⟩ := h.rw_
  obtain ⟨ms, h3, h4⟩ := h.mk_
  have n1 : L.x ≠ D := fun z => by have := h.ob; rw [z, hd] at this; cases this
  have n2 : L.rl ≠ D := fun z => by rw [z, hd] at h1; cases h1
  have n3 : L.ml ≠ D := fun z => by rw [z, hd] at h3; cases h3
  exact ⟨upd_oth n1 h.ob, ⟨vs, upd_oth n2 h1, h2.imp fun _ _ r => r.lk (LK.dk hd)⟩, ⟨ms, upd_oth n3 h3, h4.imp fun _ _ r => (LK.dk (m := L.ml) hd).1 _ _ r⟩, h.ne, h.le, h.ln⟩
theorem AllI.same {a : Ad} {L : RA} {rows : List Row} {H0 H H' : Hp} {fs : List Fun} {ps : List Addr} {i : Nat} {mk : List Mk} (s : Same H H') (B : AllI a L rows H0 H fs ps i mk) : AllI a L rows H0 H' fs ps i mk :=
  ⟨B.f.trans (Kp.of_same s), B.I.same s, B.lm, s _ _ B.sd, s _ _ B.bd, B.nd, B.bs.imp fun _ _ r => r.tup (TupK.of_same s), B.nn, B.lf⟩
theorem ok_Reader_read_all (T : Txt K mg a d) : FnOk P w K mg base (L2.CX P w) 40 a.Reader_read_all d.Reader_read_all ["self"] (spAll a) := by
  have G_Reader_wrong_if : FnOk P w K mg base (L2.CX P w) 3 a.Reader_wrong_if d.Reader_wrong_if ["self", "is_wrong"] (spWrong a) := ok_Reader_wrong_if T
  have G_Reader_words_at : FnOk P w K mg base CX0 1 a.Reader_words_at d.Reader_words_at ["self", "nesting"] (spWat a) := ok_Reader_words_at T
  have G_Reader_read_body : FnOk P w K mg base (L2.CX P w) 36 a.Reader_read_body d.Reader_read_body ["self", "nesting"] (spBody a 8) := ok_body T 8
  refine T.Reader_read_all.okX sc_Reader_read_all (fun vs H Q E h => ?_) (fun cdv A outer s H vs Q E hr h => ?_)
  · obtain ⟨L, rows, k, res, rfl, _⟩ := h
    rfl
  · obtain ⟨L, rows, k, res, rfl, I, hsd, hbd, nsb, hk, out⟩ := h
    have c1 := T.k_Reader
    have n1 := T.na_Reader_at
    have n2 := T.na_Reader_rows
    have n3 := T.na_Reader_starts
    have n4 := T.na_Reader_bodies
    refine ⟨_, (pss_one (ps_while (passes_of rfl) (pt_cmpR op_lt (pe_fld (pv 0) rfl) (pe_callB call_len_seq (by rfl) T.n_len PySem.boot_len (pa_cons (pe_fld (pv 0) rfl) pa_nil)) (nomark _))
  (pss_cons (ps_set (i := 1) sc_Reader_read_all.nd rfl (Or.inl rfl) (pe_meth (pv 0) T.k_Reader T.m_Reader_words_at G_Reader_words_at (hr.mono (by omega)) T.b_Reader_words_at .nil pass0 (pa_cons pe_int pa_nil)))
  (C8.pss_cut (ps_expr (pe_meth (pv 0) T.k_Reader T.m_Reader_wrong_if G_Reader_wrong_if (hr.mono (by omega)) T.b_Reader_wrong_if .nil (passes_call (takes_of rfl rfl rfl rfl) (fun _ _ _ _ h => h)) (pa_cons (pe_or (pe_cmpR op_ne (pe_callB call_len_seq (by rfl) T.n_len PySem.boot_len (pa_cons (pv 1) pa_nil)) pe_int (nomark _)) (pe_or (pe_cmpR op_ne (pe_ix ix_list (pv 1) pe_int (fun _ _ => rfl)) pe_str (nomark _)) (pe_one (pe_cmp (pc_din (hu_of hr) (pe_ix ix_list (pv 1) pe_int (fun _ _ => rfl)) (pe_fld (pv 0) rfl)))))) pa_nil)))
  (pss_cons (ps_set (i := 2) sc_Reader_read_all.nd rfl (Or.inl rfl) (pe_ix ix_list (pv 1) pe_int (fun _ _ => rfl)))
  (pss_cons (ps_dput (hu_of hr) (pe_fld (pv 0) rfl) (pv 2) (pe_fld (pv 0) rfl) rfl)
  (pss_cons (ps_fldaug (pv 0) pe_int in_add)
  (pss_cons (ps_dput (hu_of hr) (pe_fld (pv 0) rfl) (pv 2) (pe_tup pa_nil) rfl)
  (pss_one (ps_dput (hu_of hr) (pe_fld (pv 0) rfl) (pv 2) (pe_meth (pv 0) T.k_Reader T.m_Reader_read_body G_Reader_read_body (hr.mono (by omega)) T.b_Reader_read_body .nil (passes_call (takes_of rfl rfl rfl rfl) (fun _ _ _ _ h => h)) (pa_cons pe_int pa_nil)) rfl)))))))))), ?_⟩
    try dsimp only [cxOf]
    have hwa : ∀ i, List.lookup ("words_at" : Str) (rdF L i) = none := fun _ => rfl
    have hwr : ∀ i, List.lookup ("wrong_if" : Str) (rdF L i) = none := fun _ => rfl
    have hws : ∀ i, List.lookup ("read_body" : Str) (rdF L i) = none := fun _ => rfl
    have hat : ∀ i : Nat, List.lookup ("at" : Str) (rdF L i) = some (.int (i : Int)) := fun _ => rfl
    refine ⟨fun m σ' H' => ∃ (_ : Unit) (fs : List Fun) (ps : List Addr) (i : Nat) (mk : List Mk) (v1 v2 : Option V), AllI a L rows H H' fs ps i mk ∧ rdAll rows m i mk fs = some res ∧ σ' = [some (.ref L.x), v1, v2], ⟨k, (), [], [], 0, [], none, none, ⟨Kp.refl, I, Nat.le_refl _, hsd, hbd, nsb, .nil, .nil, Nat.le_refl _⟩, hk, rfl⟩, ?_⟩
    rintro m σ' H' ⟨_, fs, ps, i, mk, v1, v2, B, hk, rfl⟩
    cases m with
    | zero => rw [rdAll] at hk; cases hk
    | succ m =>
    rw [rdAll] at hk
    have ho := B.I.ob
    obtain ⟨us, hrl, hrows⟩ := B.I.rw_
    have lus := hrows.len
    walk_at "rd"
    refine ite2 (fun c0 => ?_) (fun c0 => ?_)
    · have li : i < rows.length := by have := of_decide_eq_true c0; omega
      rw [if_pos li] at hk
      refine ⟨fun σ' H' => ∃ (_ : Unit) (fs : List Fun) (ps : List Addr) (i : Nat) (mk : List Mk) (v1 v2 : Option V), AllI a L rows H H' fs ps i mk ∧ rdAll rows m i mk fs = some res ∧ σ' = [some (.ref L.x), v1, v2], fun σ' H' h => ⟨m, Nat.lt_succ_self m, h⟩, ?_⟩
      have g1 := hwa i
      walk_at "rd"
      refine ⟨L, rows, 0, i, mk, rfl, B.I, fun H3 l s3 hl nl => ?_⟩
      have B3 := B.same s3
      obtain ⟨iw, lw⟩ := wordsAt_ok B.I.ln (n := 0) (i := i)
      refine ⟨fun σ' H' => H' = H3 ∧ ¬ ((wordsAt rows 0 i).length ≠ 2 ∨ fstW (wordsAt rows 0 i) ≠ "function" ∨ (wordsAt rows 0 i).getD 1 "" ∈ fs.map (·.name)) ∧ σ' = [some (.ref L.x), some (.ref l), v2], ?_, ?_⟩
      · have ho3 := B3.I.ob
        have g2 := hwr i
        have hl3 := hl
        have wrong : ((wordsAt rows 0 i).length ≠ 2 ∨ fstW (wordsAt rows 0 i) ≠ "function" ∨ (wordsAt rows 0 i).getD 1 "" ∈ fs.map (·.name)) → errQ a.BadLibrary ef_BadLibrary [.int (i : Int)] H3 E := fun hc => by
          rw [if_pos hc] at hk
          cases hk
          exact out H3 B3.f
        have hbd3 := B3.bd
        have lbs := B3.bs.len
        walk_at "rd"
        rw [show (!decide (V.int (((wordsAt rows 0 i).map V.str).length : Int) = V.int 2)) = !decide ((wordsAt rows 0 i).length = 2) from len_ne _ 2]
        by_cases e1 : (wordsAt rows 0 i).length = 2
        · rw [decide_eq_true e1]
          refine iteF ?_
          have w0 := at_str (ws := wordsAt rows 0 i) (j := 0) (by omega)
          have w1 := at_str (ws := wordsAt rows 0 i) (j := 1) (by omega)
          rw [show (wordsAt rows 0 i).getD 0 "" = fstW (wordsAt rows 0 i) from rfl] at w0
          walk_at "rd"
          by_cases e2 : fstW (wordsAt rows 0 i) = "function"
          · rw [decide_eq_true (show V.str (fstW (wordsAt rows 0 i)) = V.str "function" by rw [e2])]
            refine iteF ?_
            walk_at "rd"
            refine ⟨_, rfl, DGet.k (k := Sum.inr ((wordsAt rows 0 i).getD 1 "")) hbd3, ?_⟩
            by_cases e3 : (wordsAt rows 0 i).getD 1 "" ∈ fs.map (·.name)
            · rw [valV_some (by rw [bdK_keys lbs]; exact inr_mem.mpr e3)]
              walk_at "rd"
              exact ⟨fun _ => wrong (.inr (.inr e3)), fun e => by cases e⟩
            · rw [valV_none (by rw [bdK_keys lbs]; exact fun z => e3 (inr_mem.mp z))]
              walk_at "rd"
              exact ⟨fun e => (by cases e), fun _ => ⟨rfl, by rintro (z | z | z); exact z e1; exact z e2; exact e3 z, rfl⟩⟩
          · rw [decide_eq_false (fun z => e2 (V.str.inj z))]
            refine iteT ?_
            walk_at "rd"
            exact ⟨fun _ => wrong (.inr (.inl e2)), fun e => by cases e⟩
        · rw [decide_eq_false e1]
          refine iteT ?_
          walk_at "rd"
          exact ⟨fun _ => wrong (.inl e1), fun e => by cases e⟩
      · rintro σ' _ ⟨rfl, hc, rfl⟩
        rw [if_neg hc] at hk
        rename_i H3
        have e1 : (wordsAt rows 0 i).length = 2 := Decidable.byContradiction fun e => hc (.inl e)
        have nm : (wordsAt rows 0 i).getD 1 "" ∉ fs.map (·.name) := fun e => hc (.inr (.inr e))
        have w1 := at_str (ws := wordsAt rows 0 i) (j := 1) (by omega)
        have ho3 := B3.I.ob
        have hsd3 := B3.sd
        have lf := B3.lf
        have lr := B3.I.ln.1
        have lbs := B3.bs.len
        have lsk : (stK fs).length < sizeLine := by unfold stK; rw [List.length_map, sizeLine_eq]; omega
        generalize (wordsAt rows 0 i).getD 1 "" = nm1 at nm w1 hk
        have lbk : (bdK fs ps).length < sizeLine := by unfold bdK; rw [List.length_map, List.length_zip, sizeLine_eq]; omega
        have ns : (Sum.inr nm1 : Key) ∉ (stK fs).map (·.1) := by rw [stK_keys]; exact fun z => nm (inr_mem.mp z)
        have nb : (Sum.inr nm1 : Key) ∉ (bdK fs ps).map (·.1) := by rw [bdK_keys lbs]; exact fun z => nm (inr_mem.mp z)
        have nxs : L.x ≠ L.sd := fun z => by rw [z, hsd3] at ho3; cases ho3
        have nxb : L.x ≠ L.bd := fun z => by have := B3.bd; rw [← z, ho3] at this; cases this
        walk_at "rd"
        refine ⟨_, rfl, DPut.k (k := Sum.inr nm1) hsd3 lsk, ?_⟩
        rw [putK_new _ (valV_none ns)]
        have I4 := B3.I.dict (o := .dK (stK fs ++ [(Sum.inr nm1, .int (i : Int))])) hsd3
        have f4 : FrA L H (upd H3 L.sd (.dK (stK fs ++ [(Sum.inr nm1, .int (i : Int))]))) := B3.f.set (.inr (.inr (.inl rfl)))
        have t4 : TupK H3 (upd H3 L.sd (.dK (stK fs ++ [(Sum.inr nm1, .int (i : Int))]))) := (LK.dk (m := L.ml) hsd3).1
        have sd4 := upd_same (H := H3) (a := L.sd) (o := .dK (stK fs ++ [(Sum.inr nm1, .int (i : Int))]))
        have bd4 := upd_oth (o := .dK (stK fs ++ [(Sum.inr nm1, .int (i : Int))])) (Ne.symm B3.nd) B3.bd
        generalize upd H3 L.sd (.dK (stK fs ++ [(Sum.inr nm1, .int (i : Int))])) = H4 at I4 f4 t4 sd4 bd4 ⊢
        have ho4 := I4.ob
        walk_at "rd"
        rw [show putF "at" (.int ((i : Int) + 1)) (rdF L i) = rdF L (i + 1) from rfl]
        have I5 := I4.move li
        have f5 := f4.set (o := .ins a.Reader L.dx (rdF L (i + 1))) (.inl rfl : L.x = L.x ∨ L.x = L.ml ∨ L.x = L.sd ∨ L.x = L.bd)
        have t5 := t4.trans (LK.ins (m := L.ml) (o := .ins a.Reader L.dx (rdF L (i + 1))) ho4).1
        have sd5 := upd_oth (o := .ins a.Reader L.dx (rdF L (i + 1))) (Ne.symm nxs) sd4
        have bd5 := upd_oth (o := .ins a.Reader L.dx (rdF L (i + 1))) (Ne.symm nxb) bd4
        generalize upd H4 L.x (.ins a.Reader L.dx (rdF L (i + 1))) = H5 at I5 f5 t5 sd5 bd5 ⊢
        intro e he
        have s6 := (Same.refl H5).new (o := .tup []) he
        have I6 := I5.same s6
        have f6 := f5.trans (Kp.of_same s6)
        have t6 := t5.trans (TupK.of_same s6)
        have sd6 := s6 _ _ sd5
        have bd6 := s6 _ _ bd5
        generalize upd H5 e (.tup []) = H6 at I6 f6 t6 sd6 bd6 ⊢
        have ho6 := I6.ob
        walk_at "rd"
        refine ⟨_, rfl, DPut.k (k := Sum.inr nm1) bd6 lbk, ?_⟩
        rw [putK_new _ (valV_none nb)]
        have I7 := I6.dict (o := .dK (bdK fs ps ++ [(Sum.inr nm1, .ref e)])) bd6
        have f7 : FrA L H (upd H6 L.bd (.dK (bdK fs ps ++ [(Sum.inr nm1, .ref e)]))) := f6.set (.inr (.inr (.inr rfl)))
        have t7 := t6.trans (LK.dk (m := L.ml) (o := .dK (bdK fs ps ++ [(Sum.inr nm1, .ref e)])) bd6).1
        have sd7 := upd_oth (o := .dK (bdK fs ps ++ [(Sum.inr nm1, .ref e)])) B3.nd sd6
        have bd7 := upd_same (H := H6) (a := L.bd) (o := .dK (bdK fs ps ++ [(Sum.inr nm1, .ref e)]))
        generalize upd H6 L.bd (.dK (bdK fs ps ++ [(Sum.inr nm1, .ref e)])) = H7 at I7 f7 t7 sd7 bd7 ⊢
        have ho7 := I7.ob
        have g7 := hws (i + 1)
        walk_at "rd"
        cases hrb : rdB rows m 1 (i + 1) mk with
        | none => rw [hrb] at hk; cases hk
        | some rb =>
          rw [hrb] at hk
          refine ⟨L, rows, 1, i + 1, mk, m, rb, rfl, rfl, by omega, I7, by have := B3.lm; omega, hrb, ?_⟩
          cases rb with
          | err le =>
            cases hk
            exact fun H' f' => out H' (f7.trans (FrA.of f'))
          | ok b j mk1 =>
            intro H8 pb vb f8 I8 hpb hbb
            obtain ⟨lj, lmk⟩ := (rd_le rows m).1 _ _ _ _ _ _ hrb
            have ho8 := I8.ob
            obtain ⟨ms7, hm7, _⟩ := I7.mk_
            have keep : ∀ b o, H7 b = some o → (∀ C dx l, o ≠ .ins C dx l) → (∀ l, o ≠ .lst l) → H8 b = some o := fun b o e n1 n2 => f8 _ _ e (by
              rintro (z | z)
              · rw [z, ho7] at e; cases e; exact n1 _ _ _ rfl
              · rw [z, hm7] at e; cases e; exact n2 _ rfl)
            have sd8 := keep _ _ sd7 (fun _ _ _ z => by cases z) (fun _ z => by cases z)
            have bd8 := keep _ _ bd7 (fun _ _ _ z => by cases z) (fun _ z => by cases z)
            have t8 : TupK H7 H8 := fun b l e => keep _ _ e (fun _ _ _ z => by cases z) (fun _ z => by cases z)
            have lbk8 : (bdK fs ps ++ [((Sum.inr nm1 : Key), V.ref e)]).length < sizeLine := by
              unfold bdK
              rw [List.length_append, List.length_map, List.length_zip, sizeLine_eq]
              simp only [List.length_cons, List.length_nil]
              omega
            walk_at "rd"
            refine ⟨_, rfl, DPut.k (k := Sum.inr nm1) bd8 lbk8, ?_⟩
            rw [putK_last nb]
            have I9 := I8.dict (o := .dK (bdK fs ps ++ [(Sum.inr nm1, .ref pb)])) bd8
            have f9 : FrA L H (upd H8 L.bd (.dK (bdK fs ps ++ [(Sum.inr nm1, .ref pb)]))) := (f7.trans (FrA.of f8)).set (.inr (.inr (.inr rfl)))
            have t9 := (LK.dk (m := L.ml) (o := .dK (bdK fs ps ++ [(Sum.inr nm1, .ref pb)])) bd8).1
            refine ⟨(), fs ++ [⟨nm1, i, b⟩], ps ++ [pb], j, mk1, _, _, ⟨f9, I9, by have := B3.lm; omega, ?_, ?_, B3.nd, ?_, ?_, ?_⟩, hk, rfl⟩
            · rw [upd_oth B3.nd sd8]; unfold stK; rw [List.map_append]; rfl
            · rw [upd_same]; unfold bdK; rw [List.zip_append lbs.symm, List.map_append]; rfl
            · exact ((B3.bs.imp fun _ _ r => r.tup (t7.trans (t8.trans t9)))).app (.cons ⟨vb, t9 _ _ hpb, hbb.tup t9⟩ .nil)
            · rw [List.map_append]
              refine List.nodup_append.mpr ⟨B3.nn, by simp, fun x hx y hy e => ?_⟩
              have hy : y = nm1 := by simpa using hy
              exact nm (hy ▸ e ▸ hx)
            · rw [List.length_append]; simp only [List.length_cons, List.length_nil]; omega
    · rw [if_neg (fun e => c0 (decide_eq_true (by omega)))] at hk
      cases hk
      exact out H' ps B
/-! ### Reader(lines) -/
theorem RowAt.re {m q : Addr} {H : Hp} {v : V} {r : Row} (h : RowAt m H v r) (hq : H q = none) : RowAt q H v r := by
  cases r with
  | none => exact h
  | some p =>
    obtain ⟨t, l, h1, h2, h3, _⟩ := h
    exact ⟨t, l, h1, h2, h3, ne_of_none h3 hq⟩
theorem RowAt.same {m : Addr} {H H' : Hp} {v : V} {r : Row} (e : Same H H') (h : RowAt m H v r) : RowAt m H' v r := h.lk (LK.of_same e)
theorem rowsOk {zs : List Str} (h : ∀ z ∈ zs, LineOk z) (l : zs.length ≤ 100000) : RowsOk (zs.map rowOf) := by
  refine ⟨by rw [List.length_map]; exact l, fun n ws hm => ?_⟩
  obtain ⟨z, hz, e⟩ := List.mem_map.mp hm
  unfold rowOf at e
  split at e
  · cases e
  · rename_i c
    cases e
    have c2 : (wordsN z).all wordS = true := by
      cases q : (wordsN z).all wordS with
      | true => rfl
      | false => exact absurd (.inr q) c
    exact ⟨fun w hw => wordS_of (List.all_eq_true.mp c2 w hw), (h z hz).wl⟩
structure RdNew (a : Ad) (H : Hp) (L : RA) (rows : List Row) : Prop where
  I : RdAt a H L rows 0 []
  sd : H L.sd = some (.dK [])
  bd : H L.bd = some (.dK [])
  nd : L.sd ≠ L.bd
def spRdI (a : Ad) : Sp := fun vs H Q _ => ∃ (x dx p : Addr) (zs : List Str), vs = [.ref x, .ref p] ∧ H x = some (.ins a.Reader dx []) ∧ H p = some (.lst (zs.map V.str)) ∧ (∀ z ∈ zs, LineOk z) ∧ zs.length ≤ 100000 ∧
  ∀ H' L, RdNew a H' L (zs.map rowOf) → L.x = x → Kp (fun b => b = x) H H' → H L.ml = none → H L.sd = none → H L.bd = none → Q .non H'
structure IniI (a : Ad) (H G : Hp) (x dx D : Addr) (fs : List (Str × V)) (us : List V) (rows : List Row) : Prop where
  gx : G x = some (.ins a.Reader dx fs)
  hD : G D = some (.lst us)
  nn : H D = none
  nx : D ≠ x
  ha : A2 (RowAt D G) us rows
  k : Kp (fun b => b = x) H G
theorem IniI.set {a : Ad} {H G : Hp} {x dx D : Addr} {fs fs' : List (Str × V)} {us : List V} {rows : List Row} (B : IniI a H G x dx D fs us rows) : IniI a H (upd G x (.ins a.Reader dx fs')) x dx D fs' us rows :=
  ⟨upd_same, upd_oth B.nx B.hD, B.nn, B.nx, B.ha.imp fun _ _ r => r.lk (LK.ins B.gx), B.k.set1⟩
theorem IniI.new {a : Ad} {H G : Hp} {x dx D q : Addr} {o : HO} {fs : List (Str × V)} {us : List V} {rows : List Row} (B : IniI a H G x dx D fs us rows) (h : G q = none) : IniI a H (upd G q o) x dx D fs us rows :=
  ⟨upd_old B.gx h, upd_old B.hD h, B.nn, B.nx, B.ha.imp fun _ _ r => r.same ((Same.refl _).new h), B.k.new h⟩
theorem Kp.none {S : Addr → Prop} {H G : Hp} {q : Addr} (k : Kp S H G) (hs : ¬ S q) (h : G q = none) : H q = none := by
  cases e : H q with
  | none => rfl
  | some o => have := k q o e hs; rw [h] at this; cases this
theorem ok_ReaderU_initU (T : Txt K mg a d) : FnOk P w K mg base CX0 3 a.ReaderU_initU d.ReaderU_initU ["self", "lines"] (spRdI a) := by
  have G_split_line : FnOk P w K mg base CX0 2 a.split_line d.split_line ["line"] spSplit := ok_split_line T
  refine T.ReaderU_initU.ok sc_ReaderU_initU (fun vs H Q E h => ?_) (fun cdv A outer s H vs Q E hr h => ?_)
  · obtain ⟨x, dx, p, zs, rfl, _⟩ := h
    rfl
  · obtain ⟨x, dx, p, zs, rfl, hx, hp, hz, lz, k⟩ := h
    have c1 := T.k_Reader
    have n1 := T.na_Reader_rows
    have n2 := T.na_Reader_at
    have n3 := T.na_Reader_starts
    have n4 := T.na_Reader_bodies
    have n5 := T.na_Reader_marks
    refine ⟨_, (pss_cons (ps_fld (pv 0) (pe_lc (own := [("line", 2)]) (tt := tYes) rfl sc_ReaderU_initU.nd (pi_list (pv 1)) (blkOk_by (own := [("line", 2)]) (N := ["self", "lines", "line"]) (sc := defScope s_ReaderU_initU) (by decide +kernel)) (fun _ _ _ _ _ => (pg_name (i := 2) sc_ReaderU_initU.nd rfl (Or.inl rfl))) (fun _ _ _ _ _ => pts_nil) (fun _ _ _ _ _ => (pe_call G_split_line (hr.mono (by omega)) (by rfl) T.g_split_line T.split_line.kp T.b_split_line .nil pass0 (pa_cons (pv 2) pa_nil)))) rfl)
  (pss_cons (ps_fld (pv 0) pe_int rfl)
  (pss_cons (ps_fld (pv 0) pe_dnewK rfl)
  (pss_cons (ps_fld (pv 0) pe_dnewK rfl)
  (pss_one (ps_fld (pv 0) (pe_lst pa_nil) rfl)))))), ?_⟩
    dsimp only [cxOf]
    walk_at "rd"
    refine ⟨⟨_, SqL.of hp⟩, fun D hD => ?_⟩
    have nDx : D ≠ x := Ne.symm (ne_of_none hx hD)
    refine lc_list (xs := zs.map V.str) (fun i G => ∃ us : List V, Same H G ∧ G D = some (.lst us) ∧ us.length = i ∧ A2 (RowAt D G) us ((zs.take i).map rowOf)) ?_ ?_ ?_ ?_
    · exact ⟨[], (Same.refl _).new hD, upd_same, rfl, .nil⟩
    · rintro i G _ ⟨us, s1, _⟩
      exact SqL.of (s1 _ _ hp)
    · rintro i v G hv ⟨us, s1, hG, lu, ha⟩
      obtain ⟨z, hzi, rfl⟩ : ∃ z, zs[i]? = some z ∧ v = V.str z := by
        rw [List.getElem?_map] at hv
        cases q : zs[i]? with
        | none => rw [q] at hv; cases hv
        | some z => rw [q] at hv; cases hv; exact ⟨z, rfl, rfl⟩
      have li : i < zs.length := (List.getElem?_eq_some_iff.mp hzi).1
      refine ⟨rfl, ?_⟩
      walk_at "rd"
      refine ⟨hz z (List.mem_of_getElem? hzi), fun G' v s2 hv => ?_⟩
      have hG' := s2 _ _ hG
      refine ⟨us, hG', by rw [sizeLine_eq]; omega, us ++ [v], (s1.trans s2).frsh hD, upd_same, by rw [List.length_append, lu]; rfl, ?_⟩
      have lk := LK.lst (o := .lst (us ++ [v])) hG'
      rw [List.take_add_one, hzi, List.map_append]
      exact (ha.imp fun _ _ r => (r.same s2).lk lk).app (.cons ((hv D (by rw [hG]; simp)).lk lk) .nil)
    · rintro G ⟨us, s1, hG, lu, ha⟩
      rw [List.length_map, List.take_length] at ha
      have gx := s1 _ _ hx
      have k1 : Kp (fun b => b = x) H G := Kp.of_same s1
      have B0 : IniI a H G x dx D [] us (zs.map rowOf) := ⟨gx, hG, hD, nDx, ha, k1⟩
      walk_at "rd"
      rw [upd_upd]
      have B1 := B0.set (fs' := [("rows", .ref D), ("at", .int 0)])
      rw [show putF "at" (V.int 0) (putF "rows" (V.ref D) []) = ([("rows", .ref D), ("at", .int 0)] : List (Str × V)) from rfl]
      generalize upd G x (.ins a.Reader dx [("rows", .ref D), ("at", .int 0)]) = H1 at B1 ⊢
      have g1 := B1.gx
      walk_at "rd"
      intro sd hsd
      have B2 := B1.new (o := .dK []) hsd
      have nsd := B1.k.none (fun z => by rw [z, g1] at hsd; cases hsd) hsd
      have xsd : sd ≠ x := fun z => by rw [z, g1] at hsd; cases hsd
      have Dsd : sd ≠ D := fun z => by rw [z, B1.hD] at hsd; cases hsd
      have s2 := upd_same (H := H1) (a := sd) (o := .dK [])
      generalize upd H1 sd (.dK []) = H2 at B2 s2 ⊢
      have g2 := B2.gx
      walk_at "rd"
      intro bd hbd
      have B3 := B2.set (fs' := [("rows", .ref D), ("at", .int 0), ("starts", .ref sd)])
      rw [show putF "starts" (V.ref sd) ([("rows", .ref D), ("at", .int 0)] : List (Str × V)) = ([("rows", .ref D), ("at", .int 0), ("starts", .ref sd)] : List (Str × V)) from rfl] at hbd ⊢
      have s3 := upd_oth (o := .ins a.Reader dx [("rows", .ref D), ("at", .int 0), ("starts", .ref sd)]) xsd s2
      generalize upd H2 x (.ins a.Reader dx [("rows", .ref D), ("at", .int 0), ("starts", .ref sd)]) = H3 at B3 s3 hbd ⊢
      have B4 := B3.new (o := .dK []) hbd
      have xbd : bd ≠ x := fun z => by rw [z, B3.gx] at hbd; cases hbd
      have Dbd : bd ≠ D := fun z => by rw [z, B3.hD] at hbd; cases hbd
      have sbd : sd ≠ bd := ne_of_none s3 hbd
      have nbd := B3.k.none xbd hbd
      have s4 := upd_old (o := .dK []) s3 hbd
      have b4 := upd_same (H := H3) (a := bd) (o := .dK [])
      generalize upd H3 bd (.dK []) = H4 at B4 s4 b4 ⊢
      have g4 := B4.gx
      walk_at "rd"
      have B5 := B4.set (fs' := [("rows", .ref D), ("at", .int 0), ("starts", .ref sd), ("bodies", .ref bd)])
      rw [show putF "bodies" (V.ref bd) ([("rows", .ref D), ("at", .int 0), ("starts", .ref sd)] : List (Str × V)) = ([("rows", .ref D), ("at", .int 0), ("starts", .ref sd), ("bodies", .ref bd)] : List (Str × V)) from rfl]
      have s5 := upd_oth (o := .ins a.Reader dx [("rows", .ref D), ("at", .int 0), ("starts", .ref sd), ("bodies", .ref bd)]) xsd s4
      have b5 := upd_oth (o := .ins a.Reader dx [("rows", .ref D), ("at", .int 0), ("starts", .ref sd), ("bodies", .ref bd)]) xbd b4
      generalize upd H4 x (.ins a.Reader dx [("rows", .ref D), ("at", .int 0), ("starts", .ref sd), ("bodies", .ref bd)]) = H5 at B5 s5 b5 ⊢
      have g5 := B5.gx
      walk_at "rd"
      intro ml hml
      have B6 := B5.new (o := .lst []) hml
      have nml := B5.k.none (fun z => by rw [z, g5] at hml; cases hml) hml
      have xml : ml ≠ x := fun z => by rw [z, g5] at hml; cases hml
      have Dml : D ≠ ml := ne_of_none B5.hD hml
      have s6 := upd_old (o := .lst []) s5 hml
      have b6 := upd_old (o := .lst []) b5 hml
      have m6 := upd_same (H := H5) (a := ml) (o := .lst [])
      have ha6 := B5.ha.imp fun _ _ r => r.re hml
      have ha7 := ha6.imp fun _ _ r => r.same ((Same.refl _).new (o := .lst []) hml)
      have ha8 := ha7.imp fun _ _ r => r.lk (LK.ins (o := .ins a.Reader dx (rdF ⟨x, dx, D, sd, bd, ml⟩ 0)) B6.gx)
      have g6 := B6.gx
      generalize upd H5 ml (.lst []) = H6 at B6 s6 b6 m6 ha8 g6 ⊢
      walk_at "rd"
      have B7 := B6.set (fs' := rdF ⟨x, dx, D, sd, bd, ml⟩ 0)
      exact k _ ⟨x, dx, D, sd, bd, ml⟩ ⟨⟨B7.gx, ⟨us, B7.hD, ha8⟩, ⟨[], upd_oth xml m6, .nil⟩, Dml, Nat.zero_le _, rowsOk hz lz⟩, upd_oth xsd s6, upd_oth xbd b6, sbd⟩ rfl B7.k nml nsd nbd
/-! ### the statements of a body; parts_of -/
def Stm.hd : Stm → Hd | .mk h _ => h
def Stm.ps : Stm → List (List Stm) | .mk _ ps => ps
def isG : Hd → Bool | .gua _ => true | _ => false
mutual
def lsS (g : Bool) : Stm → List (Stm × Bool)
  | .mk h ps => (.mk h ps, g) :: lsP (g || isG h) ps
def lsP (g : Bool) : List (List Stm) → List (Stm × Bool)
  | [] => []
  | b :: r => lsB g b ++ lsP g r
def lsB (g : Bool) : List Stm → List (Stm × Bool)
  | [] => []
  | s :: r => lsS g s ++ lsB g r
end
mutual
def dpS : Stm → Nat
  | .mk _ ps => dpP ps + 1
def dpP : List (List Stm) → Nat
  | [] => 0
  | b :: r => max (dpB b) (dpP r)
def dpB : List Stm → Nat
  | [] => 0
  | s :: r => max (dpS s) (dpB r)
end
def HdOk : Hd → Prop
  | .sim w => w ∈ (["pass", "doom"] : List Str)
  | .one k w => k ∈ (["write", "raise", "call"] : List Str) ∧ IsWord w
  | .blk _ m ks => modeS m = true ∧ ∀ w ∈ ks, IsWord w
  | .gua k => k ∈ (["maybe", "repeat"] : List Str)
  | .tr ws _ => ∀ l, some l ∈ ws → ∀ w ∈ l, IsWord w
def BOk (b : List Stm) : Prop := ∀ g x, x ∈ lsB g b → HdOk x.1.hd
def kdS : Hd → Str
  | .sim w => w
  | .one k _ => k
  | .blk _ _ _ => "block"
  | .gua k => k
  | .tr _ _ => "try"
theorem HdAt.fst {H : Hp} : ∀ {h : Hd} {rs : List Addr} {xs : List V}, HdAt H h rs xs → ∃ t, xs = .str (kdS h) :: t
  | .sim _, _, _, ⟨_, e⟩ => ⟨_, e⟩
  | .one _ _, _, _, ⟨_, e⟩ => ⟨_, e⟩
  | .blk _ _ _, _, _, ⟨_, _, _, e, _⟩ => ⟨_, e⟩
  | .gua _, _, _, ⟨_, _, e⟩ => ⟨_, e⟩
  | .tr _ _, _, _, ⟨_, _, _, _, _, e, _⟩ => ⟨_, e⟩
theorem in3 {k : Str} (h : k ∈ (["write", "raise", "call"] : List Str)) : k = "write" ∨ k = "raise" ∨ k = "call" := by simpa using h
theorem in2 {k : Str} (h : k ∈ (["pass", "doom"] : List Str)) : k = "pass" ∨ k = "doom" := by simpa using h
theorem inG {k : Str} (h : k ∈ (["maybe", "repeat"] : List Str)) : k = "maybe" ∨ k = "repeat" := by simpa using h
theorem HdOk.blk : ∀ {h : Hd}, HdOk h → kdS h = "block" → ∃ n m ks, h = .blk n m ks
  | .sim w, o, e => by rcases in2 o with z | z <;> (rw [show kdS (.sim w) = w from rfl, z] at e; exact absurd e (by decide))
  | .one k w, o, e => by rcases in3 o.1 with z | z | z <;> (rw [show kdS (.one k w) = k from rfl, z] at e; exact absurd e (by decide))
  | .blk _ _ _, _, _ => ⟨_, _, _, rfl⟩
  | .gua k, o, e => by rcases inG o with z | z <;> (rw [show kdS (.gua k) = k from rfl, z] at e; exact absurd e (by decide))
  | .tr _ _, _, e => by rw [show kdS (.tr _ _) = "try" from rfl] at e; exact absurd e (by decide)
theorem HdOk.tr : ∀ {h : Hd}, HdOk h → kdS h = "try" → ∃ ws fin, h = .tr ws fin
  | .sim w, o, e => by rcases in2 o with z | z <;> (rw [show kdS (.sim w) = w from rfl, z] at e; exact absurd e (by decide))
  | .one k w, o, e => by rcases in3 o.1 with z | z | z <;> (rw [show kdS (.one k w) = k from rfl, z] at e; exact absurd e (by decide))
  | .blk _ _ _, _, e => by rw [show kdS (.blk _ _ _) = "block" from rfl] at e; exact absurd e (by decide)
  | .gua k, o, e => by rcases inG o with z | z <;> (rw [show kdS (.gua k) = k from rfl, z] at e; exact absurd e (by decide))
  | .tr _ _, _, _ => ⟨_, _, rfl⟩
/-- maybe and repeat are the only ones with these words -/
theorem HdOk.gu : ∀ {h : Hd}, HdOk h → decide (kdS h ∈ (["maybe", "repeat"] : List Str)) = isG h
  | .sim w, o => by rcases in2 o with z | z <;> (subst z; rfl)
  | .one k w, o => by rcases in3 o.1 with z | z | z <;> (subst z; rfl)
  | .blk _ _ _, _ => rfl
  | .gua k, o => by rcases inG o with z | z <;> (subst z; rfl)
  | .tr _ _, _ => rfl
theorem HdOk.leaf : ∀ {h : Hd}, HdOk h → kdS h ≠ "block" → isG h = false → kdS h ≠ "try" → ∀ {H : Hp} {rs : List Addr} {xs : List V}, HdAt H h rs xs → rs = []
  | .sim _, _, _, _, _, _, _, _, ⟨e, _⟩ => e
  | .one _ _, _, _, _, _, _, _, _, ⟨e, _⟩ => e
  | .blk _ _ _, _, e, _, _, _, _, _, _ => absurd rfl e
  | .gua _, _, _, e, _, _, _, _, _ => by cases e
  | .tr _ _, _, _, _, e, _, _, _, _ => absurd rfl e
theorem A2.map_snd {α β γ : Type} {R : α → β × γ → Prop} : ∀ {xs : List α} {ys : List (β × γ)}, A2 R xs ys → A2 (fun x z => ∃ y, R x (y, z)) xs (ys.map (·.2))
  | _, _, .nil => .nil
  | _, _, .cons h t => .cons ⟨_, h⟩ (A2.map_snd t)
def spParts : Sp := fun vs H Q _ => ∃ (h : Hd) (ps : List (List Stm)) (v : V), vs = [v] ∧ SAt H (.mk h ps) v ∧ HdOk h ∧ ps.length ≤ 100000 ∧
  ∀ H' l rs, Same H H' → H' l = some (.lst (rs.map V.ref)) → PsAt H' ps rs → Q (.ref l) H'
theorem PsAt.len {H : Hp} : ∀ {b : List (List Stm)} {rs : List Addr}, PsAt H b rs → rs.length = b.length
  | [], _, h => by
    have h : _ = ([] : List Addr) := h
    subst h; rfl
  | _ :: _, _, ⟨y, rt, vs, h1, _, _, h5⟩ => by
    subst h1
    exact congrArg Nat.succ (PsAt.len h5)
theorem ok_parts_of (T : Txt K mg a d) : FnOk P w K mg base CX0 2 a.parts_of d.parts_of ["statement"] spParts := by
  refine T.parts_of.ok sc_parts_of (fun vs H Q E h => ?_) (fun cdv A outer s H vs Q E hr h => ?_)
  · obtain ⟨_, _, v, rfl, _⟩ := h
    rfl
  · obtain ⟨h, ps, v, rfl, ⟨p, xs, rs, rfl, hp, hh, hps⟩, hok, lps, k⟩ := h
    refine ⟨_, (pss_cons (ps_if (pt_cmpR op_eq (pe_ix ix_tup (pv 0) pe_int (fun _ _ => rfl)) pe_str (nomark _)) (pss_one (ps_ret (pe_lst (pa_cons (pe_ix ix_tup (pv 0) pe_int (fun _ _ => rfl)) pa_nil)))) pss_nil)
  (pss_cons (ps_if (pt_cmpR op_in_seq (pe_ix ix_tup (pv 0) pe_int (fun _ _ => rfl)) (pe_tup (pa_cons pe_str (pa_cons pe_str pa_nil))) (by rfl)) (pss_one (ps_ret (pe_lst (pa_cons (pe_ix ix_tup (pv 0) pe_int (fun _ _ => rfl)) pa_nil)))) pss_nil)
  (pss_cons (ps_if (pt_cmpR op_ne (pe_ix ix_tup (pv 0) pe_int (fun _ _ => rfl)) pe_str (nomark _)) (pss_one (ps_ret (pe_lst pa_nil))) pss_nil)
  (pss_cons (ps_set (i := 1) sc_parts_of.nd rfl (Or.inl rfl) (pe_op op_cat (pe_lst (pa_cons (pe_ix ix_tup (pv 0) pe_int (fun _ _ => rfl)) pa_nil)) (pe_lc (own := [("words", 2), ("body", 3)]) (tt := tYes) rfl sc_parts_of.nd (pi_tup (pe_ix ix_tup (pv 0) pe_int (fun _ _ => rfl))) (blkOk_by (own := [("words", 2), ("body", 3)]) (N := ["statement", "found", "words", "body"]) (sc := defScope s_parts_of) (by decide +kernel)) (fun _ _ _ _ _ => (pg_tupK (K := K) 2 rfl rfl (pgs_cons (pg_name (i := 2) sc_parts_of.nd rfl (Or.inl rfl)) (pgs_cons (pg_name (i := 3) sc_parts_of.nd rfl (Or.inl rfl)) pgs_nil)))) (fun _ _ _ _ _ => pts_nil) (fun _ _ _ _ _ => (pv 3)))))
  (pss_one (ps_ret (pe_ifExp (pt_cmpR op_isN (pe_ix ix_tup (pv 0) pe_int (fun _ _ => rfl)) pe_non (nomark _)) (pv 1) (pe_op op_cat (pv 1) (pe_lst (pa_cons (pe_ix ix_tup (pv 0) pe_int (fun _ _ => rfl)) pa_nil)))))))))), ?_⟩
    dsimp only [cxOf]
    have a0 : ∀ (x : V) (t : List V), atI (x :: t) 0 = some x := fun x t => (atI_nat rfl : atI (x :: t) ((0 : Nat) : Int) = _)
    have a1 : ∀ (y x : V) (t : List V), atI (y :: x :: t) 1 = some x := fun y x t => (atI_nat rfl : atI (y :: x :: t) ((1 : Nat) : Int) = _)
    have a2 : ∀ (z y x : V) (t : List V), atI (z :: y :: x :: t) 2 = some x := fun z y x t => (atI_nat rfl : atI (z :: y :: x :: t) ((2 : Nat) : Int) = _)
    have a3 : ∀ (u z y x : V) (t : List V), atI (u :: z :: y :: x :: t) 3 = some x := fun u z y x t => (atI_nat rfl : atI (u :: z :: y :: x :: t) ((3 : Nat) : Int) = _)
    have a4 : ∀ (q u z y x : V) (t : List V), atI (q :: u :: z :: y :: x :: t) 4 = some x := fun q u z y x t => (atI_nat rfl : atI (q :: u :: z :: y :: x :: t) ((4 : Nat) : Int) = _)
    have fin : ∀ {rs : List Addr} {l : Addr}, PsAt H ps rs → H l = none → Q (.ref l) (upd H l (.lst (rs.map V.ref))) := fun hps hl =>
      k _ _ _ ((Same.refl H).new hl) upd_same (PsAt.tup (TupK.of_same ((Same.refl H).new hl)) hps)
    obtain ⟨t, rfl⟩ := hh.fst
    have b0 := a0 (.str (kdS h)) t
    walk_at "rd"
    refine ite2 (fun c1 => ?_) (fun c1 => ?_)
    · obtain ⟨n, m, ks, rfl⟩ := hok.blk (V.str.inj (of_decide_eq_true c1))
      obtain ⟨q, r, rfl, e, _⟩ := hh
      rw [e] at hp b0
      have b4 := a4 (.str "block") (.int (n : Int)) (.str m) (.ref q) (.ref r) []
      walk_at "rd"
      intro l hl
      exact fin hps hl
    have d1 : kdS h ≠ "block" := fun e => c1 (decide_eq_true (by rw [e]))
    walk_at "rd"
    intro p2 hp2
    have s2 := (Same.refl H).new (o := .tup [.str "maybe", .str "repeat"]) hp2
    have e2 := upd_same (H := H) (a := p2) (o := .tup [.str "maybe", .str "repeat"])
    have hp2 := s2 _ _ hp
    have hps2 := hps.tup (TupK.of_same s2)
    have fin := fun {rs l} x y => k (upd (upd H p2 (.tup [.str "maybe", .str "repeat"])) l (.lst (rs.map V.ref))) l rs (s2.new x) upd_same y
    generalize upd H p2 (.tup [.str "maybe", .str "repeat"]) = H2 at s2 e2 hp2 hps2 fin ⊢
    refine ⟨p2, _, rfl, .inr (SqT.of e2), rfl, rfl, _, rfl, ?_⟩
    rw [show (if false = true then !inV (V.str (kdS h)) [.str "maybe", .str "repeat"] else inV (V.str (kdS h)) [.str "maybe", .str "repeat"]) = decide (kdS h ∈ (["maybe", "repeat"] : List Str)) from inV_strL (l := ["maybe", "repeat"])]
    rw [hok.gu]
    refine ite2 (fun c2 => ?_) (fun c2 => ?_)
    · cases h with
      | gua kd =>
        obtain ⟨r, rfl, e⟩ := hh
        rw [e] at hp2
        have b1 := a1 (.str kd) (.ref r) []
        walk_at "rd"
        intro l hl
        exact fin hl (hps2.tup (TupK.of_same ((Same.refl H2).new hl)))
      | _ => cases c2
    have b0 := a0 (.str (kdS h)) t
    walk_at "rd"
    by_cases d3 : kdS h = "try"
    · rw [decide_eq_true (show V.str (kdS h) = V.str "try" by rw [d3])]
      refine iteF ?_
      obtain ⟨ws, fn, rfl⟩ := hok.tr d3
      obtain ⟨r0, rr, q, ts, fv, e, hq, hts, lrr, hf⟩ := hh
      rw [e] at hp2
      have b1 := a1 (.str "try") (.ref r0) [.ref q, fv]
      have b2 := a2 (.str "try") (.ref r0) (.ref q) [fv]
      have b3 := a3 (.str "try") (.ref r0) (.ref q) fv []
      have hq2 := s2 _ _ hq
      have hts2 : A2 (fun t r => ∃ lv, H2 t = some (.tup [lv, .ref r])) ts rr := by
        have := A2.map_snd (hts.imp fun t p ⟨lv, z, _⟩ => (⟨lv, s2 _ _ z⟩ : ∃ lv, H2 t = some (HO.tup [lv, V.ref p.2])))
        rw [List.map_snd_zip (by omega)] at this
        exact this.imp fun t r ⟨_, z⟩ => z
      have lts := hts2.len
      have lr2 : rr.length < 100000 := by
        have := hps.len
        by_cases z : fn = true
        · rw [if_pos z] at hf
          obtain ⟨r1, _, rfl⟩ := hf
          rw [List.length_append, List.length_cons] at this
          simp at this
          omega
        · rw [if_neg z] at hf
          obtain ⟨_, rfl⟩ := hf
          rw [List.length_cons] at this
          omega
      walk_at "rd"
      intro l1 hl1
      have s3 := (Same.refl H2).new (o := .lst [.ref r0]) hl1
      have e3 := upd_same (H := H2) (a := l1) (o := .lst [.ref r0])
      have hp3 := s3 _ _ hp2
      have hq3 := s3 _ _ hq2
      have hts3 := hts2.imp fun t r ⟨lv, z⟩ => (⟨lv, s3 _ _ z⟩ : ∃ lv, upd H2 l1 (.lst [.ref r0]) t = some (HO.tup [lv, V.ref r]))
      have s23 := s2.trans s3
      have hps3 := hps2.tup (TupK.of_same s3)
      generalize upd H2 l1 (.lst [.ref r0]) = H3 at s23 e3 hp3 hq3 hts3 hps3 ⊢
      walk_at "rd"
      refine ⟨⟨_, SqT.of hq3⟩, fun D hD => ?_⟩
      refine lc_tup (xs := ts.map V.ref) (fun i G => Same H3 G ∧ G D = some (.lst ((rr.take i).map V.ref))) ?_ ?_ ?_ ?_
      · exact ⟨(Same.refl _).new hD, upd_same⟩
      · rintro i G _ ⟨s4, _⟩
        exact SqT.of (s4 _ _ hq3)
      · rintro i v G hv ⟨s4, hG⟩
        obtain ⟨t, hti, rfl⟩ : ∃ t, ts[i]? = some t ∧ v = V.ref t := by
          rw [List.getElem?_map] at hv
          cases q : ts[i]? with
          | none => rw [q] at hv; cases hv
          | some t => rw [q] at hv; cases hv; exact ⟨t, rfl, rfl⟩
        have li : i < ts.length := (List.getElem?_eq_some_iff.mp hti).1
        obtain ⟨r, hri, lv, htr⟩ := hts3.at hti
        have htr4 := s4 _ _ htr
        walk_at "rd"
        refine ⟨by rw [List.length_map, List.length_take, sizeLine_eq]; omega, s4.frsh hD, ?_⟩
        rw [upd_same, List.take_add_one, hri, List.map_append]; rfl
      · rintro G ⟨s4, hG⟩
        rw [List.length_map, List.take_of_length_le (by omega)] at hG
        have e4 := s4 _ _ e3
        have hp4 := s4 _ _ hp3
        have hps4 := hps3.tup (TupK.of_same s4)
        have s24 := s23.trans s4
        walk_at "rd"
        refine ⟨by rw [List.length_map, sizeLine_eq]; simp only [List.length_cons, List.length_nil]; omega, fun l5 hl5 => ?_⟩
        rw [show [V.ref r0] ++ rr.map V.ref = (r0 :: rr).map V.ref from rfl]
        have s5 := (Same.refl G).new (o := .lst ((r0 :: rr).map V.ref)) hl5
        have e5 := upd_same (H := G) (a := l5) (o := .lst ((r0 :: rr).map V.ref))
        have s25 := s24.trans s5
        have hp5 := s5 _ _ hp4
        have hps5 := hps4.tup (TupK.of_same s5)
        generalize upd G l5 (.lst ((r0 :: rr).map V.ref)) = H5 at s25 e5 hp5 hps5 ⊢
        walk_at "rd"
        by_cases z : fn = true
        · rw [if_pos z] at hf
          obtain ⟨r1, rfl, rfl⟩ := hf
          refine iteF ?_
          walk_at "rd"
          intro l6 hl6
          have s6 := (Same.refl H5).new (o := .lst [.ref r1]) hl6
          have e6 := upd_same (H := H5) (a := l6) (o := .lst [.ref r1])
          have g5 := s6 _ _ e5
          have s26 := s25.trans s6
          have hps6 := hps5.tup (TupK.of_same s6)
          generalize upd H5 l6 (.lst [.ref r1]) = H6 at s26 e6 g5 hps6 ⊢
          walk_at "rd"
          refine ⟨by rw [List.length_map, List.length_cons, sizeLine_eq]; simp only [List.length_cons, List.length_nil]; omega, fun l7 hl7 => ?_⟩
          have s7 := (Same.refl H6).new (o := .lst ((r0 :: rr).map V.ref ++ [.ref r1])) hl7
          exact k _ _ (r0 :: rr ++ [r1]) (s26.trans s7) (by rw [upd_same, List.map_append]; rfl) (hps6.tup (TupK.of_same s7))
        · rw [if_neg z] at hf
          obtain ⟨rfl, rfl⟩ := hf
          refine iteT ?_
          walk_at "rd"
          exact k _ _ (r0 :: rr) s25 e5 hps5
    · rw [decide_eq_false (fun e => d3 (V.str.inj e))]
      refine iteT ?_
      walk_at "rd"
      intro l hl
      have e := hok.leaf (fun e => c1 (decide_eq_true (by rw [e]))) (by simpa using c2) d3 hh
      subst e
      exact fin hl (hps2.tup (TupK.of_same ((Same.refl H2).new hl)))
/-! ### listed_statements -/
theorem bd1_ls0 (T : Txt K mg a d) : ∃ ds, Vals [V.bl false] ds ∧ Binds K d.listed_statements ["body", "is_guarded"] ds :=
  T.listed_statements.binds1 (ps := ["body", "is_guarded"]) 1 0 (by simp) rfl (fun D kV doc pm an cdv ct us its hu hi => match us, hu, its, hi with | [_], _, [_], _ => ⟨_, rfl, rfl⟩)
theorem bd2_ls0 (T : Txt K mg a d) : ∃ ds, Vals ([] : List V) ds ∧ Binds K d.listed_statements ["body", "is_guarded"] ds :=
  T.listed_statements.binds1 (ps := ["body", "is_guarded"]) 2 1 (by simp) rfl (fun D kV doc pm an cdv ct us its hu hi => match us, hu, its, hi with | [_, _], _, [_], _ => ⟨_, rfl, rfl⟩)
theorem lsB_app (g : Bool) : ∀ b c : List Stm, lsB g (b ++ c) = lsB g b ++ lsB g c
  | [], _ => by simp [lsB]
  | s :: r, c => by rw [List.cons_append, lsB, lsB, lsB_app g r c, List.append_assoc]
theorem lsP_app (g : Bool) : ∀ b c : List (List Stm), lsP g (b ++ c) = lsP g b ++ lsP g c
  | [], _ => by simp [lsP]
  | s :: r, c => by rw [List.cons_append, lsP, lsP, lsP_app g r c, List.append_assoc]
theorem lsB_one (g : Bool) (s : Stm) : lsB g [s] = lsS g s := by simp [lsB]
theorem lsP_one (g : Bool) (b : List Stm) : lsP g [b] = lsB g b := by simp [lsP]
mutual
theorem lsS_len (g : Bool) : ∀ s : Stm, (lsS g s).length = (lsS false s).length
  | .mk h ps => by rw [lsS, lsS, List.length_cons, List.length_cons, lsP_len, lsP_len (false || isG h)]
theorem lsP_len (g : Bool) : ∀ ps : List (List Stm), (lsP g ps).length = (lsP false ps).length
  | [] => rfl
  | b :: r => by rw [lsP, lsP, List.length_append, List.length_append, lsB_len g b, lsP_len g r]
theorem lsB_len (g : Bool) : ∀ b : List Stm, (lsB g b).length = (lsB false b).length
  | [] => rfl
  | s :: r => by rw [lsB, lsB, List.length_append, List.length_append, lsS_len g s, lsB_len g r]
end
def cntB (b : List Stm) : Nat := (lsB false b).length
def SOk (s : Stm) : Prop := HdOk s.hd ∧ ∀ b ∈ s.ps, b ≠ []
theorem lsP_big (g : Bool) : ∀ ps : List (List Stm), (∀ b ∈ ps, b ≠ []) → ps.length ≤ (lsP g ps).length
  | [], _ => Nat.le_refl _
  | b :: r, h => by
    have := lsP_big g r fun c hc => h c (List.mem_cons_of_mem _ hc)
    cases b with
    | nil => exact absurd rfl (h _ List.mem_cons_self)
    | cons s t =>
      cases s with
      | mk hd qs =>
        rw [lsP, lsB, lsS, List.length_append, List.length_append, List.length_cons, List.length_cons]
        omega
mutual
theorem lsS_ok (g g' : Bool) : ∀ s : Stm, (∀ x ∈ lsS g s, SOk x.1) → ∀ x ∈ lsS g' s, SOk x.1
  | .mk h ps, o, x, hx => by
    rw [lsS] at o hx
    rcases List.mem_cons.mp hx with rfl | hx
    · exact o (.mk h ps, g) List.mem_cons_self
    · exact lsP_ok _ _ ps (fun y hy => o y (List.mem_cons_of_mem _ hy)) x hx
theorem lsP_ok (g g' : Bool) : ∀ ps : List (List Stm), (∀ x ∈ lsP g ps, SOk x.1) → ∀ x ∈ lsP g' ps, SOk x.1
  | [], _, x, hx => nomatch hx
  | b :: r, o, x, hx => by
    rw [lsP] at o hx
    rcases List.mem_append.mp hx with hx | hx
    · exact lsB_ok _ _ b (fun y hy => o y (List.mem_append_left _ hy)) x hx
    · exact lsP_ok _ _ r (fun y hy => o y (List.mem_append_right _ hy)) x hx
theorem lsB_ok (g g' : Bool) : ∀ b : List Stm, (∀ x ∈ lsB g b, SOk x.1) → ∀ x ∈ lsB g' b, SOk x.1
  | [], _, x, hx => nomatch hx
  | s :: r, o, x, hx => by
    rw [lsB] at o hx
    rcases List.mem_append.mp hx with hx | hx
    · exact lsS_ok _ _ s (fun y hy => o y (List.mem_append_left _ hy)) x hx
    · exact lsB_ok _ _ r (fun y hy => o y (List.mem_append_right _ hy)) x hx
end
theorem lsP_mem {g : Bool} {b : List Stm} : ∀ {ps : List (List Stm)}, b ∈ ps → ∀ x ∈ lsB g b, x ∈ lsP g ps
  | c :: r, h, x, hx => by
    rw [lsP]
    rcases List.mem_cons.mp h with rfl | h
    · exact List.mem_append_left _ hx
    · exact List.mem_append_right _ (lsP_mem h x hx)
theorem lsB_mem {g : Bool} {s : Stm} : ∀ {b : List Stm}, s ∈ b → ∀ x ∈ lsS g s, x ∈ lsB g b
  | c :: r, h, x, hx => by
    rw [lsB]
    rcases List.mem_cons.mp h with rfl | h
    · exact List.mem_append_left _ hx
    · exact List.mem_append_right _ (lsB_mem h x hx)
theorem dpP_le {b : List Stm} : ∀ {ps : List (List Stm)}, b ∈ ps → dpB b ≤ dpP ps
  | c :: r, h => by
    rw [dpP]
    rcases List.mem_cons.mp h with rfl | h
    · omega
    · have := dpP_le h; omega
theorem dpB_le {s : Stm} : ∀ {b : List Stm}, s ∈ b → dpS s ≤ dpB b
  | c :: r, h => by
    rw [dpB]
    rcases List.mem_cons.mp h with rfl | h
    · omega
    · have := dpB_le h; omega
theorem lsP_ge (g : Bool) : ∀ ps : List (List Stm), ∀ b ∈ ps, (lsB g b).length ≤ (lsP g ps).length
  | c :: r, b, h => by
    rw [lsP, List.length_append]
    rcases List.mem_cons.mp h with rfl | h
    · omega
    · have := lsP_ge g r b h; omega
theorem lsB_tk (g : Bool) {b : List Stm} {i : Nat} {s : Stm} (h : b[i]? = some s) : lsB g (b.take (i + 1)) = lsB g (b.take i) ++ lsS g s := by
  rw [List.take_add_one, h, lsB_app]
  exact congrArg _ (lsB_one g s)
theorem lsP_tk (g : Bool) {b : List (List Stm)} {i : Nat} {s : List Stm} (h : b[i]? = some s) : lsP g (b.take (i + 1)) = lsP g (b.take i) ++ lsB g s := by
  rw [List.take_add_one, h, lsP_app]
  exact congrArg _ (lsP_one g s)
theorem BAt.at {H : Hp} : ∀ {b : List Stm} {vs : List V} {i : Nat} {v : V}, BAt H b vs → vs[i]? = some v → ∃ s, b[i]? = some s ∧ SAt H s v
  | [], _, _, _, h, e => by
    have h : _ = ([] : List V) := h
    subst h; cases e
  | s :: r, _, 0, _, ⟨v, vt, h1, h3, h4⟩, e => by
    subst h1
    cases e
    exact ⟨s, rfl, h3⟩
  | s :: r, _, i + 1, _, ⟨v, vt, h1, h3, h4⟩, e => by
    subst h1
    exact BAt.at (b := r) (i := i) h4 e
theorem PsAt.at {H : Hp} : ∀ {b : List (List Stm)} {vs : List Addr} {i : Nat} {v : Addr}, PsAt H b vs → vs[i]? = some v → ∃ s us, b[i]? = some s ∧ H v = some (.tup us) ∧ BAt H s us
  | [], _, _, _, h, e => by
    have h : _ = ([] : List Addr) := h
    subst h; cases e
  | s :: r, _, 0, _, ⟨y, rt, vs, h1, h3, h4, h5⟩, e => by
    subst h1
    cases e
    exact ⟨s, vs, rfl, h3, h4⟩
  | s :: r, _, i + 1, _, ⟨y, rt, vs, h1, h3, h4, h5⟩, e => by
    subst h1
    exact PsAt.at (b := r) (i := i) h5 e
def PairAt (H : Hp) (t : Addr) (x : Stm × Bool) : Prop := ∃ v, H t = some (.tup [v, .bl x.2]) ∧ SAt H x.1 v
theorem PairAt.tup {H H' : Hp} {t : Addr} {x : Stm × Bool} (e : TupK H H') (h : PairAt H t x) : PairAt H' t x := by
  obtain ⟨v, h1, h2⟩ := h
  exact ⟨v, e _ _ h1, h2.tup e⟩
def spListed (n : Nat) : Sp := fun vs H Q _ => ∃ (_ : Unit) (b : List Stm) (g : Bool) (p : Addr) (us : List V), vs = [.ref p, .bl g] ∧ H p = some (.tup us) ∧ BAt H b us ∧ (∀ x ∈ lsB g b, SOk x.1) ∧ dpB b < n ∧ (lsB g b).length ≤ 100000 ∧
  ∀ H' l ts, Same H H' → H' l = some (.lst (ts.map V.ref)) → H l = none → A2 (PairAt H') ts (lsB g b) → Q (.ref l) H'
theorem ok_listed_succ (T : Txt K mg a d) (n : Nat) (G_listed_statements : FnOk P w K mg base CX0 (n + 4) a.listed_statements d.listed_statements ["body", "is_guarded"] (spListed n)) : FnOk P w K mg base CX0 (n + 1 + 4) a.listed_statements d.listed_statements ["body", "is_guarded"] (spListed (n + 1)) := by
  have G_parts_of : FnOk P w K mg base CX0 2 a.parts_of d.parts_of ["statement"] spParts := ok_parts_of T
  obtain ⟨_, vd2_ls, bd2_ls⟩ := bd2_ls0 T
  refine funD_ok (k := n + 4) T.listed_statements sc_listed_statements (fun vs H Q E h => ?_) (fun cdv A outer s H vs Q E hr h => ?_)
  · obtain ⟨_, _, _, _, _, rfl, _⟩ := h
    rfl
  · obtain ⟨_, b, g, p, us, rfl, hp, hb, hok, hd, hl, k⟩ := h
    refine ⟨_, (pss_cons (ps_set (i := 2) sc_listed_statements.nd rfl (Or.inl rfl) (pe_lst pa_nil))
  (pss_cons (ps_for PassesOwn.never rfl (pi_tup (pv 0)) (pg_name (i := 3) sc_listed_statements.nd rfl (Or.inl rfl))
  (pss_cons (ps_expr (pe_bm PySem.F.plainAttrs_list PySem.F.slot_list_append PySem.F.type_list_append mt_append (pv 2) (pa_cons (pe_tup (pa_cons (pv 3) (pa_cons (pv 1) pa_nil))) pa_nil)))
  (pss_one (ps_for PassesOwn.never rfl (pi_list (pe_call G_parts_of (hr.mono (by omega)) (by rfl) T.g_parts_of T.parts_of.kp T.b_parts_of .nil pass0 (pa_cons (pv 3) pa_nil))) (pg_name (i := 4) sc_listed_statements.nd rfl (Or.inl rfl))
  (pss_one (ps_set (i := 2) sc_listed_statements.nd rfl (Or.inl rfl) (pe_op op_cat (pv 2) (pe_call G_listed_statements (hr.mono (by omega)) (by rfl) T.g_listed_statements T.listed_statements.kp bd2_ls vd2_ls pass0 (pa_cons (pv 4) (pa_cons (pe_or (pv 1) (pe_one (pe_cmpR op_in_seq (pe_ix ix_tup (pv 3) pe_int (fun _ _ => rfl)) (pe_tup (pa_cons pe_str (pa_cons pe_str pa_nil))) (by rfl)))) pa_nil))))))))))
  (pss_one (ps_ret (pv 2))))), ?_⟩
    dsimp only [cxOf]
    have lub := hb.len
    walk_at "rd"
    intro D0 hD0
    have S0 := (Same.refl H).new (o := .lst []) hD0
    have e0 := upd_same (H := H) (a := D0) (o := .lst [])
    generalize upd H D0 (.lst []) = H0 at S0 e0 ⊢
    walk_at "rd"
    refine ⟨⟨_, SqT.of (S0 _ _ hp)⟩, ?_⟩
    refine for_tup (xs := us) (fun i σ G => ∃ (_ : Unit) (D : Addr) (ts : List Addr) (o3 o4 : Option V), σ = [some (.ref p), some (.bl g), some (.ref D), o3, o4] ∧ Same H G ∧ H D = none ∧ G D = some (.lst (ts.map V.ref)) ∧ A2 (PairAt G) ts (lsB g (b.take i))) ?_ ?_ ?_ ?_
    · exact ⟨(), D0, [], none, none, rfl, S0, hD0, e0, .nil⟩
    · rintro i σ G _ ⟨_, D, ts, o3, o4, rfl, S, _⟩
      exact SqT.of (S _ _ hp)
    · rintro i v σ G hv ⟨_, D, ts, o3, o4, rfl, S, hD, eD, A⟩
      obtain ⟨⟨h, ps⟩, hbi, hs⟩ := hb.at hv
      have hs := hs.tup (TupK.of_same S)
      obtain ⟨q, xs, rs, rfl, hq, hh, hps⟩ := hs
      have lts := A.len
      have htk := lsB_tk g hbi
      have llen : (lsB g (b.take i)).length + (lsS g (.mk h ps)).length ≤ 100000 := by
        have e : lsB g b = lsB g (b.take (i + 1)) ++ lsB g (b.drop (i + 1)) := by rw [← lsB_app, List.take_append_drop]
        rw [e, List.length_append, htk, List.length_append] at hl
        omega
      have hmem : Stm.mk h ps ∈ b := List.mem_of_getElem? hbi
      obtain ⟨hoh, hne⟩ : HdOk h ∧ ∀ b ∈ ps, b ≠ [] := hok (.mk h ps, g) (lsB_mem hmem _ (by rw [lsS]; exact List.mem_cons_self))
      have hokP : ∀ x ∈ lsP (g || isG h) ps, SOk x.1 := fun x hx => hok x (lsB_mem hmem _ (by rw [lsS]; exact List.mem_cons_of_mem _ hx))
      have hdP : dpP ps < n := by have := dpB_le hmem; rw [dpS] at this; omega
      have lS : (lsS g (.mk h ps)).length = (lsP (g || isG h) ps).length + 1 := by rw [lsS, List.length_cons]
      walk_at "rd"
      intro t ht
      have s1 := (Same.refl G).new (o := .tup [.ref q, .bl g]) ht
      have S1 := S.trans s1
      have eD1 := s1 _ _ eD
      have t1 := upd_same (H := G) (a := t) (o := .tup [.ref q, .bl g])
      have A1 := A.imp fun _ _ r => r.tup (TupK.of_same s1)
      have hq1 := s1 _ _ hq
      have hps1 := hps.tup (TupK.of_same s1)
      have hh1 := hh.tup (TupK.of_same s1)
      generalize upd G t (.tup [.ref q, .bl g]) = G1 at S1 eD1 t1 A1 hq1 hps1 hh1 ⊢
      walk_at "rd"
      refine ⟨by rw [List.length_map, sizeLine_eq]; omega, ?_⟩
      have k2 : TupK G1 (upd G1 D (.lst (ts.map V.ref ++ [.ref t]))) := TupK.set eD1
      have S2 : Same H (upd G1 D (.lst (ts.map V.ref ++ [.ref t]))) := S1.frsh hD
      have eD2 := upd_same (H := G1) (a := D) (o := .lst (ts.map V.ref ++ [.ref t]))
      have A2' : A2 (PairAt (upd G1 D (.lst (ts.map V.ref ++ [.ref t])))) (ts ++ [t]) (lsB g (b.take i) ++ [(.mk h ps, g)]) :=
        (A1.imp fun _ _ r => r.tup k2).app (.cons ⟨_, k2 _ _ t1, q, xs, rs, rfl, k2 _ _ hq1, hh1.tup k2, hps1.tup k2⟩ .nil)
      have hq2 := k2 _ _ hq1
      have hps2 := hps1.tup k2
      have hh2 := hh1.tup k2
      rw [show ts.map V.ref ++ [.ref t] = (ts ++ [t]).map V.ref by rw [List.map_append]; rfl] at S2 eD2 A2' hq2 hps2 hh2 ⊢
      generalize upd G1 D (.lst ((ts ++ [t]).map V.ref)) = G2 at S2 eD2 A2' hq2 hps2 hh2 ⊢
      have lps : ps.length ≤ 100000 := by have := lsP_big (g || isG h) ps hne; omega
      walk_at "rd"
      refine ⟨h, ps, _, rfl, ⟨q, xs, rs, rfl, hq2, hh2, hps2⟩, hoh, lps, fun G3 l rs3 s3 hl3 hps3 => ?_⟩
      have S3 := S2.trans s3
      have eD3 := s3 _ _ eD2
      have A3 := A2'.imp fun _ _ r => r.tup (TupK.of_same s3)
      have hq3 := s3 _ _ hq2
      have lrs := hps3.len
      obtain ⟨tx, rfl⟩ := hh2.fst
      refine ⟨l, rfl, ⟨_, SqL.of hl3⟩, ?_⟩
      refine for_list (xs := rs3.map V.ref) (fun j σ G => ∃ (_ : Unit) (D : Addr) (ts : List Addr) (o4 : Option V), σ = [some (.ref p), some (.bl g), some (.ref D), some (.ref q), o4] ∧ Same G3 G ∧ H D = none ∧ G D = some (.lst (ts.map V.ref)) ∧ A2 (PairAt G) ts (lsB g (b.take i) ++ [(.mk h ps, g)] ++ lsP (g || isG h) (ps.take j))) ?_ ?_ ?_ ?_
      · exact ⟨(), D, ts ++ [t], o4, rfl, Same.refl _, hD, eD3, by rw [List.take_zero, lsP, List.append_nil]; exact A3⟩
      · rintro j σ F _ ⟨_, D, ts, o4, rfl, s4, _⟩
        exact SqL.of (s4 _ _ hl3)
      · rintro j v σ F hv ⟨_, D, ts, o4, rfl, s4, hD, eD, A⟩
        obtain ⟨r, hrj, rfl⟩ : ∃ r, rs3[j]? = some r ∧ v = V.ref r := by
          rw [List.getElem?_map] at hv
          cases e : rs3[j]? with
          | none => rw [e] at hv; cases hv
          | some r => rw [e] at hv; cases hv; exact ⟨r, rfl, rfl⟩
        obtain ⟨c, ys, hcj, hr3, hc3⟩ := hps3.at hrj
        have hq4 := s4 _ _ hq3
        have cm : c ∈ ps := List.mem_of_getElem? hcj
        have a0 : ∀ (x : V) (t : List V), atI (x :: t) 0 = some x := fun x t => (atI_nat rfl : atI (x :: t) ((0 : Nat) : Int) = _)
        have b0 := a0 (.str (kdS h)) tx
        have llj : (lsB g (b.take i) ++ [(Stm.mk h ps, g)] ++ lsP (g || isG h) (ps.take j) ++ lsB (g || isG h) c).length ≤ 100000 := by
          have e : lsP (g || isG h) ps = lsP (g || isG h) (ps.take (j + 1)) ++ lsP (g || isG h) (ps.drop (j + 1)) := by rw [← lsP_app, List.take_append_drop]
          rw [e, List.length_append, lsP_tk _ hcj, List.length_append] at lS
          rw [List.length_append, List.length_append, List.length_append]
          simp only [List.length_cons, List.length_nil]
          omega
        have tl : ∀ F', Same F F' → F' r = some (.tup ys) ∧ BAt F' c ys ∧ (∀ x ∈ lsB (g || isG h) c, SOk x.1) ∧ dpB c < n ∧ (lsB (g || isG h) c).length ≤ 100000 := fun F' s5 =>
          ⟨s5 _ _ (s4 _ _ hr3), hc3.tup ((TupK.of_same s4).trans (TupK.of_same s5)), fun x hx => hokP x (lsP_mem cm x hx), by have := dpP_le cm; omega, by have := lsP_ge (g || isG h) ps c cm; omega⟩
        walk_at "rd"
        refine ite2 (fun hg => ?_) (fun hg => ?_)
        · have eg : g = (g || isG h) := by rw [hg]; rfl
          walk_at "rd"
          obtain ⟨z1, z2, z3, z4, z5⟩ := tl _ (Same.refl F)
          refine ⟨(), c, g || isG h, r, ys, congrArg (fun v => [V.ref r, v]) (congrArg V.bl (hg.symm.trans eg)), z1, z2, z3, z4, z5, fun F6 l6 ts6 s6 hl6 nl6 A6 => ?_⟩
          have s6' := (Same.refl F).trans s6
          have eD6 := s6' _ _ eD
          have A6' := ((A.imp fun _ _ r => r.tup (TupK.of_same s6')).app A6)
          have lA := A6'.len
          walk_at "rd"
          refine ⟨by rw [List.length_map, List.length_map, sizeLine_eq, ← List.length_append, lA]; omega, fun l7 hl7 => ?_⟩
          have s7 := (Same.refl F6).new (o := .lst (ts.map V.ref ++ ts6.map V.ref)) hl7
          refine ⟨(), l7, ts ++ ts6, _, rfl, (s4.trans s6').trans s7, ?_, by rw [upd_same, List.map_append], ?_⟩
          · exact Kp.none (S := fun _ => False) (Kp.of_same ((S3.trans s4).trans s6')) (fun z => z) hl7
          · rw [lsP_tk _ hcj, ← List.append_assoc]
            exact A6'.imp fun _ _ r => r.tup (TupK.of_same s7)
        · have eg : isG h = (g || isG h) := by rw [show g = false by simpa using hg]; rfl
          walk_at "rd"
          intro p5 hp5
          have s5 := (Same.refl F).new (o := .tup [.str "maybe", .str "repeat"]) hp5
          have e5 := upd_same (H := F) (a := p5) (o := .tup [.str "maybe", .str "repeat"])
          generalize upd F p5 (.tup [.str "maybe", .str "repeat"]) = F5 at s5 e5 ⊢
          refine ⟨p5, _, rfl, .inr (SqT.of e5), rfl, rfl, ?_⟩
          rw [show (if false = true then !inV (V.str (kdS h)) [.str "maybe", .str "repeat"] else inV (V.str (kdS h)) [.str "maybe", .str "repeat"]) = decide (kdS h ∈ (["maybe", "repeat"] : List Str)) from inV_strL (l := ["maybe", "repeat"])]
          rw [hoh.gu]
          walk_at "rd"
          obtain ⟨z1, z2, z3, z4, z5⟩ := tl _ (s5)
          refine ⟨(), c, g || isG h, r, ys, congrArg (fun v => [V.ref r, v]) (congrArg V.bl eg), z1, z2, z3, z4, z5, fun F6 l6 ts6 s6 hl6 nl6 A6 => ?_⟩
          have s6' := (s5).trans s6
          have eD6 := s6' _ _ eD
          have A6' := ((A.imp fun _ _ r => r.tup (TupK.of_same s6')).app A6)
          have lA := A6'.len
          walk_at "rd"
          refine ⟨by rw [List.length_map, List.length_map, sizeLine_eq, ← List.length_append, lA]; omega, fun l7 hl7 => ?_⟩
          have s7 := (Same.refl F6).new (o := .lst (ts.map V.ref ++ ts6.map V.ref)) hl7
          refine ⟨(), l7, ts ++ ts6, _, rfl, (s4.trans s6').trans s7, ?_, by rw [upd_same, List.map_append], ?_⟩
          · exact Kp.none (S := fun _ => False) (Kp.of_same ((S3.trans s4).trans s6')) (fun z => z) hl7
          · rw [lsP_tk _ hcj, ← List.append_assoc]
            exact A6'.imp fun _ _ r => r.tup (TupK.of_same s7)
      · rintro σ F ⟨_, D, ts, o4, rfl, s4, hD, eD, A⟩
        rw [List.length_map, lrs, List.take_length] at A
        refine ⟨(), D, ts, _, _, rfl, S3.trans s4, hD, eD, ?_⟩
        rw [htk, lsS]
        rw [List.append_assoc] at A
        exact A
    · rintro σ G ⟨_, D, ts, o3, o4, rfl, S, hD, eD, A⟩
      rw [lub, List.take_length] at A
      walk_at "rd"
      exact k _ _ _ S eD hD A
/-! ### what is read is good: sorts, words, depth, numbers of statements and of words -/
mutual
def allS : Stm → List Stm
  | .mk h ps => .mk h ps :: allP ps
def allP : List (List Stm) → List Stm
  | [] => []
  | b :: r => allB b ++ allP r
def allB : List Stm → List Stm
  | [] => []
  | s :: r => allS s ++ allB r
end
mutual
theorem lsS_fst (g : Bool) : ∀ s : Stm, (lsS g s).map (·.1) = allS s
  | .mk h ps => by rw [lsS, allS, List.map_cons, lsP_fst]
theorem lsP_fst (g : Bool) : ∀ ps : List (List Stm), (lsP g ps).map (·.1) = allP ps
  | [] => rfl
  | b :: r => by rw [lsP, allP, List.map_append, lsB_fst g b, lsP_fst g r]
theorem lsB_fst (g : Bool) : ∀ b : List Stm, (lsB g b).map (·.1) = allB b
  | [] => rfl
  | s :: r => by rw [lsB, allB, List.map_append, lsS_fst g s, lsB_fst g r]
end
def wordsH : Hd → List Str
  | .one k w => if k = "raise" then [w] else []
  | .blk _ _ ks => ks
  | .tr ws _ => (ws.map fun o => o.getD []).flatten
  | _ => []
def wN (s : Stm) : Nat := (wordsH s.hd).length + 1
def wP (l : List Stm) : Nat := (l.map wN).sum
theorem wP_app (l m : List Stm) : wP (l ++ m) = wP l + wP m := by unfold wP; rw [List.map_append, List.sum_append]
theorem wP_cons (s : Stm) (m : List Stm) : wP (s :: m) = wN s + wP m := by unfold wP; rw [List.map_cons, List.sum_cons]
def rowN : Row → Nat | none => 0 | some (_, ws) => ws.length
def rS (rows : List Row) (i : Nat) : Nat := ((rows.take i).map rowN).sum
theorem rS_succ {rows : List Row} {n i : Nat} (h : wordsAt rows n i ≠ []) : rS rows (i + 1) = rS rows i + (wordsAt rows n i).length := by
  unfold rS
  rw [List.take_add_one]
  unfold wordsAt at h ⊢
  cases e : rows[i]? with
  | none => rw [e] at h; exact absurd rfl h
  | some r =>
    rw [e] at h
    cases r with
    | none => exact absurd rfl h
    | some p =>
      obtain ⟨m, ws⟩ := p
      dsimp only at h ⊢
      by_cases c : m = n
      · rw [if_pos c, List.map_append, List.sum_append]
        simp [rowN]
      · rw [if_neg c] at h; exact absurd rfl h
structure GP (rows : List Row) (ps : List (List Stm)) (n c w i j : Nat) : Prop where
  ok : ∀ x ∈ allP ps, SOk x
  ne : ∀ b ∈ ps, b ≠ []
  dp : dpP ps + n ≤ 9
  ct : (allP ps).length + c + i ≤ j
  wd : wP (allP ps) + w + rS rows i ≤ rS rows j
structure GS (rows : List Row) (s : Stm) (n c i j : Nat) : Prop where
  ok : ∀ x ∈ allS s, SOk x
  dp : dpS s + n ≤ 9
  ct : (allS s).length + i ≤ j + c
  wd : wP (allS s) + rS rows i ≤ rS rows j + c
structure GB (rows : List Row) (b : List Stm) (n i j : Nat) : Prop where
  ok : ∀ x ∈ allB b, SOk x
  dp : dpB b + n ≤ 9
  ct : (allB b).length + i ≤ j
  wd : wP (allB b) + rS rows i ≤ rS rows j
theorem allB_app : ∀ b c : List Stm, allB (b ++ c) = allB b ++ allB c
  | [], _ => by simp [allB]
  | s :: r, c => by rw [List.cons_append, allB, allB, allB_app r c, List.append_assoc]
theorem allP_app : ∀ b c : List (List Stm), allP (b ++ c) = allP b ++ allP c
  | [], _ => by simp [allP]
  | s :: r, c => by rw [List.cons_append, allP, allP, allP_app r c, List.append_assoc]
theorem dpB_app : ∀ b c : List Stm, dpB (b ++ c) = max (dpB b) (dpB c)
  | [], _ => by simp [dpB]
  | s :: r, c => by rw [List.cons_append, dpB, dpB, dpB_app r c, Nat.max_assoc]
theorem dpP_app : ∀ b c : List (List Stm), dpP (b ++ c) = max (dpP b) (dpP c)
  | [], _ => by simp [dpP]
  | s :: r, c => by rw [List.cons_append, dpP, dpP, dpP_app r c, Nat.max_assoc]
theorem allB_one (s : Stm) : allB [s] = allS s := by simp [allB]
theorem allP_one (b : List Stm) : allP [b] = allB b := by simp [allP]
theorem GB.snoc {rows : List Row} {b : List Stm} {s : Stm} {n i j k : Nat} (B : GB rows b n i j) (S : GS rows s n 0 j k) : GB rows (b ++ [s]) n i k :=
  ⟨fun x hx => by
    rw [allB_app, allB_one] at hx
    rcases List.mem_append.mp hx with hx | hx
    · exact B.ok x hx
    · exact S.ok x hx, by
    have := B.dp; have := S.dp
    rw [dpB_app]; simp only [dpB]; omega, by
    have := B.ct; have := S.ct
    rw [allB_app, allB_one, List.length_append]; omega, by
    have := B.wd; have := S.wd
    rw [allB_app, allB_one, wP_app]; omega⟩
theorem GP.snoc {rows : List Row} {ps : List (List Stm)} {b : List Stm} {n c w i j k : Nat} (P : GP rows ps n c w i j) (B : GB rows b n j k) (h : b ≠ []) : GP rows (ps ++ [b]) n c w i k :=
  ⟨fun x hx => by
    rw [allP_app, allP_one] at hx
    rcases List.mem_append.mp hx with hx | hx
    · exact P.ok x hx
    · exact B.ok x hx, fun x hx => by
    rcases List.mem_append.mp hx with hx | hx
    · exact P.ne x hx
    · rw [List.mem_singleton.mp hx]; exact h, by
    have := P.dp; have := B.dp
    rw [dpP_app]; simp only [dpP]; omega, by
    have := P.ct; have := B.ct
    rw [allP_app, allP_one, List.length_append]; omega, by
    have := P.wd; have := B.wd
    rw [allP_app, allP_one, wP_app]; omega⟩
theorem GP.mk_ {rows : List Row} {h : Hd} {ps : List (List Stm)} {n c w i j : Nat} (P : GP rows ps (n + 1) c w i j) (o : HdOk h) (hw : (wordsH h).length + 1 ≤ w + (1 - c)) : GS rows (.mk h ps) n (1 - c) i j :=
  ⟨fun x hx => by
    rw [allS] at hx
    rcases List.mem_cons.mp hx with rfl | hx
    · exact ⟨o, P.ne⟩
    · exact P.ok x hx, by have := P.dp; rw [dpS]; omega, by have := P.ct; rw [allS, List.length_cons]; omega, by have := P.wd; rw [allS, wP_cons]; show (wordsH h).length + 1 + _ + _ ≤ _; omega⟩
/-- a statement with nothing inside it -/
theorem GP.nil {rows : List Row} {n w i j : Nat} (h : n ≤ 9) (hi : i ≤ j) (hw : w + rS rows i ≤ rS rows j) : GP rows [] n (j - i) w i j :=
  ⟨(fun x hx => nomatch hx), (fun x hx => nomatch hx), by rw [dpP]; omega, by rw [allP]; simp only [List.length_nil]; omega, by rw [allP]; show 0 + _ + _ ≤ _; omega⟩
theorem rd_good {rows : List Row} (hr : RowsOk rows) : ∀ k,
    (∀ n i mk b j mk1, n ≤ 8 → rdB rows k n i mk = some (.ok b j mk1) → GB rows b n i j ∧ b ≠ []) ∧
    (∀ n i0 i mk acc b j mk1, n ≤ 8 → GB rows acc n i0 i → rdL rows k n i mk acc = some (.ok b j mk1) → GB rows b n i0 j ∧ b ≠ []) ∧
    (∀ n i mk s j mk1, n ≤ 8 → wordsAt rows n i ≠ [] → rdS rows k n i mk = some (.ok s j mk1) → GS rows s n 0 i j) ∧
    (∀ n i mk s j mk1, n ≤ 7 → rdT rows k n i mk = some (.ok s j mk1) → GS rows s n 1 i j) ∧
    (∀ n i0 i mk b hw hb op s j mk1, n ≤ 7 → GP rows (b :: hb) (n + 1) 0 (hw.map fun o => o.getD []).flatten.length i0 i → (∀ l, some l ∈ hw → ∀ w ∈ l, IsWord w) → rdH rows k n i mk b hw hb op = some (.ok s j mk1) → GS rows s n 1 i0 j)
  | 0 => by
    refine ⟨?_, ?_, ?_, ?_, ?_⟩
    · intro n i mk b j mk1 _ h; rw [rdB] at h; cases h
    · intro n i0 i mk acc b j mk1 _ _ h; rw [rdL] at h; cases h
    · intro n i mk s j mk1 _ _ h; rw [rdS] at h; cases h
    · intro n i mk s j mk1 _ h; rw [rdT] at h; cases h
    · intro n i0 i mk b hw hb op s j mk1 _ _ _ h; rw [rdH] at h; cases h
  | k + 1 => by
    obtain ⟨hB, hL, hS, hT, hH⟩ := rd_good hr k
    refine ⟨?_, ?_, ?_, ?_, ?_⟩
    · intro n i mk b j mk1 hn h
      rw [rdB] at h
      exact hL n i i mk [] b j mk1 hn ⟨(fun x hx => nomatch hx), by rw [dpB]; omega, by rw [allB]; simp, by rw [allB]; show 0 + _ ≤ _; omega⟩ h
    · intro n i0 i mk acc b j mk1 hn A h
      rw [rdL] at h
      split at h
      · split at h
        · cases h
        · rename_i c
          cases h
          exact ⟨A, fun e => c (by rw [e]; rfl)⟩
      · rename_i c0
        have hne : wordsAt rows n i ≠ [] := fun e => c0 (by rw [e]; rfl)
        split at h
        · cases h
        · cases h
        · rename_i s j1 mk2 e
          exact hL _ _ _ _ _ _ _ _ hn (A.snoc (hS _ _ _ _ _ _ hn hne e)) h
    · intro n i mk s j mk1 hn hne h
      have iw := (wordsAt_ok hr (n := n) (i := i)).1
      have hsu := rS_succ hne
      have hl : 0 < (wordsAt rows n i).length := List.length_pos_iff.mpr hne
      have one : ∀ w, w ≤ (wordsAt rows n i).length → GP rows [] (n + 1) 1 w i (i + 1) := fun w hw => by
        have := GP.nil (rows := rows) (n := n + 1) (w := w) (i := i) (j := i + 1) (by omega) (by omega) (by omega)
        rwa [show i + 1 - i = 1 by omega] at this
      rw [rdS] at h
      split at h
      · rename_i c
        split at h
        · cases h
          exact (one 1 (by omega)).mk_ (h := .sim _) c (Nat.le_refl _)
        · cases h
      · split at h
        · rename_i c
          split at h
          · rename_i c2
            cases h
            refine (one 2 (by omega)).mk_ (h := .one _ _) ⟨c, ?_⟩ ?_
            · rw [List.getD_eq_getElem?_getD, List.getElem?_eq_getElem (by omega)]
              exact iw _ (List.getElem_mem _)
            · show (if fstW (wordsAt rows n i) = "raise" then [(wordsAt rows n i).getD 1 ""] else []).length + 1 ≤ 2
              split
              · exact Nat.le_refl _
              · exact Nat.le_succ _
          · cases h
        · split at h
          · cases h
          · rename_i c3
            have h8 : n ≠ 8 := fun e => c3 (.inr e)
            split at h
            · split at h
              · cases h
              · rename_i c4
                split at h
                · cases h
                · split at h
                  · cases h
                  · cases h
                  · rename_i b j1 mk2 e
                    obtain ⟨B, nb⟩ := hB _ _ _ _ _ _ (by omega) e
                    cases h
                    refine GP.mk_ (c := 1) (w := (wordsAt rows n i).length) (((one _ (Nat.le_refl _)).snoc B nb)) (h := .blk _ _ _) ⟨?_, fun w hw => iw w (List.mem_of_mem_drop hw)⟩ ?_
                    · cases q : modeS ((wordsAt rows n i).getD 1 "") with
                      | true => rfl
                      | false => exact absurd (.inr (.inl q)) c4
                    · show (List.drop 3 _).length + 1 ≤ _
                      rw [List.length_drop]; omega
            · rename_i c5
              split at h
              · cases h
              · split at h
                · have G := hT _ _ _ _ _ _ (by omega) h
                  exact ⟨G.ok, G.dp, by have := G.ct; omega, by have := G.wd; omega⟩
                · rename_i c6
                  split at h
                  · cases h
                  · cases h
                  · rename_i b j1 mk2 e
                    obtain ⟨B, nb⟩ := hB _ _ _ _ _ _ (by omega) e
                    cases h
                    refine GP.mk_ (c := 1) (w := 1) (((one _ (by omega)).snoc B nb)) (h := .gua _) ?_ (Nat.le_refl _)
                    have c7 : fstW (wordsAt rows n i) ∈ (["block", "maybe", "repeat", "try"] : List Str) := Decidable.byContradiction fun z => c3 (.inl z)
                    generalize fstW (wordsAt rows n i) = f at c5 c6 c7
                    have c7 : f = "block" ∨ f = "maybe" ∨ f = "repeat" ∨ f = "try" := by simpa using c7
                    rcases c7 with rfl | rfl | rfl | rfl
                    · exact absurd rfl c5
                    · show _ ∈ _; simp
                    · show _ ∈ _; simp
                    · exact absurd rfl c6
    · intro n i mk s j mk1 hn h
      rw [rdT] at h
      split at h
      · cases h
      · cases h
      · rename_i b j1 mk2 e
        obtain ⟨B, nb⟩ := hB _ _ _ _ _ _ (by omega) e
        have P : GP rows [] (n + 1) 0 0 i i := ⟨(fun x hx => nomatch hx), (fun x hx => nomatch hx), by rw [dpP]; omega, by rw [allP]; simp, by rw [allP]; show 0 + _ + _ ≤ _; omega⟩
        exact hH _ _ _ _ b [] [] _ _ _ _ hn (P.snoc B nb) (fun l hl => nomatch hl) h
    · intro n i0 i mk b hw hb op s j mk1 hn P hwd h
      have iw := (wordsAt_ok hr (n := n) (i := i)).1
      rw [rdH] at h
      split at h
      · rename_i c0
        have hne : wordsAt rows n i ≠ [] := fun e => by rw [e] at c0; exact absurd c0.2 (by simp)
        have hsu := rS_succ hne
        have hl : 0 < (wordsAt rows n i).length := List.length_pos_iff.mpr hne
        split at h
        · cases h
        · cases h
        · rename_i c j1 mk2 e
          obtain ⟨B, nb⟩ := hB _ _ _ _ _ _ (by omega) e
          have P1 : GP rows (b :: hb) (n + 1) 0 ((hw ++ [if (wordsAt rows n i).drop 1 = [] then none else some ((wordsAt rows n i).drop 1)]).map fun o => o.getD []).flatten.length i0 (i + 1) := by
            refine ⟨P.ok, P.ne, P.dp, by have := P.ct; omega, ?_⟩
            have := P.wd
            rw [List.map_append, List.flatten_append, List.length_append]
            have e2 : (([if (wordsAt rows n i).drop 1 = [] then none else some ((wordsAt rows n i).drop 1)] : List (Option (List Str))).map fun o => o.getD []).flatten.length ≤ (wordsAt rows n i).length := by
              by_cases z : (wordsAt rows n i).drop 1 = []
              · rw [if_pos z]; simp
              · rw [if_neg z]; simp
            omega
          have P2 := P1.snoc B nb
          refine hH _ _ _ _ _ _ _ _ _ _ _ hn P2 (fun l hl w hw' => ?_) h
          rcases List.mem_append.mp hl with hl | hl
          · exact hwd l hl w hw'
          · have hl := List.mem_singleton.mp hl
            split at hl
            · cases hl
            · cases hl
              exact iw w (List.mem_of_mem_drop hw')
      · split at h
        · rename_i c0
          have hne : wordsAt rows n i ≠ [] := fun e => by rw [e] at c0; exact absurd c0 (by simp)
          have hsu := rS_succ hne
          split at h
          · cases h
          · cases h
          · rename_i c j1 mk2 e
            obtain ⟨B, nb⟩ := hB _ _ _ _ _ _ (by omega) e
            cases h
            have P1 : GP rows (b :: hb) (n + 1) 0 (hw.map fun o => o.getD []).flatten.length i0 (i + 1) :=
              ⟨P.ok, P.ne, P.dp, by have := P.ct; omega, by have := P.wd; omega⟩
            exact (P1.snoc B nb).mk_ (h := .tr hw true) hwd (Nat.le_refl _)
        · split at h
          · cases h
          · cases h
            exact P.mk_ (h := .tr hw false) hwd (Nat.le_refl _)
/-! ### free_statements, words_of -/
theorem ok_listed (T : Txt K mg a d) : ∀ n, FnOk P w K mg base CX0 (n + 4) a.listed_statements d.listed_statements ["body", "is_guarded"] (spListed n)
  | 0 => fn_noneX fun vs H Q E ⟨_, b, g, p, us, _, _, _, _, h, _⟩ => by omega
  | n + 1 => ok_listed_succ T n (ok_listed T n)
def freeB (b : List Stm) : List Stm := ((lsB false b).filter fun x => !x.2).map (·.1)
structure GoodB (b : List Stm) : Prop where
  ok : ∀ x ∈ allB b, SOk x
  dp : dpB b < 9
  ct : (allB b).length ≤ 100000
theorem GoodB.ls {b : List Stm} (g : Bool) (h : GoodB b) : (∀ x ∈ lsB g b, SOk x.1) ∧ dpB b < 9 ∧ (lsB g b).length ≤ 100000 :=
  ⟨fun x hx => h.ok x.1 (by rw [← lsB_fst g]; exact List.mem_map_of_mem hx), h.dp, by have := h.ct; rw [← lsB_fst g, List.length_map] at this; exact this⟩
abbrev StsAt (H : Hp) (vs : List V) (ss : List Stm) : Prop := A2 (fun v s => SAt H s v) vs ss
def spFree : Sp := fun vs H Q _ => ∃ (_ : Unit) (b : List Stm) (p : Addr) (us : List V), vs = [.ref p] ∧ H p = some (.tup us) ∧ BAt H b us ∧ GoodB b ∧
  ∀ H' l ws, Same H H' → H' l = some (.lst ws) → H l = none → StsAt H' ws (freeB b) → Q (.ref l) H'
theorem A2.filt {α β : Type} {R : α → β → Prop} {f : β → Bool} {f' : α → Bool} (e : ∀ x y, R x y → f' x = f y) : ∀ {xs : List α} {ys : List β}, A2 R xs ys → A2 R (xs.filter f') (ys.filter f)
  | _, _, .nil => .nil
  | _, _, .cons (x := x) (y := y) h t => by
    have ih := A2.filt e t
    have := e _ _ h
    rw [List.filter_cons, List.filter_cons, this]
    split
    · exact .cons h ih
    · exact ih
theorem ok_free_statements (T : Txt K mg a d) : FnOk P w K mg base CX0 14 a.free_statements d.free_statements ["body"] spFree := by
  have G_listed_statements : FnOk P w K mg base CX0 13 a.listed_statements d.listed_statements ["body", "is_guarded"] (spListed 9) := ok_listed T 9
  obtain ⟨_, vd1_ls, bd1_ls⟩ := bd1_ls0 T
  refine T.free_statements.ok sc_free_statements (fun vs H Q E h => ?_) (fun cdv A outer s H vs Q E hr h => ?_)
  · obtain ⟨_, _, _, _, rfl, _⟩ := h
    rfl
  · obtain ⟨_, b, p, us, rfl, hp, hb, hg, k⟩ := h
    refine ⟨_, (pss_one (ps_ret (pe_lc (own := [("statement", 1), ("is_guarded", 2)]) rfl sc_free_statements.nd (pi_list (pe_call G_listed_statements (hr.mono (by omega)) (by rfl) T.g_listed_statements T.listed_statements.kp bd1_ls vd1_ls pass0 (pa_cons (pv 0) pa_nil))) (blkOk_by (own := [("statement", 1), ("is_guarded", 2)]) (N := ["body", "statement", "is_guarded"]) (sc := defScope s_free_statements) (by decide +kernel)) (fun _ _ _ _ _ => (pg_tupK (K := K) 2 rfl rfl (pgs_cons (pg_name (i := 1) sc_free_statements.nd rfl (Or.inl rfl)) (pgs_cons (pg_name (i := 2) sc_free_statements.nd rfl (Or.inl rfl)) pgs_nil)))) (fun _ _ _ _ _ => (pts_one (pt_not (pt_val (pv 2))))) (fun _ _ _ _ _ => (pv 1))))), ?_⟩
    dsimp only [cxOf]
    walk_at "rd"
    obtain ⟨z1, z2, z3⟩ := hg.ls false
    refine ⟨(), b, false, p, us, rfl, hp, hb, z1, z2, z3, fun H1 l ts s1 hl nl A => ?_⟩
    walk_at "rd"
    refine ⟨⟨_, SqL.of hl⟩, fun D hD => ?_⟩
    have lts := A.len
    refine lc_list (xs := ts.map V.ref) (fun i G => ∃ ws : List V, Same H1 G ∧ G D = some (.lst ws) ∧ ws.length ≤ i ∧ StsAt G ws ((((lsB false b).take i).filter fun x => !x.2).map (·.1))) ?_ ?_ ?_ ?_
    · exact ⟨[], (Same.refl _).new hD, upd_same, Nat.le_refl _, .nil⟩
    · rintro i G _ ⟨ws, s2, _⟩
      exact SqL.of (s2 _ _ hl)
    · rintro i v G hv ⟨ws, s2, hG, lw, hA⟩
      obtain ⟨t, hti, rfl⟩ : ∃ t, ts[i]? = some t ∧ v = V.ref t := by
        rw [List.getElem?_map] at hv
        cases q : ts[i]? with
        | none => rw [q] at hv; cases hv
        | some t => rw [q] at hv; cases hv; exact ⟨t, rfl, rfl⟩
      have li : i < ts.length := (List.getElem?_eq_some_iff.mp hti).1
      obtain ⟨⟨s, g⟩, hbi, u, ht, hs⟩ := A.at hti
      have ht2 := s2 _ _ ht
      have hs2 := hs.tup (TupK.of_same s2)
      have lz : ws.length < sizeLine := by rw [sizeLine_eq]; omega
      rw [List.take_add_one, hbi, List.filter_append, List.map_append]
      walk_at "rd"
      cases g with
      | true =>
        refine iteF ?_
        exact ⟨ws, s2, hG, by omega, by rw [show ((some (s, true)).toList.filter fun x => !x.2) = [] from rfl, List.map_nil, List.append_nil]; exact hA⟩
      | false =>
        refine iteT ?_
        walk_at "rd"
        have k2 : TupK G (upd G D (.lst (ws ++ [u]))) := TupK.set hG
        exact ⟨s2.frsh hD, upd_same, by rw [List.length_append]; simp only [List.length_cons, List.length_nil]; omega, (hA.imp fun _ _ r => r.tup k2).app (.cons (hs2.tup k2) .nil)⟩
    · rintro G ⟨ws, s2, hG, lw, hA⟩
      rw [List.length_map, lts, List.take_length] at hA
      walk_at "rd"
      exact k _ _ _ (s1.trans s2) hG (Kp.none (S := fun _ => False) (Kp.of_same s1) (fun z => z) hD) hA
def spWords : Sp := fun vs H Q _ => ∃ (_ : Unit) (h : Hd) (ps : List (List Stm)) (v : V), vs = [v] ∧ SAt H (.mk h ps) v ∧ HdOk h ∧ (wordsH h).length ≤ 100000 ∧
  ∀ H' l, Same H H' → H' l = some (.lst ((wordsH h).map V.str)) → H l = none → Q (.ref l) H'
theorem ok_words_of (T : Txt K mg a d) : FnOk P w K mg base CX0 1 a.words_of d.words_of ["statement"] spWords := by
  refine T.words_of.ok sc_words_of (fun vs H Q E h => ?_) (fun cdv A outer s H vs Q E hr h => ?_)
  · obtain ⟨_, _, _, v, rfl, _⟩ := h
    rfl
  · obtain ⟨_, h, ps, v, rfl, ⟨p, xs, rs, rfl, hp, hh, hps⟩, hok, lw, k⟩ := h
    refine ⟨_, (pss_cons (ps_if (pt_cmpR op_eq (pe_ix ix_tup (pv 0) pe_int (fun _ _ => rfl)) pe_str (nomark _)) (pss_one (ps_ret (pe_lst (pa_cons (pe_ix ix_tup (pv 0) pe_int (fun _ _ => rfl)) pa_nil)))) pss_nil)
  (pss_cons (ps_if (pt_cmpR op_eq (pe_ix ix_tup (pv 0) pe_int (fun _ _ => rfl)) pe_str (nomark _)) (pss_one (ps_ret (pe_callTy call_list_of (by rfl) T.n_list (by decide +kernel) (pa_cons (pe_ix ix_tup (pv 0) pe_int (fun _ _ => rfl)) pa_nil)))) pss_nil)
  (pss_cons (ps_set (i := 1) sc_words_of.nd rfl (Or.inl rfl) (pe_lst pa_nil))
  (pss_cons (ps_if (pt_cmpR op_eq (pe_ix ix_tup (pv 0) pe_int (fun _ _ => rfl)) pe_str (nomark _)) (pss_one (ps_for PassesOwn.never rfl (pi_tup (pe_ix ix_tup (pv 0) pe_int (fun _ _ => rfl))) (pg_tup rfl (pgs_cons (pg_name (i := 2) sc_words_of.nd rfl (Or.inl rfl)) (pgs_cons (pg_name (i := 3) sc_words_of.nd rfl (Or.inl rfl)) pgs_nil)))
  (pss_one (ps_set (i := 1) sc_words_of.nd rfl (Or.inl rfl) (pe_op op_cat (pv 1) (pe_callTy call_list_of (by rfl) T.n_list (by decide +kernel) (pa_cons (pe_ifExp (pt_cmpR op_notN (pv 2) pe_non (nomark _)) (pv 2) (pe_tup pa_nil)) pa_nil))))))) pss_nil)
  (pss_one (ps_ret (pv 1))))))), ?_⟩
    dsimp only [cxOf]
    have a0 : ∀ (x : V) (t : List V), atI (x :: t) 0 = some x := fun x t => (atI_nat rfl : atI (x :: t) ((0 : Nat) : Int) = _)
    have a1 : ∀ (y x : V) (t : List V), atI (y :: x :: t) 1 = some x := fun y x t => (atI_nat rfl : atI (y :: x :: t) ((1 : Nat) : Int) = _)
    have a2 : ∀ (z y x : V) (t : List V), atI (z :: y :: x :: t) 2 = some x := fun z y x t => (atI_nat rfl : atI (z :: y :: x :: t) ((2 : Nat) : Int) = _)
    have a3 : ∀ (u z y x : V) (t : List V), atI (u :: z :: y :: x :: t) 3 = some x := fun u z y x t => (atI_nat rfl : atI (u :: z :: y :: x :: t) ((3 : Nat) : Int) = _)
    have fin : ∀ {l : Addr} {H' : Hp}, Same H H' → H' l = none → Q (.ref l) (upd H' l (.lst ((wordsH h).map V.str))) := fun s hl =>
      k _ _ (s.new hl) upd_same (Kp.none (S := fun _ => False) (Kp.of_same s) (fun z => z) hl)
    obtain ⟨t, rfl⟩ := hh.fst
    have b0 := a0 (.str (kdS h)) t
    walk_at "rd"
    refine ite2 (fun c1 => ?_) (fun c1 => ?_)
    · have e1 : kdS h = "raise" := V.str.inj (of_decide_eq_true c1)
      cases h with
      | one kd w =>
        obtain ⟨rfl, e⟩ := hh
        rw [e] at hp
        have b1 := a1 (.str kd) (.str w) []
        rw [show wordsH (.one kd w) = [w] from if_pos e1] at fin
        walk_at "rd"
        intro l hl
        exact fin (Same.refl H) hl
      | sim w => rcases in2 hok with z | z <;> (rw [show kdS (.sim w) = w from rfl, z] at e1; exact absurd e1 (by decide))
      | gua w => rcases inG hok with z | z <;> (rw [show kdS (.gua w) = w from rfl, z] at e1; exact absurd e1 (by decide))
      | blk _ _ _ => rw [show kdS (.blk _ _ _) = "block" from rfl] at e1; exact absurd e1 (by decide)
      | tr _ _ => rw [show kdS (.tr _ _) = "try" from rfl] at e1; exact absurd e1 (by decide)
    have d1 : kdS h ≠ "raise" := fun e => c1 (decide_eq_true (by rw [e]))
    walk_at "rd"
    refine ite2 (fun c2 => ?_) (fun c2 => ?_)
    · obtain ⟨n, m, ks, rfl⟩ := hok.blk (V.str.inj (of_decide_eq_true c2))
      obtain ⟨q, r, rfl, e, hq⟩ := hh
      rw [e] at hp
      have b3 := a3 (.str "block") (.int (n : Int)) (.str m) (.ref q) [.ref r]
      walk_at "rd"
      intro l hl
      exact fin (Same.refl H) hl
    have d2 : kdS h ≠ "block" := fun e => c2 (decide_eq_true (by rw [e]))
    walk_at "rd"
    intro l1 hl1
    have s1 := (Same.refl H).new (o := .lst []) hl1
    have e1 := upd_same (H := H) (a := l1) (o := .lst [])
    have nl1 := hl1
    generalize upd H l1 (.lst []) = H1 at s1 e1 ⊢
    have hp1 := s1 _ _ hp
    walk_at "rd"
    by_cases d3 : kdS h = "try"
    · rw [decide_eq_true (show V.str (kdS h) = V.str "try" by rw [d3])]
      refine iteT ?_
      obtain ⟨ws, fn, rfl⟩ := hok.tr d3
      obtain ⟨r0, rr, q, ts, fv, e, hq, hts, lrr, hf⟩ := hh
      rw [e] at hp1
      have b2 := a2 (.str "try") (.ref r0) (.ref q) [fv]
      have hq1 := s1 _ _ hq
      walk_at "rd"
      refine ⟨⟨_, SqT.of hq1⟩, ?_⟩
      refine for_tup (xs := ts.map V.ref) (fun i σ G => ∃ (_ : Unit) (D : Addr) (o2 o3 : Option V), σ = [some (.ref p), some (.ref D), o2, o3] ∧ Same H G ∧ H D = none ∧ G D = some (.lst ((((ws.take i).map fun o => o.getD []).flatten).map V.str))) ?_ ?_ ?_ ?_
      · exact ⟨(), l1, none, none, rfl, s1, nl1, e1⟩
      · rintro i σ G _ ⟨_, D, o2, o3, rfl, s2, _⟩
        exact SqT.of (s2 _ _ hq)
      · rintro i v σ G hv ⟨_, D, o2, o3, rfl, s2, hD, eD⟩
        obtain ⟨t, hti, rfl⟩ : ∃ t, ts[i]? = some t ∧ v = V.ref t := by
          rw [List.getElem?_map] at hv
          cases q : ts[i]? with
          | none => rw [q] at hv; cases hv
          | some t => rw [q] at hv; cases hv; exact ⟨t, rfl, rfl⟩
        obtain ⟨⟨o, r⟩, hzi, lv, ht, hlv⟩ := hts.at hti
        have hwi : ws[i]? = some o := by
          have := congrArg (Option.map Prod.fst) hzi
          rw [← List.getElem?_map, List.map_fst_zip (by omega)] at this
          exact this
        have ht2 := s2 _ _ ht
        have etk : ((ws.take (i + 1)).map fun o => o.getD []).flatten = ((ws.take i).map fun o => o.getD []).flatten ++ o.getD [] := by
          rw [List.take_add_one, hwi, List.map_append, List.flatten_append]; simp
        have ll : (((ws.take i).map fun o => o.getD []).flatten).length + (o.getD []).length ≤ 100000 := by
          have e : wordsH (.tr ws fn) = ((ws.take (i + 1)).map fun o => o.getD []).flatten ++ ((ws.drop (i + 1)).map fun o => o.getD []).flatten := by
            rw [← List.flatten_append, ← List.map_append, List.take_append_drop]; rfl
          rw [e, etk, List.length_append, List.length_append] at lw
          omega
        have fin2 : ∀ (F : Hp), Same H F → ∀ l7 (v3 : V), F l7 = none → ∃ (_ : Unit) (D' : Addr) (o2 o3 : Option V), [some (.ref p), some (.ref l7), some lv, some v3] = [some (.ref p), some (.ref D'), o2, o3] ∧ Same H (upd F l7 (.lst (((((ws.take i).map fun o => o.getD []).flatten).map V.str) ++ (o.getD []).map V.str))) ∧ H D' = none ∧ upd F l7 (.lst (((((ws.take i).map fun o => o.getD []).flatten).map V.str) ++ (o.getD []).map V.str)) D' = some (.lst ((((ws.take (i + 1)).map fun o => o.getD []).flatten).map V.str)) := fun F sF l7 v3 h7 =>
          ⟨(), l7, _, _, rfl, sF.new h7, Kp.none (S := fun _ => False) (Kp.of_same sF) (fun z => z) h7, by rw [upd_same, etk, List.map_append]⟩
        cases o with
        | none =>
          have hlv : lv = .non := hlv
          subst hlv
          walk_at "rd"
          intro e hee
          have s3 := (Same.refl G).new (o := .tup []) hee
          have e3 := upd_same (H := G) (a := e) (o := .tup [])
          have eD3 := s3 _ _ eD
          generalize upd G e (.tup []) = G3 at s3 e3 eD3 ⊢
          refine ⟨e, [], rfl, .inr (SqT.of e3), fun l6 hl6 => ?_⟩
          have s4 := (Same.refl G3).new (o := .lst []) hl6
          have e4 := upd_same (H := G3) (a := l6) (o := .lst [])
          have eD4 := s4 _ _ eD3
          generalize upd G3 l6 (.lst []) = G4 at s4 e4 eD4 ⊢
          walk_at "rd"
          refine ⟨by simp only [List.length_map, List.length_nil]; rw [sizeLine_eq]; omega, fun l7 hl7 => ?_⟩
          exact fin2 G4 ((s2.trans s3).trans s4) l7 _ hl7
        | some l =>
          obtain ⟨y, rfl, hy⟩ := hlv
          have hy2 := s2 _ _ hy
          walk_at "rd"
          intro l6 hl6
          have s4 := (Same.refl G).new (o := .lst (l.map V.str)) hl6
          have e4 := upd_same (H := G) (a := l6) (o := .lst (l.map V.str))
          have eD4 := s4 _ _ eD
          generalize upd G l6 (.lst (l.map V.str)) = G4 at s4 e4 eD4 ⊢
          walk_at "rd"
          refine ⟨by simp only [List.length_map]; rw [sizeLine_eq]; exact Nat.le_trans ll (by decide), fun l7 hl7 => ?_⟩
          exact fin2 G4 (s2.trans s4) l7 _ hl7
      · rintro σ G ⟨_, D, o2, o3, rfl, s2, hD, eD⟩
        have lts := hts.len
        rw [List.length_zip] at lts
        rw [List.length_map, List.take_of_length_le (by omega)] at eD
        walk_at "rd"
        exact k _ _ s2 eD hD
    · rw [decide_eq_false (fun e => d3 (V.str.inj e))]
      refine iteF ?_
      walk_at "rd"
      have e0 : wordsH h = [] := by
        cases h with
        | one kd w => exact if_neg d1
        | sim w => rfl
        | gua w => rfl
        | blk _ _ _ => exact absurd rfl d2
        | tr _ _ => exact absurd rfl d3
      rw [e0] at k
      exact k _ _ s1 e1 nl1
/-! ### comes_back -/
theorem nodup_le {α : Type} [BEq α] [LawfulBEq α] : ∀ {xs ys : List α}, xs.Nodup → (∀ x ∈ xs, x ∈ ys) → xs.length ≤ ys.length
  | [], _, _, _ => Nat.zero_le _
  | x :: r, ys, h, s => by
    obtain ⟨h1, h2⟩ := List.nodup_cons.mp h
    have hx := s x List.mem_cons_self
    have := nodup_le (ys := ys.erase x) h2 fun z hz => (List.mem_erase_of_ne (fun e : z = x => h1 (e ▸ hz))).mpr (s z (List.mem_cons_of_mem _ hz))
    rw [List.length_erase_of_mem hx] at this
    have := List.length_pos_of_mem hx
    rw [List.length_cons]; omega
abbrev Calls := List (Str × List Str)
def callOf (cs : Calls) (x : Str) : List Str := ((cs.find? fun p => decide (p.1 = x)).map (·.2)).getD []
inductive Rch (cs : Calls) (x : Str) : Str → Prop
  | one {y : Str} : y ∈ callOf cs x → Rch cs x y
  | more {y z : Str} : Rch cs x y → z ∈ callOf cs y → Rch cs x z
open Classical in
noncomputable def backB (cs : Calls) (x : Str) : Bool := decide (Rch cs x x)
def clK (cs : Calls) (ls : List Addr) : List (Key × V) := (cs.zip ls).map fun x => (Sum.inr x.1.1, .ref x.2)
def CallsAt (H : Hp) (c : Addr) (cs : Calls) : Prop := ∃ ls : List Addr, H c = some (.dK (clK cs ls)) ∧ A2 (fun l p => H l = some (.lst (p.2.map V.str))) ls cs
theorem CallsAt.same {H H' : Hp} {c : Addr} {cs : Calls} (s : Same H H') (h : CallsAt H c cs) : CallsAt H' c cs := by
  obtain ⟨ls, h1, h2⟩ := h
  exact ⟨ls, s _ _ h1, h2.imp fun _ _ r => s _ _ r⟩
theorem clK_get {H : Hp} : ∀ {cs : Calls} {ls : List Addr}, A2 (fun l p => H l = some (.lst (p.2.map V.str))) ls cs → ∀ {x : Str}, x ∈ cs.map (·.1) → ∃ l, valV (clK cs ls) (Sum.inr x) = some (.ref l) ∧ H l = some (.lst ((callOf cs x).map V.str))
  | _, _, .nil, _, h => nomatch h
  | _, _, .cons (x := l) (y := p) (xs := lt) (ys := ct) h t, x, hx => by
    by_cases e : p.1 = x
    · refine ⟨l, ?_, ?_⟩
      · unfold clK valV
        rw [List.zip_cons_cons, List.map_cons, List.find?_cons_of_pos (by simpa using e)]; rfl
      · unfold callOf
        rw [List.find?_cons_of_pos (by simpa using e)]
        exact h
    · have hx : x ∈ ct.map (·.1) := by
        rcases List.mem_cons.mp hx with z | z
        · exact absurd z.symm e
        · exact z
      obtain ⟨l', a1, a2⟩ := clK_get t hx
      refine ⟨l', ?_, ?_⟩
      · unfold clK valV at a1 ⊢
        rw [List.zip_cons_cons, List.map_cons, List.find?_cons_of_neg (by simpa using e)]
        exact a1
      · unfold callOf at a2 ⊢
        rw [List.find?_cons_of_neg (by simpa using e)]
        exact a2
structure ClsOk (cs : Calls) : Prop where
  nn : (cs.map (·.1)).Nodup
  cl : ∀ x, ∀ y ∈ callOf cs x, y ∈ cs.map (·.1)
  ll : ∀ x, (callOf cs x).length ≤ 100000
  ln : cs.length ≤ 100000
structure CbI (cs : Calls) (name : Str) (rs : List Str) : Prop where
  pre : ∃ ext, rs = callOf cs name ++ ext ∧ ext.Nodup ∧ ∀ y ∈ ext, y ∈ cs.map (·.1)
  rc : ∀ y ∈ rs, Rch cs name y
theorem CbI.le {cs : Calls} {name : Str} {rs : List Str} (h : CbI cs name rs) : rs.length ≤ (callOf cs name).length + cs.length := by
  obtain ⟨ext, rfl, nd, sb⟩ := h.pre
  have := nodup_le nd sb
  rw [List.length_map] at this
  rw [List.length_append]; omega
theorem CbI.add {cs : Calls} {name y : Str} {rs : List Str} (h : CbI cs name rs) (ny : y ∉ rs) (r : Rch cs name y) (hy : y ∈ cs.map (·.1)) : CbI cs name (rs ++ [y]) := by
  obtain ⟨ext, rfl, nd, sb⟩ := h.pre
  refine ⟨⟨ext ++ [y], by rw [List.append_assoc], ?_, fun z hz => ?_⟩, fun z hz => ?_⟩
  · refine List.nodup_append.mpr ⟨nd, by simp, fun a ha b hb e => ?_⟩
    rw [List.mem_singleton.mp hb] at e
    exact ny (List.mem_append_right _ (e ▸ ha))
  · rcases List.mem_append.mp hz with hz | hz
    · exact sb z hz
    · rw [List.mem_singleton.mp hz]; exact hy
  · rcases List.mem_append.mp hz with hz | hz
    · exact h.rc z hz
    · rw [List.mem_singleton.mp hz]; exact r
theorem CbI.key {cs : Calls} {name : Str} {rs : List Str} (o : ClsOk cs) (h : CbI cs name rs) : ∀ y ∈ rs, y ∈ cs.map (·.1) := fun y hy => by
  obtain ⟨ext, rfl, _, sb⟩ := h.pre
  rcases List.mem_append.mp hy with z | z
  · exact o.cl _ _ z
  · exact sb _ z
/-- all that are reached, once every one of rs is looked at -/
theorem Rch.all {cs : Calls} {name : Str} {rs : List Str} (h : ∀ y ∈ callOf cs name, y ∈ rs) (c : ∀ x ∈ rs, ∀ y ∈ callOf cs x, y ∈ rs) : ∀ {y}, Rch cs name y → y ∈ rs
  | _, .one e => h _ e
  | _, .more r e => c _ (Rch.all h c r) _ e
theorem flat_strs {l : List Str} : (l.map V.str).all flatV = true := by
  rw [List.all_map, List.all_eq_true]; intro z _; rfl
def spCome : Sp := fun vs H Q _ => ∃ (_ : Unit) (name : Str) (c : Addr) (cs : Calls), vs = [.str name, .ref c] ∧ CallsAt H c cs ∧ ClsOk cs ∧ name ∈ cs.map (·.1) ∧
  ∀ H', Same H H' → Q (.bl (backB cs name)) H'
theorem ok_comes_back (T : Txt K mg a d) : FnOk P w K mg base CX0 1 a.comes_back d.comes_back ["name", "calls"] spCome := by
  refine T.comes_back.ok sc_comes_back (fun vs H Q E h => ?_) (fun cdv A outer s H vs Q E hr h => ?_)
  · obtain ⟨_, name, c, cs, rfl, _⟩ := h
    rfl
  · obtain ⟨_, name, c, cs, rfl, hc, ok, hn, k⟩ := h
    refine ⟨_, (pss_cons (ps_set (i := 2) sc_comes_back.nd rfl (Or.inl rfl) (pe_callTy call_list_of (by rfl) T.n_list (by decide +kernel) (pa_cons (pe_dget (hu_of hr) (pv 1) (pv 0) (fun _ _ => rfl)) pa_nil)))
  (pss_cons (ps_set (i := 3) sc_comes_back.nd rfl (Or.inl rfl) pe_int)
  (pss_cons (ps_while PassesOwn.never (pt_cmpR op_lt (pv 3) (pe_callB call_len_seq (by rfl) T.n_len PySem.boot_len (pa_cons (pv 2) pa_nil)) (nomark _))
  (pss_cons (ps_for PassesOwn.never rfl (pi_list (pe_dget (hu_of hr) (pv 1) (pe_ix ix_list (pv 2) (pv 3) (fun _ _ => rfl)) (fun _ _ => rfl))) (pg_name (i := 4) sc_comes_back.nd rfl (Or.inl rfl))
  (pss_one (ps_if (pt_cmpR op_notIn_seq (pv 4) (pv 2) (by rfl)) (pss_one (ps_expr (pe_bm PySem.F.plainAttrs_list PySem.F.slot_list_append PySem.F.type_list_append mt_append (pv 2) (pa_cons (pv 4) pa_nil)))) pss_nil)))
  (pss_one (ps_aug (i := 3) sc_comes_back.nd rfl (Or.inl rfl) pe_int ip_add))))
  (pss_one (ps_ret (pe_cmpR op_in_seq (pv 0) (pv 2) (by rfl))))))), ?_⟩
    dsimp only [cxOf]
    obtain ⟨ls, hd, hls⟩ := hc
    obtain ⟨l0, v0, hl0⟩ := clK_get hls hn
    have get : ∀ {F : Hp} {x : Str} {l : Addr}, F c = some (.dK (clK cs ls)) → valV (clK cs ls) (Sum.inr x) = some (.ref l) → DGet F c (.str x) (some (.ref l)) := fun {F x l} e v => by
      have := DGet.k (k := Sum.inr x) e
      rw [v] at this
      exact this
    walk_at "rd"
    refine ⟨get hd v0, ?_⟩
    walk_at "rd"
    intro R hR
    have s1 := (Same.refl H).new (o := .lst ((callOf cs name).map V.str)) hR
    have e1 := upd_same (H := H) (a := R) (o := .lst ((callOf cs name).map V.str))
    generalize upd H R (.lst ((callOf cs name).map V.str)) = H1 at s1 e1 ⊢
    walk_at "rd"
    have llc := ok.ll name
    have lln := ok.ln
    refine ⟨fun m σ G => ∃ (_ : Unit) (rs : List Str) (j : Nat) (o4 : Option V), σ = [some (.str name), some (.ref c), some (.ref R), some (.int (j : Int)), o4] ∧ Same H G ∧ G R = some (.lst (rs.map V.str)) ∧ CbI cs name rs ∧ j ≤ rs.length ∧ (∀ y ∈ callOf cs name, y ∈ rs) ∧ (∀ x ∈ rs.take j, ∀ y ∈ callOf cs x, y ∈ rs) ∧ m = (callOf cs name).length + cs.length - j, ⟨_, (), callOf cs name, 0, none, rfl, s1, e1, ⟨⟨[], by simp, by simp, by simp⟩, fun y hy => .one hy⟩, Nat.zero_le _, fun y hy => hy, fun x hx => absurd hx (by simp), rfl⟩, ?_⟩
    rintro m σ G ⟨_, rs, j, o4, rfl, s2, hG, I, lj, hc0, hc1, rfl⟩
    have lrs := I.le
    walk_at "rd"
    refine ite2 (fun c0 => ?_) (fun c0 => ?_)
    · have lj2 : j < rs.length := by have := of_decide_eq_true c0; rw [List.length_map] at this; omega
      have hat : atI (rs.map V.str) (j : Int) = some (.str rs[j]) := atI_nat (by rw [List.getElem?_map, List.getElem?_eq_getElem lj2]; rfl)
      have hm : rs[j] ∈ rs := List.getElem_mem lj2
      obtain ⟨l, v1, hl⟩ := clK_get hls (I.key ok _ hm)
      have rj := I.rc _ hm
      have etk : rs.take (j + 1) = rs.take j ++ [rs[j]] := by rw [List.take_add_one, List.getElem?_eq_getElem lj2]; rfl
      generalize rs[j] = x at hat hm v1 hl rj etk
      have llx := ok.ll x
      refine ⟨fun σ' G' => ∃ (_ : Unit) (rs' : List Str) (o4 : Option V), σ' = [some (.str name), some (.ref c), some (.ref R), some (.int ((j + 1 : Nat) : Int)), o4] ∧ Same H G' ∧ G' R = some (.lst (rs'.map V.str)) ∧ CbI cs name rs' ∧ j + 1 ≤ rs'.length ∧ (∀ y ∈ callOf cs name, y ∈ rs') ∧ (∀ x ∈ rs'.take (j + 1), ∀ y ∈ callOf cs x, y ∈ rs'), fun σ' G' ⟨_, rs', o4, h1, h2, h3, h4, h5, h6, h7⟩ => ⟨_, by omega, (), rs', j + 1, o4, h1, h2, h3, h4, h5, h6, h7, rfl⟩, ?_⟩
      have hd2 := s2 _ _ hd
      walk_at "rd"
      refine ⟨get hd2 v1, ?_⟩
      walk_at "rd"
      have nRl : R ≠ l := fun e => by rw [e, hl] at hR; cases hR
      refine ⟨⟨_, SqL.of (s2 _ _ hl)⟩, ?_⟩
      refine for_list (xs := (callOf cs x).map V.str) (fun i σ G => ∃ (_ : Unit) (rs' : List Str) (o4 : Option V), σ = [some (.str name), some (.ref c), some (.ref R), some (.int (j : Int)), o4] ∧ Same H G ∧ G R = some (.lst (rs'.map V.str)) ∧ CbI cs name rs' ∧ rs <+: rs' ∧ (∀ y ∈ (callOf cs x).take i, y ∈ rs')) ?_ ?_ ?_ ?_
      · exact ⟨(), rs, o4, rfl, s2, hG, I, List.prefix_refl _, fun y hy => absurd hy (by simp)⟩
      · rintro i σ F _ ⟨_, rs', o4, rfl, s3, _⟩
        exact SqL.of (s3 _ _ hl)
      · rintro i v σ F hv ⟨_, rs', o4, rfl, s3, hF, I3, pf, hy3⟩
        obtain ⟨y, hyi, rfl⟩ : ∃ y, (callOf cs x)[i]? = some y ∧ v = V.str y := by
          rw [List.getElem?_map] at hv
          cases e : (callOf cs x)[i]? with
          | none => rw [e] at hv; cases hv
          | some y => rw [e] at hv; cases hv; exact ⟨y, rfl, rfl⟩
        have ym : y ∈ callOf cs x := List.mem_of_getElem? hyi
        have lr3 := I3.le
        walk_at "rd"
        refine ⟨flat_strs, ?_⟩
        rw [show (if true = true then !inV (V.str y) (rs'.map V.str) else inV (V.str y) (rs'.map V.str)) = !decide (y ∈ rs') from (if_pos rfl).trans (congrArg (fun b => !b) inV_strL)]
        by_cases d : y ∈ rs'
        · rw [decide_eq_true d]
          refine ⟨_, rfl, iteF ?_⟩
          refine ⟨(), rs', _, rfl, s3, hF, I3, pf, fun z hz => ?_⟩
          rw [List.take_add_one, hyi] at hz
          rcases List.mem_append.mp hz with hz | hz
          · exact hy3 z hz
          · rw [List.mem_singleton.mp hz]; exact d
        · rw [decide_eq_false d]
          refine ⟨_, rfl, iteT ?_⟩
          walk_at "rd"
          refine ⟨by rw [List.length_map, sizeLine_eq]; omega, (), rs' ++ [y], _, rfl, s3.frsh hR, by rw [upd_same, List.map_append]; rfl, I3.add d (.more rj ym) (ok.cl _ _ ym), pf.trans (List.prefix_append _ _), fun z hz => ?_⟩
          rw [List.take_add_one, hyi] at hz
          rcases List.mem_append.mp hz with hz | hz
          · exact List.mem_append_left _ (hy3 z hz)
          · exact List.mem_append_right _ hz
      · rintro σ F ⟨_, rs', o4, rfl, s3, hF, I3, pf, hy3⟩
        rw [List.length_map, List.take_length] at hy3
        walk_at "rd"
        refine ⟨(), rs', _, rfl, s3, hF, I3, by have := pf.length_le; omega, fun y hy => pf.subset (hc0 y hy), fun z hz y hy => ?_⟩
        have e : rs'.take (j + 1) = rs.take (j + 1) := by
          obtain ⟨t, rfl⟩ := pf
          rw [List.take_append_of_le_length (by omega)]
        rw [e, etk] at hz
        rcases List.mem_append.mp hz with hz | hz
        · exact pf.subset (hc1 z hz y hy)
        · rw [List.mem_singleton.mp hz] at hy; exact hy3 y hy
    · have lj2 : j = rs.length := by
        rcases Nat.lt_or_ge j rs.length with l | g
        · exact absurd (decide_eq_true (by rw [List.length_map]; omega)) c0
        · omega
      walk_at "rd"
      refine ⟨flat_strs, ?_⟩
      rw [show (if false = true then !inV (V.str name) (rs.map V.str) else inV (V.str name) (rs.map V.str)) = decide (name ∈ rs) from inV_strL]
      have e : decide (name ∈ rs) = backB cs name := by
        unfold backB
        rw [lj2, List.take_length] at hc1
        exact decide_eq_decide.mpr ⟨fun h => I.rc _ h, fun h => Rch.all hc0 hc1 h⟩
      rw [e]
      exact k _ s2
/-! ### weight_of, body_weight -/
def namesF (fs : List Fun) : List Str := fs.map (·.name)
def bodyOf (fs : List Fun) (w : Str) : List Stm := ((fs.find? fun f => decide (f.name = w)).map (·.body)).getD []
def callee (fs : List Fun) (s : Stm) : Option Str := match s.hd with
  | .one k w => if k = "call" ∧ w ∈ namesF fs then some w else none
  | _ => none
def callsB (fs : List Fun) (b : List Stm) : List Str := (freeB b).filterMap (callee fs)
def wtF (fs : List Fun) : Nat → Str → Nat
  | 0, _ => 0
  | n + 1, w => ((freeB (bodyOf fs w)).map fun s => 1 + match callee fs s with | some y => wtF fs n y | none => 0).sum
def wtB (fs : List Fun) (n : Nat) (b : List Stm) : Nat := ((freeB b).map fun s => 1 + match callee fs s with | some y => wtF fs n y | none => 0).sum
theorem wtF_succ (fs : List Fun) (n : Nat) (w : Str) : wtF fs (n + 1) w = wtB fs n (bodyOf fs w) := by rw [wtF]; rfl
def Hb (fs : List Fun) : Nat → Str → Prop
  | 0, _ => False
  | n + 1, w => ∀ y ∈ callsB fs (bodyOf fs w), Hb fs n y
theorem wtF_st (fs : List Fun) : ∀ n m w, Hb fs n w → n ≤ m → wtF fs m w = wtF fs n w
  | 0, _, _, h, _ => h.elim
  | n + 1, 0, _, _, h => by omega
  | n + 1, m + 1, w, h, hm => by
    rw [wtF, wtF]
    refine congrArg List.sum (List.map_congr_left fun s hs => ?_)
    cases e : callee fs s with
    | none => rfl
    | some y =>
      show 1 + wtF fs m y = 1 + wtF fs n y
      rw [wtF_st fs n m y (h y (List.mem_filterMap.mpr ⟨s, hs, e⟩)) (by omega)]
theorem Hb.up {fs : List Fun} : ∀ {n m w}, Hb fs n w → n ≤ m → Hb fs m w
  | 0, _, _, h, _ => h.elim
  | n + 1, 0, _, _, h => by omega
  | n + 1, m + 1, w, h, hm => fun y hy => Hb.up (h y hy) (by omega)
structure LbAt (H : Hp) (bd : Addr) (fs : List Fun) : Prop where
  ex : ∃ ps, H bd = some (.dK (bdK fs ps)) ∧ A2 (BodyAt H) ps fs
structure LbOk (fs : List Fun) : Prop where
  nn : (namesF fs).Nodup
  gb : ∀ f ∈ fs, GoodB f.body
  ln : fs.length ≤ 100000
theorem DGet.r {H : Hp} {a : Addr} {kvs : List (Key × V)} {k : Key} (e : Rd H a (.dK kvs)) : DGet H a (kV k) (valV kvs k) := .inl ⟨kvs, k, e, rfl, rfl⟩
/-- the dict may be locked -/
structure RbAt (H : Hp) (bd : Addr) (fs : List Fun) : Prop where
  ex : ∃ ps, Rd H bd (.dK (bdK fs ps)) ∧ A2 (BodyAt H) ps fs
theorem LbAt.rb {H : Hp} {bd : Addr} {fs : List Fun} (h : LbAt H bd fs) : RbAt H bd fs := by
  obtain ⟨ps, h1, h2⟩ := h.ex
  exact ⟨ps, .inl h1, h2⟩
theorem Rd.to {H H' : Hp} {b : Addr} {o : HO} (h : Rd H b o) (k : ∀ u, H b = some u → H' b = some u) : Rd H' b o := h.elim (fun e => .inl (k _ e)) fun ⟨od, e⟩ => .inr ⟨od, k _ e⟩
theorem RbAt.keep {H H' : Hp} {bd kd : Addr} {fs : List Fun} {kvs : List (Key × V)} (h : RbAt H bd fs) (k : Kp (fun b => b = kd) H H') (hk : H kd = some (.dK kvs)) (n : bd ≠ kd) : RbAt H' bd fs := by
  obtain ⟨ps, h1, h2⟩ := h.ex
  exact ⟨ps, Rd.to h1 fun u e => k _ _ e n, h2.imp fun _ _ r => r.tup fun b l e => k _ _ e fun z => by rw [z, hk] at e; cases e⟩
theorem RbAt.same {H H' : Hp} {bd : Addr} {fs : List Fun} (h : RbAt H bd fs) (s : Same H H') : RbAt H' bd fs := by
  obtain ⟨ps, h1, h2⟩ := h.ex
  exact ⟨ps, Rd.to h1 fun u e => s _ _ e, h2.imp fun _ _ r => r.tup (TupK.of_same s)⟩
theorem LbAt.keep {H H' : Hp} {bd kd : Addr} {fs : List Fun} {kvs : List (Key × V)} (h : LbAt H bd fs) (k : Kp (fun b => b = kd) H H') (hk : H kd = some (.dK kvs)) (n : bd ≠ kd) : LbAt H' bd fs := by
  obtain ⟨ps, h1, h2⟩ := h.ex
  exact ⟨ps, k _ _ h1 n, h2.imp fun _ _ r => r.tup fun b l e => k _ _ e fun z => by rw [z, hk] at e; cases e⟩
theorem LbAt.same {H H' : Hp} {bd : Addr} {fs : List Fun} (h : LbAt H bd fs) (s : Same H H') : LbAt H' bd fs := by
  obtain ⟨ps, h1, h2⟩ := h.ex
  exact ⟨ps, s _ _ h1, h2.imp fun _ _ r => r.tup (TupK.of_same s)⟩
theorem bdK_get {H : Hp} : ∀ {fs : List Fun} {ps : List Addr}, A2 (BodyAt H) ps fs → ∀ {x : Str}, x ∈ namesF fs → ∃ p vs, valV (bdK fs ps) (Sum.inr x) = some (.ref p) ∧ H p = some (.tup vs) ∧ BAt H (bodyOf fs x) vs
  | _, _, .nil, _, h => nomatch h
  | _, _, .cons (x := l) (y := p) (xs := lt) (ys := ct) h t, x, hx => by
    by_cases e : p.name = x
    · obtain ⟨vs, h1, h2⟩ := h
      refine ⟨l, vs, ?_, h1, ?_⟩
      · unfold bdK valV
        rw [List.zip_cons_cons, List.map_cons, List.find?_cons_of_pos (by simpa using e)]; rfl
      · unfold bodyOf
        rw [List.find?_cons_of_pos (by simpa using e)]
        exact h2
    · have hx : x ∈ namesF ct := by
        rcases List.mem_cons.mp hx with z | z
        · exact absurd z.symm e
        · exact z
      obtain ⟨l', vs, a1, a2, a3⟩ := bdK_get t hx
      refine ⟨l', vs, ?_, a2, ?_⟩
      · unfold bdK valV at a1 ⊢
        rw [List.zip_cons_cons, List.map_cons, List.find?_cons_of_neg (by simpa using e)]
        exact a1
      · unfold bodyOf at a3 ⊢
        rw [List.find?_cons_of_neg (by simpa using e)]
        exact a3
theorem bodyOf_mem {fs : List Fun} {x : Str} (h : x ∈ namesF fs) : ∃ f ∈ fs, f.name = x ∧ f.body = bodyOf fs x := by
  unfold bodyOf
  cases e : fs.find? fun f => decide (f.name = x) with
  | none =>
    obtain ⟨f, hf, rfl⟩ := List.mem_map.mp h
    exact absurd (List.find?_eq_none.mp e f hf) (by simp)
  | some f => exact ⟨f, List.mem_of_find?_eq_some e, by have := List.find?_some e; simpa using this, rfl⟩
/-- the memory of weights -/
def KnAt (H : Hp) (kd : Addr) (fs : List Fun) : Prop := ∃ ks : List Str, H kd = some (.dK (ks.map fun x => (Sum.inr x, .int (wtF fs 13 x : Int)))) ∧ ks.Nodup ∧ ∀ x ∈ ks, x ∈ namesF fs
theorem kn_get {fs : List Fun} {ks : List Str} {x : Str} : valV (ks.map fun x => ((Sum.inr x : Key), V.int (wtF fs 13 x : Int))) (Sum.inr x) = if x ∈ ks then some (.int (wtF fs 13 x : Int)) else none := by
  by_cases h : x ∈ ks
  · rw [if_pos h]
    induction ks with
    | nil => cases h
    | cons y r ih =>
      unfold valV at ih ⊢
      rw [List.map_cons]
      by_cases e : y = x
      · rw [List.find?_cons_of_pos (by simpa using e), e]; rfl
      · rw [List.find?_cons_of_neg (by simpa using e)]
        exact ih ((List.mem_cons.mp h).resolve_left fun z => e z.symm)
  · rw [if_neg h]
    refine valV_none fun z => h ?_
    obtain ⟨p, hp, e⟩ := List.mem_map.mp z
    obtain ⟨y, hy, rfl⟩ := List.mem_map.mp hp
    cases e; exact hy
theorem kn_put {fs : List Fun} {ks : List Str} {x : Str} : putK (ks.map fun x => ((Sum.inr x : Key), V.int (wtF fs 13 x : Int))) (Sum.inr x) (.int (wtF fs 13 x : Int)) = (if x ∈ ks then ks else ks ++ [x]).map fun x => ((Sum.inr x : Key), V.int (wtF fs 13 x : Int)) := by
  by_cases h : x ∈ ks
  · rw [if_pos h]
    unfold putK
    rw [if_pos (List.any_eq_true.mpr ⟨_, List.mem_map_of_mem h, by simp⟩), List.map_map]
    refine List.map_congr_left fun y hy => ?_
    show (if (Sum.inr y : Key) = Sum.inr x then _ else _) = _
    by_cases e : y = x
    · rw [if_pos (by rw [e]), e]
    · rw [if_neg fun z => e (Sum.inr.inj z)]
  · rw [if_neg h, putK_new _ (by rw [kn_get, if_neg h]), List.map_append]; rfl
structure WtI (H0 H : Hp) (bd kd : Addr) (fs : List Fun) : Prop where
  k : Kp (fun b => b = kd) H0 H
  lb : RbAt H bd fs
  kn : KnAt H kd fs
  ok : LbOk fs
  ac : ∀ x ∈ namesF fs, Hb fs 13 x
  ne : bd ≠ kd
theorem WtI.same {H0 H H' : Hp} {bd kd : Addr} {fs : List Fun} (h : WtI H0 H bd kd fs) (s : Same H H') : WtI H0 H' bd kd fs :=
  ⟨h.k.trans (Kp.of_same s), h.lb.same s, by obtain ⟨ks, h1, h2⟩ := h.kn; exact ⟨ks, s _ _ h1, h2⟩, h.ok, h.ac, h.ne⟩
theorem WtI.trans {H0 H H' : Hp} {bd kd : Addr} {fs : List Fun} (h : WtI H0 H bd kd fs) (h' : WtI H H' bd kd fs) : WtI H0 H' bd kd fs :=
  ⟨h.k.trans h'.k, h'.lb, h'.kn, h'.ok, h'.ac, h'.ne⟩
def spWtOf (n : Nat) : Sp := fun vs H Q _ => ∃ (_ : Unit) (x : Str) (bd kd : Addr) (fs : List Fun), vs = [.str x, .ref bd, .ref kd] ∧ WtI H H bd kd fs ∧ x ∈ namesF fs ∧ Hb fs n x ∧
  ∀ H', WtI H H' bd kd fs → Q (.int (wtF fs 13 x : Int)) H'
def spWtB (n : Nat) : Sp := fun vs H Q _ => ∃ (_ : Unit) (b : List Stm) (p : Addr) (us : List V) (bd kd : Addr) (fs : List Fun), vs = [.ref p, .ref bd, .ref kd] ∧ H p = some (.tup us) ∧ BAt H b us ∧ GoodB b ∧ WtI H H bd kd fs ∧ (∀ y ∈ callsB fs b, Hb fs n y) ∧
  ∀ H', WtI H H' bd kd fs → Q (.int (wtB fs 13 b : Int)) H'
theorem ok_weight_succ (T : Txt K mg a d) (n : Nat) (G_body_weight : FnOk P w K mg base CX0 (2 * n + 17) a.body_weight d.body_weight ["body", "bodies", "known"] (spWtB n)) : FnOk P w K mg base CX0 (2 * (n + 1) + 16) a.weight_of d.weight_of ["name", "bodies", "known"] (spWtOf (n + 1)) := by
  refine T.weight_of.ok (k := 2 * n + 17) sc_weight_of (fun vs H Q E h => ?_) (fun cdv A outer s H vs Q E hr h => ?_)
  · obtain ⟨_, _, _, _, _, rfl, _⟩ := h
    rfl
  · obtain ⟨_, x, bd, kd, fs, rfl, I, hx, hb, k⟩ := h
    refine ⟨_, (pss_cons (ps_if (pt_cmp (pc_dnotin (hu_of hr) (pv 0) (pv 2))) (pss_one (ps_dput (hu_of hr) (pv 2) (pv 0) (pe_call G_body_weight (hr.mono (by omega)) (by rfl) T.g_body_weight T.body_weight.kp T.b_body_weight .nil pass0 (pa_cons (pe_dget (hu_of hr) (pv 1) (pv 0) (fun _ _ => rfl)) (pa_cons (pv 1) (pa_cons (pv 2) pa_nil)))) rfl)) pss_nil)
  (pss_one (ps_ret (pe_dget (hu_of hr) (pv 2) (pv 0) (fun _ _ => rfl))))), ?_⟩
    try dsimp only [cxOf]
    obtain ⟨ks, hk, nk, sk⟩ := I.kn
    walk_at "rd"
    refine ⟨_, rfl, DGet.k (k := Sum.inr x) hk, ?_⟩
    rw [kn_get]
    have fin : ∀ {F : Hp} {ks : List Str}, F kd = some (.dK (ks.map fun x => ((Sum.inr x : Key), V.int (wtF fs 13 x : Int)))) → x ∈ ks → DGet F kd (.str x) (some (.int (wtF fs 13 x : Int))) := fun {F ks} e m => by
      have := DGet.k (k := Sum.inr x) e
      rw [kn_get, if_pos m] at this
      exact this
    by_cases d : x ∈ ks
    · rw [if_pos d]
      refine ⟨_, rfl, iteF ?_⟩
      walk_at "rd"
      refine ⟨fin hk d, ?_⟩
      exact k _ I
    · rw [if_neg d]
      refine ⟨_, rfl, iteT ?_⟩
      obtain ⟨pb, hbd, hbs⟩ := I.lb.ex
      obtain ⟨p, us, v1, hp, hbat⟩ := bdK_get hbs hx
      walk_at "rd"
      obtain ⟨f, hf, _, ebf⟩ := bodyOf_mem hx
      have gb : DGet H bd (.str x) (some (.ref p)) := by
        have := DGet.r (k := Sum.inr x) hbd
        rw [v1] at this
        exact this
      refine ⟨gb, ?_⟩
      walk_at "rd"
      refine ⟨(), bodyOf fs x, p, us, bd, kd, fs, rfl, hp, hbat, by rw [← ebf]; exact I.ok.gb f hf, I, fun y hy => hb y hy, fun G I2 => ?_⟩
      obtain ⟨ks2, hk2, nk2, sk2⟩ := I2.kn
      have lk : ks2.length ≤ 100000 := by
        have := nodup_le nk2 sk2
        have e : (namesF fs).length = fs.length := by unfold namesF; rw [List.length_map]
        have := I.ok.ln
        omega
      have ew : wtB fs 13 (bodyOf fs x) = wtF fs 13 x := by rw [← wtF_succ]; exact wtF_st fs 13 14 x (I.ac x hx) (by omega)
      rw [ew]
      walk_at "rd"
      refine ⟨_, rfl, DPut.k (k := Sum.inr x) hk2 (by rw [List.length_map, sizeLine_eq]; omega), ?_⟩
      rw [kn_put]
      have mem : x ∈ (if x ∈ ks2 then ks2 else ks2 ++ [x]) := by split; assumption; simp
      have nd : (if x ∈ ks2 then ks2 else ks2 ++ [x]).Nodup := by
        split
        · exact nk2
        · rename_i z
          exact List.nodup_append.mpr ⟨nk2, by simp, fun a ha b hb e => z (by rw [← List.mem_singleton.mp hb, ← e]; exact ha)⟩
      have sk : ∀ y ∈ (if x ∈ ks2 then ks2 else ks2 ++ [x]), y ∈ namesF fs := by
        split
        · exact sk2
        · intro y hy
          rcases List.mem_append.mp hy with hy | hy
          · exact sk2 y hy
          · rw [List.mem_singleton.mp hy]; exact hx
      generalize (if x ∈ ks2 then ks2 else ks2 ++ [x]) = ks3 at mem nd sk
      have e3 := upd_same (H := G) (a := kd) (o := .dK (ks3.map fun x => ((Sum.inr x : Key), V.int (wtF fs 13 x : Int))))
      have k3 : Kp (fun b => b = kd) G (upd G kd (.dK (ks3.map fun x => ((Sum.inr x : Key), V.int (wtF fs 13 x : Int))))) := Kp.refl.set1
      have I3 : WtI H _ bd kd fs := ⟨I2.k.trans k3, I2.lb.keep k3 hk2 I2.ne, ⟨ks3, e3, nd, sk⟩, I.ok, I.ac, I.ne⟩
      walk_at "rd"
      refine ⟨fin e3 mem, ?_⟩
      exact k _ I3
theorem ok_bodyw (T : Txt K mg a d) (n : Nat) (G_weight_of : FnOk P w K mg base CX0 (2 * n + 16) a.weight_of d.weight_of ["name", "bodies", "known"] (spWtOf n)) : FnOk P w K mg base CX0 (2 * n + 17) a.body_weight d.body_weight ["body", "bodies", "known"] (spWtB n) := by
  have G_free_statements : FnOk P w K mg base CX0 14 a.free_statements d.free_statements ["body"] spFree := ok_free_statements T
  refine T.body_weight.ok (k := 2 * n + 16) sc_body_weight (fun vs H Q E h => ?_) (fun cdv A outer s H vs Q E hr h => ?_)
  · obtain ⟨_, _, _, _, _, _, _, rfl, _⟩ := h
    rfl
  · obtain ⟨_, b, p, us, bd, kd, fs, rfl, hp, hb, hg, I, hc, k⟩ := h
    refine ⟨_, (pss_cons (ps_set (i := 3) sc_body_weight.nd rfl (Or.inl rfl) pe_int)
  (pss_cons (ps_for PassesOwn.never rfl (pi_list (pe_call G_free_statements (hr.mono (by omega)) (by rfl) T.g_free_statements T.free_statements.kp T.b_free_statements .nil pass0 (pa_cons (pv 0) pa_nil))) (pg_name (i := 4) sc_body_weight.nd rfl (Or.inl rfl))
  (pss_cons (ps_aug (i := 3) sc_body_weight.nd rfl (Or.inl rfl) pe_int ip_add)
  (pss_one (ps_if (PW.pt (pw_and (pt_cmpR op_eq (pe_ix ix_tup (pv 4) pe_int (fun _ _ => rfl)) pe_str (nomark _)) (pw_and1 (pt_cmp (pc_din (hu_of hr) (pe_ix ix_tup (pv 4) pe_int (fun _ _ => rfl)) (pv 1)))))) (pss_one (ps_aug (i := 3) sc_body_weight.nd rfl (Or.inl rfl) (pe_call G_weight_of (hr.mono (by omega)) (by rfl) T.g_weight_of T.weight_of.kp T.b_weight_of .nil pass0 (pa_cons (pe_ix ix_tup (pv 4) pe_int (fun _ _ => rfl)) (pa_cons (pv 1) (pa_cons (pv 2) pa_nil)))) ip_add)) pss_nil))))
  (pss_one (ps_ret (pv 3))))), ?_⟩
    try dsimp only [cxOf]
    walk_at "rd"
    refine ⟨(), b, p, us, rfl, hp, hb, hg, fun H1 l ws s1 hl nl A => ?_⟩
    walk_at "rd"
    refine ⟨⟨_, SqL.of hl⟩, ?_⟩
    have lA := A.len
    have I1 := I.same s1
    have nlk : l ≠ kd := fun e => by obtain ⟨_, e2, _⟩ := I.kn; rw [e, e2] at nl; cases nl
    refine for_list (xs := ws) (fun i σ G => ∃ (_ : Unit) (o4 : Option V), σ = [some (.ref p), some (.ref bd), some (.ref kd), some (.int (((((freeB b).take i).map fun s => 1 + match callee fs s with | some y => wtF fs 13 y | none => 0).sum : Nat) : Int)), o4] ∧ WtI H1 G bd kd fs) ?_ ?_ ?_ ?_
    · exact ⟨(), none, rfl, Kp.refl, I1.lb, I1.kn, I1.ok, I1.ac, I1.ne⟩
    · rintro i σ G _ ⟨_, o4, rfl, I2⟩
      exact SqL.of (I2.k _ _ hl nlk)
    · rintro i v σ G hv ⟨_, o4, rfl, I2⟩
      obtain ⟨⟨h, ps⟩, hi, q, xs, rs, rfl, hq, hh, hps⟩ := A.at hv
      have hq2 : G q = some (.tup xs) := I2.k _ _ hq fun e => by obtain ⟨_, e2, _⟩ := I1.kn; rw [e, e2] at hq; cases hq
      obtain ⟨t, rfl⟩ := hh.fst
      have a0 : ∀ (x : V) (t : List V), atI (x :: t) 0 = some x := fun x t => (atI_nat rfl : atI (x :: t) ((0 : Nat) : Int) = _)
      have a1 : ∀ (y x : V) (t : List V), atI (y :: x :: t) 1 = some x := fun y x t => (atI_nat rfl : atI (y :: x :: t) ((1 : Nat) : Int) = _)
      have b0 := a0 (.str (kdS h)) t
      rw [List.take_add_one, hi, List.map_append, List.sum_append]
      have sm : (((some (Stm.mk h ps)).toList.map fun s => 1 + match callee fs s with | some y => wtF fs 13 y | none => 0).sum : Nat) = 1 + match callee fs (.mk h ps) with | some y => wtF fs 13 y | none => 0 := by simp
      rw [sm]
      generalize (((freeB b).take i).map fun s => 1 + match callee fs s with | some y => wtF fs 13 y | none => 0).sum = S
      obtain ⟨hok, _⟩ : SOk (.mk h ps) := by
        have hm := List.mem_of_getElem? hi
        obtain ⟨z, hz, e⟩ := List.mem_map.mp hm
        exact hg.ok _ (by rw [← e, ← lsB_fst false]; exact List.mem_map_of_mem (List.mem_filter.mp hz).1)
      have hcal : ∀ y, callee fs (.mk h ps) = some y → Hb fs n y := fun y e => hc y (List.mem_filterMap.mpr ⟨_, List.mem_of_getElem? hi, e⟩)
      have fin : ∀ (m : Nat) (G' : Hp) (o4 : Option V), (match callee fs (.mk h ps) with | some y => wtF fs 13 y | none => 0) = m → WtI H1 G' bd kd fs → ∃ (_ : Unit) (o : Option V), [some (.ref p), some (.ref bd), some (.ref kd), some (.int ((S : Int) + 1 + (m : Int))), o4] = [some (.ref p), some (.ref bd), some (.ref kd), some (V.int ((S + (1 + match callee fs (.mk h ps) with | some y => wtF fs 13 y | none => 0) : Nat) : Int)), o] ∧ WtI H1 G' bd kd fs := fun m G' o4 em I3 =>
        ⟨(), o4, by rw [em, show ((S : Int) + 1 + (m : Int)) = ((S + (1 + m) : Nat) : Int) by omega], I3⟩
      walk_at "rd"
      refine ite2 (fun c1 => ?_) (fun c1 => ?_)
      · have e1 : kdS h = "call" := V.str.inj (of_decide_eq_true c1)
        cases h with
        | one kd' w =>
          have e1 : kd' = "call" := e1
          subst e1
          obtain ⟨rfl, e⟩ := hh
          rw [e] at hq2
          have b1 := a1 (.str "call") (.str w) []
          obtain ⟨pb, hbd, hbs⟩ := I2.lb.ex
          have lbs := hbs.len
          walk_at "rd"
          refine ⟨_, rfl, DGet.r (k := Sum.inr w) hbd, ?_⟩
          by_cases d : w ∈ namesF fs
          · have ec : callee fs (.mk (.one "call" w) ps) = some w := if_pos ⟨rfl, d⟩
            rw [valV_some (by rw [bdK_keys lbs]; exact inr_mem.mpr d)]
            refine ⟨_, rfl, iteT ?_⟩
            walk_at "rd"
            refine ⟨(), w, bd, kd, fs, rfl, ⟨Kp.refl, I2.lb, I2.kn, I2.ok, I2.ac, I2.ne⟩, d, hcal _ ec, fun G3 I3 => ?_⟩
            walk_at "rd"
            exact fin _ _ _ (by rw [ec]) (I2.trans I3)
          · have ec : callee fs (.mk (.one "call" w) ps) = none := if_neg fun z => d z.2
            rw [valV_none (by rw [bdK_keys lbs]; exact fun z => d (inr_mem.mp z))]
            refine ⟨_, rfl, iteF ?_⟩
            exact fin 0 _ _ (by rw [ec]) I2
        | sim w => rcases in2 hok with z | z <;> (rw [show kdS (.sim w) = w from rfl, z] at e1; exact absurd e1 (by decide))
        | gua w => rcases inG hok with z | z <;> (rw [show kdS (.gua w) = w from rfl, z] at e1; exact absurd e1 (by decide))
        | blk _ _ _ => rw [show kdS (.blk _ _ _) = "block" from rfl] at e1; exact absurd e1 (by decide)
        | tr _ _ => rw [show kdS (.tr _ _) = "try" from rfl] at e1; exact absurd e1 (by decide)
      · have ec : callee fs (.mk h ps) = none := by
          cases h with
          | one kd' w => exact if_neg fun z => c1 (decide_eq_true (by rw [show kdS (.one kd' w) = kd' from rfl, z.1]))
          | _ => rfl
        exact fin 0 _ _ (by rw [ec]) I2
    · rintro σ G ⟨_, o4, rfl, I2⟩
      rw [lA, List.take_length]
      walk_at "rd"
      exact k _ ⟨(Kp.of_same s1).trans I2.k, I2.lb, I2.kn, I2.ok, I2.ac, I2.ne⟩
theorem ok_weight (T : Txt K mg a d) : ∀ n, FnOk P w K mg base CX0 (2 * n + 16) a.weight_of d.weight_of ["name", "bodies", "known"] (spWtOf n)
  | 0 => fn_noneX fun vs H Q E ⟨_, x, bd, kd, fs, _, _, _, h, _⟩ => h
  | n + 1 => ok_weight_succ T n (ok_bodyw T n (ok_weight T n))
/-! ### a library in the heap; what it tells -/
structure LA where
  x : Addr
  dx : Addr
  ll : Addr
  sd : Addr
  bd : Addr
  ml : Addr
  pl : Addr
def liF (L : LA) (z : Str) : List (Str × V) := [("text", .str z), ("lines", .ref L.ll), ("starts", .ref L.sd), ("bodies", .ref L.bd), ("marks", .ref L.ml), ("pairs", .ref L.pl)]
def pairsF (fs : List Fun) : List (Stm × Bool) := (fs.map fun f => lsB false f.body).flatten
def allF (fs : List Fun) : List Stm := (fs.map fun f => allB f.body).flatten
theorem pairsF_fst (fs : List Fun) : (pairsF fs).map (·.1) = allF fs := by
  unfold pairsF allF
  rw [List.map_flatten, List.map_map]
  exact congrArg _ (List.map_congr_left fun f _ => lsB_fst false f.body)
def nameOf (k : Str) (s : Stm) : Option Str := match s.hd with
  | .one k' w => if k' = k then some w else none
  | _ => none
theorem nameOf_one (k k' w : Str) (ps : List (List Stm)) : nameOf k (.mk (.one k' w) ps) = if k' = k then some w else none := rfl
theorem nameOf_no (k : Str) {h : Hd} (ps : List (List Stm)) (c : kdS h ≠ k) : nameOf k (.mk h ps) = none := by
  cases h with
  | one k' w1 => exact if_neg c
  | _ => rfl
def recN (fs : List Fun) : List Str := (allF fs).filterMap (nameOf "write")
def errN (fs : List Fun) : List Str := (["doomed", "missing", "present", "refused", "waits"] : List Str) ++ ((allF fs).map fun s => wordsH s.hd).flatten
def unkN (fs : List Fun) : List Str := ((allF fs).filterMap (nameOf "call")).filter fun w => !decide (w ∈ namesF fs)
structure LibOk (fs : List Fun) (mk : List Mk) : Prop where
  lb : LbOk fs
  wd : wP (allF fs) ≤ 4000
  lm : mk.length ≤ 100000
  ps : ∀ s ∈ allF fs, SOk s
structure LibAt (a : Ad) (H : Hp) (L : LA) (z : Str) (lines : List Str) (fs : List Fun) (mk : List Mk) : Prop where
  ob : H L.x = some (.ins a.Library L.dx (liF L z))
  li : H L.ll = some (.lst (lines.map V.str))
  sd : H L.sd = some (.dK (stK fs))
  bd : LbAt H L.bd fs
  ml : ∃ ms : List Addr, H L.ml = some (.lst (ms.map V.ref)) ∧ A2 (MkAt H) ms mk
  pl : ∃ ts : List Addr, H L.pl = some (.lst (ts.map V.ref)) ∧ A2 (PairAt H) ts (pairsF fs)
  ok : LibOk fs mk
theorem LibAt.same {a : Ad} {H H' : Hp} {L : LA} {z : Str} {lines : List Str} {fs : List Fun} {mk : List Mk} (h : LibAt a H L z lines fs mk) (s : Same H H') : LibAt a H' L z lines fs mk := by
  obtain ⟨ms, m1, m2⟩ := h.ml
  obtain ⟨ts, t1, t2⟩ := h.pl
  exact ⟨s _ _ h.ob, s _ _ h.li, s _ _ h.sd, h.bd.same s, ⟨ms, s _ _ m1, m2.imp fun _ _ r => s _ _ r⟩, ⟨ts, s _ _ t1, t2.imp fun _ _ r => r.tup (TupK.of_same s)⟩, h.ok⟩
theorem wP_len (l : List Stm) : l.length ≤ wP l := by
  induction l with
  | nil => exact Nat.le_refl _
  | cons s r ih => rw [wP_cons, List.length_cons]; unfold wN; omega
theorem setT_snoc (xs : List Str) (k : Str) : setT (xs ++ [k]) = addT k (setT xs) := by
  unfold setT
  rw [List.foldl_append]; rfl
theorem setT_lt {xs : List Str} {n : Nat} (h : xs.length ≤ n) : (setT xs).length ≤ n := Nat.le_trans setT_len h
theorem LibOk.len {fs : List Fun} {mk : List Mk} (h : LibOk fs mk) : (pairsF fs).length ≤ 4000 := by
  have := wP_len (allF fs)
  have := h.wd
  rw [← pairsF_fst, List.length_map] at *
  omega
theorem LibAt.pair {a : Ad} {H : Hp} {L : LA} {z : Str} {lines : List Str} {fs : List Fun} {mk : List Mk} (I : LibAt a H L z lines fs mk) {ts : List Addr} (hts : A2 (PairAt H) ts (pairsF fs)) {i : Nat} {v : V} (hv : (ts.map V.ref)[i]? = some v) :
    ∃ (s : Stm) (g : Bool) (t q : Addr) (xs : List V) (rs : List Addr), v = .ref t ∧ (allF fs)[i]? = some s ∧ H t = some (.tup [.ref q, .bl g]) ∧ H q = some (.tup xs) ∧ HdAt H s.hd rs xs ∧ HdOk s.hd ∧ SAt H s (.ref q) := by
  rw [List.getElem?_map] at hv
  cases e : ts[i]? with
  | none => rw [e] at hv; cases hv
  | some t =>
    rw [e] at hv; cases hv
    obtain ⟨⟨⟨h, ps⟩, g⟩, hp, v, ht, q, xs, rs, rfl, hq, hh, hps⟩ := hts.at e
    have hi : (allF fs)[i]? = some (.mk h ps) := by rw [← pairsF_fst, List.getElem?_map, hp]; rfl
    exact ⟨.mk h ps, g, t, q, xs, rs, rfl, hi, ht, hq, hh, (I.ok.ps _ (List.mem_of_getElem? hi)).1, q, xs, rs, rfl, hq, hh, hps⟩
theorem HdOk.one : ∀ {h : Hd} {k : Str}, HdOk h → kdS h = k → k ∈ (["write", "raise", "call"] : List Str) → ∃ w, h = .one k w
  | .sim w, _, o, rfl, m => by rcases in2 o with z | z <;> (rw [show kdS (.sim w) = w from rfl, z] at m; exact absurd m (by decide))
  | .one k w, _, _, rfl, _ => ⟨w, rfl⟩
  | .blk _ _ _, _, _, rfl, m => by rw [show kdS (.blk _ _ _) = "block" from rfl] at m; exact absurd m (by decide)
  | .gua k, _, o, rfl, m => by rcases inG o with z | z <;> (rw [show kdS (.gua k) = k from rfl, z] at m; exact absurd m (by decide))
  | .tr _ _, _, _, rfl, m => by rw [show kdS (.tr _ _) = "try" from rfl] at m; exact absurd m (by decide)
theorem words_all_le : ∀ l : List Stm, (l.map fun s => wordsH s.hd).flatten.length ≤ wP l
  | [] => Nat.le_refl _
  | s :: r => by
    have := words_all_le r
    rw [wP_cons, List.map_cons, List.flatten_cons, List.length_append]
    unfold wN; omega
theorem words_le {fs : List Fun} {i n : Nat} {s : Stm} (hi : (allF fs)[i]? = some s) (h : wP (allF fs) ≤ n) : (((allF fs).take i).map fun s => wordsH s.hd).flatten.length + (wordsH s.hd).length ≤ n := by
  have h1 := words_all_le ((allF fs).take i ++ [s])
  have e : allF fs = ((allF fs).take i ++ [s]) ++ (allF fs).drop (i + 1) := by
    have := List.take_append_drop (i + 1) (allF fs)
    rw [List.take_add_one, hi] at this
    exact this.symm
  rw [e, wP_app] at h
  rw [List.map_append, List.flatten_append, List.length_append] at h1
  simp only [List.map_cons, List.map_nil, List.flatten_cons, List.flatten_nil, List.append_nil] at h1
  omega
/-- a list that is new -/
def spLs (a : Ad) (X : List Fun → List Mk → List Str) : Sp := fun vs H Q _ => ∃ (_ : Unit) (L : LA) (z : Str) (lines : List Str) (fs : List Fun) (mk : List Mk), vs = [.ref L.x] ∧ LibAt a H L z lines fs mk ∧
  ∀ H' l, Same H H' → H l = none → H' l = some (.lst ((X fs mk).map V.str)) → Q (.ref l) H'
theorem stK_len (fs : List Fun) : (stK fs).length = fs.length := by unfold stK; rw [List.length_map]
theorem new_none {H H' : Hp} (s : Same H H') {l : Addr} (h : H' l = none) : H l = none := Kp.none (S := fun _ => False) (Kp.of_same s) (fun z => z) h
theorem ok_Library_functions (T : Txt K mg a d) : FnOk P w K mg base CX0 1 a.Library_functions d.Library_functions ["self"] (spLs a fun fs _ => sortT (namesF fs)) := by
  refine T.Library_functions.ok sc_Library_functions (fun vs H Q E h => ?_) (fun cdv A outer s H vs Q E hr h => ?_)
  · obtain ⟨_, _, _, _, _, _, rfl, _⟩ := h
    rfl
  · obtain ⟨_, L, z, lines, fs, mk, rfl, I, k⟩ := h
    have c1 := T.k_Library
    have n1 := T.na_Library_bodies
    refine ⟨_, (pss_one (ps_ret (pe_callB (cr_sortDK rfl) (by rfl) T.n_sorted (by decide +kernel) (pa_cons (pe_fld (pv 0) rfl) pa_nil)))), ?_⟩
    try dsimp only [cxOf]
    have ho := I.ob
    obtain ⟨ps, hbd, hbs⟩ := I.bd.ex
    have l2 : List.lookup ("bodies" : Str) (liF L z) = some (.ref L.bd) := rfl
    have ek : (bdK fs ps).map (·.1) = (namesF fs).map Sum.inr := bdK_keys hbs.len
    walk_at "rd"
    intro l hl
    exact k _ _ ((Same.refl H).new hl) hl upd_same
theorem ok_Library_blocks (T : Txt K mg a d) : FnOk P w K mg base CX0 1 a.Library_blocks d.Library_blocks ["self"] (spLs a fun _ mk => mk.map (·.2)) := by
  refine T.Library_blocks.ok sc_Library_blocks (fun vs H Q E h => ?_) (fun cdv A outer s H vs Q E hr h => ?_)
  · obtain ⟨_, _, _, _, _, _, rfl, _⟩ := h
    rfl
  · obtain ⟨_, L, z, lines, fs, mk, rfl, I, k⟩ := h
    have c1 := T.k_Library
    have n1 := T.na_Library_marks
    refine ⟨_, (pss_one (ps_ret (pe_lc (own := [("line", 1), ("mode", 2)]) (tt := tYes) rfl sc_Library_blocks.nd (pi_list (pe_fld (pv 0) rfl)) (blkOk_by (own := [("line", 1), ("mode", 2)]) (N := ["self", "line", "mode"]) (sc := defScope s_Library_blocks) (by decide +kernel)) (fun _ _ _ _ _ => (pg_tupK (K := K) 2 rfl rfl (pgs_cons (pg_name (i := 1) sc_Library_blocks.nd rfl (Or.inl rfl)) (pgs_cons (pg_name (i := 2) sc_Library_blocks.nd rfl (Or.inl rfl)) pgs_nil)))) (fun _ _ _ _ _ => pts_nil) (fun _ _ _ _ _ => (pv 2))))), ?_⟩
    try dsimp only [cxOf]
    have ho := I.ob
    obtain ⟨ms, hml, hms⟩ := I.ml
    have l2 : List.lookup ("marks" : Str) (liF L z) = some (.ref L.ml) := rfl
    have lms := hms.len
    have lm := I.ok.lm
    walk_at "rd"
    refine ⟨⟨_, SqL.of hml⟩, fun D hD => ?_⟩
    refine lc_list (xs := ms.map V.ref) (fun i G => Same H G ∧ G D = some (.lst (((mk.take i).map (·.2)).map V.str))) ?_ ?_ ?_ ?_
    · exact ⟨(Same.refl _).new hD, upd_same⟩
    · rintro i G _ ⟨s1, _⟩
      exact SqL.of (s1 _ _ hml)
    · rintro i v G hv ⟨s1, hG⟩
      obtain ⟨t, hti, rfl⟩ : ∃ t, ms[i]? = some t ∧ v = V.ref t := by
        rw [List.getElem?_map] at hv
        cases q : ms[i]? with
        | none => rw [q] at hv; cases hv
        | some t => rw [q] at hv; cases hv; exact ⟨t, rfl, rfl⟩
      obtain ⟨m, hmi, ht⟩ := hms.at hti
      have ht2 := s1 _ _ ht
      have li : i < ms.length := (List.getElem?_eq_some_iff.mp hti).1
      walk_at "rd"
      refine ⟨by rw [List.length_map, List.length_map, List.length_take, sizeLine_eq]; omega, s1.frsh hD, ?_⟩
      rw [upd_same, List.take_add_one, hmi, List.map_append, List.map_append]; rfl
    · rintro G ⟨s1, hG⟩
      rw [List.length_map, lms, List.take_length] at hG
      walk_at "rd"
      exact k _ _ s1 hD hG
theorem ok_Library_records (T : Txt K mg a d) : FnOk P w K mg base CX0 1 a.Library_records d.Library_records ["self"] (spLs a fun fs _ => sortT (setT (recN fs))) := by
  refine T.Library_records.ok sc_Library_records (fun vs H Q E h => ?_) (fun cdv A outer s H vs Q E hr h => ?_)
  · obtain ⟨_, _, _, _, _, _, rfl, _⟩ := h
    rfl
  · obtain ⟨_, L, z, lines, fs, mk, rfl, I, k⟩ := h
    have c1 := T.k_Library
    have n1 := T.na_Library_pairs
    refine ⟨_, (pss_one (ps_ret (pe_callB (cr_sortTS rfl) (by rfl) T.n_sorted (by decide +kernel) (pa_cons (pe_scT (own := [("statement", 1), ("is_guarded", 2)]) rfl sc_Library_records.nd (pi_list (pe_fld (pv 0) rfl)) (blkOk_by (own := [("statement", 1), ("is_guarded", 2)]) (N := ["self", "statement", "is_guarded"]) (sc := defScope s_Library_records) (by decide +kernel)) (fun _ _ _ _ _ => (pg_tupK (K := K) 2 rfl rfl (pgs_cons (pg_name (i := 1) sc_Library_records.nd rfl (Or.inl rfl)) (pgs_cons (pg_name (i := 2) sc_Library_records.nd rfl (Or.inl rfl)) pgs_nil)))) (fun _ _ _ _ _ => (pts_one (pt_cmpR op_eq (pe_ix (ix_tupK (K := K) rfl) (pv 1) pe_int (fun _ _ => rfl)) pe_str (nomark _)))) (fun _ _ _ _ _ => (pe_ix (ix_tupK (K := K) rfl) (pv 1) pe_int (fun _ _ => rfl)))) pa_nil)))), ?_⟩
    try dsimp only [cxOf]
    have ho := I.ob
    obtain ⟨ts, hpl, hts⟩ := I.pl
    have l2 : List.lookup ("pairs" : Str) (liF L z) = some (.ref L.pl) := rfl
    have lts := hts.len
    have ln := I.ok.len
    walk_at "rd"
    refine ⟨⟨_, SqL.of hpl⟩, fun D hD => ?_⟩
    refine sc_listT (xs := ts.map V.ref) (fun i G => Same H G ∧ G D = some (TSO w D (setT (((allF fs).take i).filterMap (nameOf "write"))))) ?_ ?_ ?_ ?_
    · exact ⟨(Same.refl _).new hD, upd_same⟩
    · rintro i G _ ⟨s1, _⟩
      exact SqL.of (s1 _ _ hpl)
    · rintro i v G hv ⟨s1, hG⟩
      obtain ⟨⟨h, qs⟩, g, t, q, xs, rs, rfl, hi, ht, hq, hh, hok, _⟩ := I.pair hts hv
      change HdAt H h rs xs at hh
      change HdOk h at hok
      have ht2 := s1 _ _ ht
      have hq2 := s1 _ _ hq
      obtain ⟨tx, rfl⟩ := hh.fst
      have a0 : ∀ (x : V) (t : List V), atI (x :: t) 0 = some x := fun x t => (atI_nat rfl : atI (x :: t) ((0 : Nat) : Int) = _)
      have a1 : ∀ (y x : V) (t : List V), atI (y :: x :: t) 1 = some x := fun y x t => (atI_nat rfl : atI (y :: x :: t) ((1 : Nat) : Int) = _)
      have b0 := a0 (.str (kdS h)) tx
      have et : ((allF fs).take (i + 1)).filterMap (nameOf "write") = ((allF fs).take i).filterMap (nameOf "write") ++ (nameOf "write" (.mk h qs)).toList := by
        rw [List.take_add_one, hi, List.filterMap_append]
        cases e : nameOf "write" (.mk h qs) with
        | none => simp [List.filterMap_cons, e]
        | some w => simp [List.filterMap_cons, e]
      have lz : (setT (((allF fs).take i).filterMap (nameOf "write"))).length ≤ 4000 := setT_lt (Nat.le_trans (List.length_filterMap_le _ _) (by rw [List.length_take]; have := wP_len (allF fs); have := I.ok.wd; omega))
      rw [et]
      walk_at "rd"
      by_cases c : kdS h = "write"
      · rw [decide_eq_true (show V.str (kdS h) = V.str "write" by rw [c])]
        obtain ⟨w1, rfl⟩ := hok.one c (by decide)
        obtain ⟨rfl, e⟩ := hh
        rw [e] at hq2
        have b1 := a1 (.str "write") (.str w1) []
        refine iteT ?_
        walk_at "rd"
        refine ⟨by rw [show scanBound = 4096 from rfl]; omega, s1.frsh hD, ?_⟩
        rw [upd_same, nameOf_one, if_pos rfl]
        show _ = some (TSO w D (setT (_ ++ [w1])))
        rw [setT_snoc]
      · rw [decide_eq_false (fun e => c (V.str.inj e))]
        refine iteF ?_
        rw [nameOf_no _ _ c]
        exact ⟨s1, by rw [Option.toList_none, List.append_nil]; exact hG⟩
    · rintro G ⟨s1, hG⟩
      have ll : ts.length = (allF fs).length := by rw [lts, ← pairsF_fst, List.length_map]
      rw [List.length_map, ll, List.take_length] at hG
      walk_at "rd"
      intro p hp
      exact k _ _ (s1.new hp) (new_none s1 hp) upd_same
theorem ok_Library_errors (T : Txt K mg a d) : FnOk P w K mg base CX0 2 a.Library_errors d.Library_errors ["self"] (spLs a fun fs _ => sortT (setT (errN fs))) := by
  have G_words_of : FnOk P w K mg base CX0 1 a.words_of d.words_of ["statement"] spWords := ok_words_of T
  refine T.Library_errors.ok sc_Library_errors (fun vs H Q E h => ?_) (fun cdv A outer s H vs Q E hr h => ?_)
  · obtain ⟨_, _, _, _, _, _, rfl, _⟩ := h
    rfl
  · obtain ⟨_, L, z, lines, fs, mk, rfl, I, k⟩ := h
    have c1 := T.k_Library
    have n1 := T.na_Library_pairs
    have q1 := T.q_DATABASE_ERRORS H
    refine ⟨_, (pss_cons (ps_set (i := 1) sc_Library_errors.nd rfl (Or.inl rfl) (pe_callTy call_list_of (by rfl) T.n_list (by decide +kernel) (pa_cons (pe_glob (v := .ref a.DATABASE_ERRORS) (by rfl) T.g_DATABASE_ERRORS rfl) pa_nil)))
  (pss_cons (ps_for PassesOwn.never rfl (pi_list (pe_fld (pv 0) rfl)) (pg_tup rfl (pgs_cons (pg_name (i := 2) sc_Library_errors.nd rfl (Or.inl rfl)) (pgs_cons (pg_name (i := 3) sc_Library_errors.nd rfl (Or.inl rfl)) pgs_nil)))
  (pss_one (ps_set (i := 1) sc_Library_errors.nd rfl (Or.inl rfl) (pe_op op_cat (pv 1) (pe_call G_words_of (hr.mono (by omega)) (by rfl) T.g_words_of T.words_of.kp T.b_words_of .nil pass0 (pa_cons (pv 2) pa_nil))))))
  (pss_one (ps_ret (pe_callB (cr_sortTS rfl) (by rfl) T.n_sorted (by decide +kernel) (pa_cons (pe_callTy (cr_setTSL rfl) (by rfl) T.n_set (by decide +kernel) (pa_cons (pv 1) pa_nil)) pa_nil)))))), ?_⟩
    try dsimp only [cxOf]
    have ho := I.ob
    obtain ⟨ts, hpl, hts⟩ := I.pl
    have l2 : List.lookup ("pairs" : Str) (liF L z) = some (.ref L.pl) := rfl
    have lts := hts.len
    have lw := I.ok.wd
    walk_at "rd"
    intro D0 hD0
    have s0 := (Same.refl H).new (o := .lst ((["doomed", "missing", "present", "refused", "waits"] : List Str).map V.str)) hD0
    have e0 := upd_same (H := H) (a := D0) (o := .lst ((["doomed", "missing", "present", "refused", "waits"] : List Str).map V.str))
    rw [show [V.str "doomed", V.str "missing", V.str "present", V.str "refused", V.str "waits"] = (["doomed", "missing", "present", "refused", "waits"] : List Str).map V.str from rfl]
    generalize upd H D0 (.lst ((["doomed", "missing", "present", "refused", "waits"] : List Str).map V.str)) = H0 at s0 e0 ⊢
    have ho0 := s0 _ _ ho
    walk_at "rd"
    refine ⟨⟨_, SqL.of (s0 _ _ hpl)⟩, ?_⟩
    refine for_list (xs := ts.map V.ref) (fun i σ G => ∃ (_ : Unit) (D : Addr) (o2 o3 : Option V), σ = [some (.ref L.x), some (.ref D), o2, o3] ∧ Same H G ∧ H D = none ∧ G D = some (.lst (((["doomed", "missing", "present", "refused", "waits"] : List Str) ++ (((allF fs).take i).map fun s => wordsH s.hd).flatten).map V.str))) ?_ ?_ ?_ ?_
    · exact ⟨(), D0, none, none, rfl, s0, hD0, by rw [e0]; rfl⟩
    · rintro i σ G _ ⟨_, D, o2, o3, rfl, s1, _⟩
      exact SqL.of (s1 _ _ hpl)
    · rintro i v σ G hv ⟨_, D, o2, o3, rfl, s1, hD, hG⟩
      obtain ⟨⟨h, qs⟩, g, t, q, xs, rs, rfl, hi, ht, hq, hh, hok, hs⟩ := I.pair hts hv
      change HdOk h at hok
      have ht2 := s1 _ _ ht
      have lwi : (((allF fs).take i).map fun s => wordsH s.hd).flatten.length + (wordsH h).length ≤ 4000 := words_le (s := .mk h qs) hi lw
      walk_at "rd"
      refine ⟨(), h, qs, _, rfl, hs.tup (TupK.of_same s1), hok, by omega, fun G2 l s2 hl nl => ?_⟩
      have hG2 := s2 _ _ hG
      walk_at "rd"
      refine ⟨by rw [List.length_map, List.length_map, List.length_append, sizeLine_eq]; simp only [List.length_cons, List.length_nil]; omega, fun p hp => ?_⟩
      refine ⟨(), p, _, _, rfl, (s1.trans s2).new hp, new_none (s1.trans s2) hp, ?_⟩
      rw [upd_same, List.take_add_one, hi]
      simp [Stm.hd]
    · rintro σ G ⟨_, D, o2, o3, rfl, s1, hD, hG⟩
      have ll : ts.length = (allF fs).length := by rw [lts, ← pairsF_fst, List.length_map]
      rw [List.length_map, ll, List.take_length] at hG
      walk_at "rd"
      have lt := words_all_le (allF fs)
      refine ⟨by rw [List.length_append, show scanBound = 4096 from rfl]; simp only [List.length_cons, List.length_nil]; omega, fun q hq => ?_⟩
      have s2 := (Same.refl G).new (o := TSO w q (setT (errN fs))) hq
      have e2 := upd_same (H := G) (a := q) (o := TSO w q (setT (errN fs)))
      rw [show ((["doomed", "missing", "present", "refused", "waits"] : List Str) ++ ((allF fs).map fun s => wordsH s.hd).flatten) = errN fs from rfl]
      generalize upd G q (TSO w q (setT (errN fs))) = G2 at s2 e2 ⊢
      walk_at "rd"
      intro p hp
      exact k _ _ ((s1.trans s2).new hp) (new_none (s1.trans s2) hp) upd_same
theorem ok_Library_unknown (T : Txt K mg a d) : FnOk P w K mg base CX0 1 a.Library_unknown d.Library_unknown ["self"] (spLs a fun fs _ => sortT (setT (unkN fs))) := by
  refine T.Library_unknown.ok sc_Library_unknown (fun vs H Q E h => ?_) (fun cdv A outer s H vs Q E hr h => ?_)
  · obtain ⟨_, _, _, _, _, _, rfl, _⟩ := h
    rfl
  · obtain ⟨_, L, z, lines, fs, mk, rfl, I, k⟩ := h
    have c1 := T.k_Library
    have n1 := T.na_Library_pairs
    have n2 := T.na_Library_bodies
    refine ⟨_, (pss_cons (ps_setLc (i := 1) (own := [("statement", 2), ("is_guarded", 3)]) rfl sc_Library_unknown.nd rfl rfl (sw_true rfl rfl rfl (by decide +kernel)) (pi_list (pe_fld (pv 0) rfl)) (blkOk_by (own := [("statement", 2), ("is_guarded", 3)]) (N := ["self", "called", "statement", "is_guarded", "name"]) (sc := defScope s_Library_unknown) (by decide +kernel)) (fun _ _ _ _ _ => (pg_tupK (K := K) 2 rfl rfl (pgs_cons (pg_name (i := 2) sc_Library_unknown.nd rfl (Or.inl rfl)) (pgs_cons (pg_name (i := 3) sc_Library_unknown.nd rfl (Or.inl rfl)) pgs_nil)))) (fun _ _ _ _ _ => (pts_one (pt_cmpR op_eq (pe_ix (ix_tupK (K := K) rfl) (pv 2) pe_int (fun _ _ => rfl)) pe_str (nomark _)))) (fun _ _ _ _ _ => (pe_ix (ix_tupK (K := K) rfl) (pv 2) pe_int (fun _ _ => rfl))))
  (pss_one (ps_ret (pe_callB (cr_sortTS rfl) (by rfl) T.n_sorted (by decide +kernel) (pa_cons (pe_scT (own := [("name", 4)]) rfl sc_Library_unknown.nd (pi_list (pv 1)) (blkOk_by (own := [("name", 4)]) (N := ["self", "called", "statement", "is_guarded", "name"]) (sc := defScope s_Library_unknown) (by decide +kernel)) (fun _ _ _ _ _ => (pg_name (i := 4) sc_Library_unknown.nd rfl (Or.inl rfl))) (fun _ _ _ _ _ => (pts_one (pt_cmp (pc_dnotin (hu_of hr) (pv 4) (pe_fldK (K := K) rfl (pv 0) rfl))))) (fun _ _ _ _ _ => (pv 4))) pa_nil))))), ?_⟩
    try dsimp only [cxOf]
    have ho := I.ob
    obtain ⟨ts, hpl, hts⟩ := I.pl
    have l2 : List.lookup ("pairs" : Str) (liF L z) = some (.ref L.pl) := rfl
    have lts := hts.len
    have lw := I.ok.wd
    have lc := wP_len (allF fs)
    walk_at "rd"
    refine ⟨⟨_, SqL.of hpl⟩, fun D hD => ?_⟩
    refine lc_list (xs := ts.map V.ref) (fun i G => Same H G ∧ G D = some (.lst ((((allF fs).take i).filterMap (nameOf "call")).map V.str))) ?_ ?_ ?_ ?_
    · exact ⟨(Same.refl _).new hD, upd_same⟩
    · rintro i G _ ⟨s1, _⟩
      exact SqL.of (s1 _ _ hpl)
    · rintro i v G hv ⟨s1, hG⟩
      obtain ⟨⟨h, qs⟩, g, t, q, xs, rs, rfl, hi, ht, hq, hh, hok, _⟩ := I.pair hts hv
      change HdAt H h rs xs at hh
      change HdOk h at hok
      have ht2 := s1 _ _ ht
      have hq2 := s1 _ _ hq
      obtain ⟨tx, rfl⟩ := hh.fst
      have a0 : ∀ (x : V) (t : List V), atI (x :: t) 0 = some x := fun x t => (atI_nat rfl : atI (x :: t) ((0 : Nat) : Int) = _)
      have a1 : ∀ (y x : V) (t : List V), atI (y :: x :: t) 1 = some x := fun y x t => (atI_nat rfl : atI (y :: x :: t) ((1 : Nat) : Int) = _)
      have b0 := a0 (.str (kdS h)) tx
      have et : ((allF fs).take (i + 1)).filterMap (nameOf "call") = ((allF fs).take i).filterMap (nameOf "call") ++ (nameOf "call" (.mk h qs)).toList := by
        rw [List.take_add_one, hi, List.filterMap_append]
        cases e : nameOf "call" (.mk h qs) with
        | none => simp [List.filterMap_cons, e]
        | some w => simp [List.filterMap_cons, e]
      have lz : (((allF fs).take i).filterMap (nameOf "call")).length ≤ 4000 := Nat.le_trans (List.length_filterMap_le _ _) (by rw [List.length_take]; omega)
      rw [et]
      walk_at "rd"
      by_cases c : kdS h = "call"
      · rw [decide_eq_true (show V.str (kdS h) = V.str "call" by rw [c])]
        obtain ⟨w1, rfl⟩ := hok.one c (by decide)
        obtain ⟨rfl, e⟩ := hh
        rw [e] at hq2
        have b1 := a1 (.str "call") (.str w1) []
        refine iteT ?_
        walk_at "rd"
        refine ⟨by rw [List.length_map, sizeLine_eq]; omega, s1.frsh hD, ?_⟩
        rw [upd_same, nameOf_one, if_pos rfl, List.map_append]
        rfl
      · rw [decide_eq_false (fun e => c (V.str.inj e))]
        refine iteF ?_
        rw [nameOf_no _ _ c]
        exact ⟨s1, by rw [Option.toList_none, List.append_nil]; exact hG⟩
    · rintro G ⟨s1, hG⟩
      have ll : ts.length = (allF fs).length := by rw [lts, ← pairsF_fst, List.length_map]
      rw [List.length_map, ll, List.take_length] at hG
      have ho1 := s1 _ _ ho
      obtain ⟨ps, hbd, hbs⟩ := I.bd.ex
      have l3 : List.lookup ("bodies" : Str) (liF L z) = some (.ref L.bd) := rfl
      have lbs := hbs.len
      have lcl : ((allF fs).filterMap (nameOf "call")).length ≤ 4000 := Nat.le_trans (List.length_filterMap_le _ _) (by omega)
      generalize eN : (allF fs).filterMap (nameOf "call") = N at hG lcl
      have eU : unkN fs = N.filter fun w => !decide (w ∈ namesF fs) := by rw [← eN]; rfl
      dsimp only at k
      rw [eU] at k
      walk_at "rd"
      refine ⟨⟨_, SqL.of hG⟩, fun S hS => ?_⟩
      refine sc_listT (xs := N.map V.str) (fun i G2 => Same G G2 ∧ G2 S = some (TSO w S (setT ((N.take i).filter fun w => !decide (w ∈ namesF fs))))) ?_ ?_ ?_ ?_
      · exact ⟨(Same.refl _).new hS, upd_same⟩
      · rintro i G2 _ ⟨s2, _⟩
        exact SqL.of (s2 _ _ hG)
      · rintro i v G2 hv ⟨s2, hG2⟩
        obtain ⟨y, hyi, rfl⟩ : ∃ y, N[i]? = some y ∧ v = V.str y := by
          rw [List.getElem?_map] at hv
          cases e : N[i]? with
          | none => rw [e] at hv; cases hv
          | some y => rw [e] at hv; cases hv; exact ⟨y, rfl, rfl⟩
        have ho2 := s2 _ _ ho1
        have hb2 := s2 _ _ (s1 _ _ hbd)
        have lz : (setT ((N.take i).filter fun w => !decide (w ∈ namesF fs))).length ≤ 4000 := setT_lt (Nat.le_trans (List.length_filter_le _ _) (by rw [List.length_take]; omega))
        rw [List.take_add_one, hyi, List.filter_append]
        walk_at "rd"
        refine ⟨_, rfl, DGet.k (k := Sum.inr y) hb2, ?_⟩
        by_cases d : y ∈ namesF fs
        · rw [valV_some (by rw [bdK_keys lbs]; exact inr_mem.mpr d)]
          refine ⟨_, rfl, iteF ?_⟩
          rw [show ((some y).toList.filter fun w => !decide (w ∈ namesF fs)) = [] by simp [d], List.append_nil]
          exact ⟨s2, hG2⟩
        · rw [valV_none (by rw [bdK_keys lbs]; exact fun z => d (inr_mem.mp z))]
          refine ⟨_, rfl, iteT ?_⟩
          walk_at "rd"
          refine ⟨by rw [show scanBound = 4096 from rfl]; omega, s2.frsh hS, ?_⟩
          rw [upd_same, show ((some y).toList.filter fun w => !decide (w ∈ namesF fs)) = [y] by simp [d], setT_snoc]
      · rintro G2 ⟨s2, hG2⟩
        rw [List.length_map, List.take_length] at hG2
        walk_at "rd"
        intro p hp
        exact k _ _ ((s1.trans s2).new hp) (new_none (s1.trans s2) hp) upd_same
/-! ### stay_in_bounds -/
def countsF (fs : List Fun) (mk : List Mk) : List (Str × Nat × Nat) :=
  [("functions", 12, fs.length), ("statements", 80, (pairsF fs).length), ("records", 6, (setT (recN fs)).length), ("errors", 11, (setT (errN fs)).length), ("blocks", 16, mk.length), ("unknown", 4, (setT (unkN fs)).length)]
def boundV (fs : List Fun) (mk : List Mk) : Option Str := ((countsF fs mk).find? fun c => decide (c.2.1 < c.2.2)).map (·.1)
theorem counts6 (x1 x2 x3 x4 x5 x6 : V) : mergeK (mergeK [] [((Sum.inr "functions" : Key), x1), (Sum.inr "statements", x2), (Sum.inr "records", x3)]) (mergeK [] [((Sum.inr "errors" : Key), x4), (Sum.inr "blocks", x5), (Sum.inr "unknown", x6)]) =
    [((Sum.inr "functions" : Key), x1), (Sum.inr "statements", x2), (Sum.inr "records", x3), (Sum.inr "errors", x4), (Sum.inr "blocks", x5), (Sum.inr "unknown", x6)] := rfl
def cntK (fs : List Fun) (mk : List Mk) : List (Key × V) := (countsF fs mk).map fun c => (Sum.inr c.1, .int (c.2.2 : Int))
theorem bnd_at (T : Txt K mg a d) (fs : List Fun) (mk : List Mk) : ∀ (i : Nat) (v : V), ([V.ref a.BOUNDS_0, .ref a.BOUNDS_1, .ref a.BOUNDS_2, .ref a.BOUNDS_3, .ref a.BOUNDS_4, .ref a.BOUNDS_5] : List V)[i]? = some v →
    ∃ (p : Addr) (w : Str) (m n : Nat), v = .ref p ∧ (countsF fs mk)[i]? = some (w, m, n) ∧ (∀ H, SqT K H p [.str w, .int (m : Int)]) ∧ valV (cntK fs mk) (Sum.inr w) = some (.int (n : Int))
  | 0, _, rfl => ⟨_, _, _, _, rfl, rfl, T.q_BOUNDS_0, rfl⟩
  | 1, _, rfl => ⟨_, _, _, _, rfl, rfl, T.q_BOUNDS_1, rfl⟩
  | 2, _, rfl => ⟨_, _, _, _, rfl, rfl, T.q_BOUNDS_2, rfl⟩
  | 3, _, rfl => ⟨_, _, _, _, rfl, rfl, T.q_BOUNDS_3, rfl⟩
  | 4, _, rfl => ⟨_, _, _, _, rfl, rfl, T.q_BOUNDS_4, rfl⟩
  | 5, _, rfl => ⟨_, _, _, _, rfl, rfl, T.q_BOUNDS_5, rfl⟩
theorem find_none' {α : Type} {p : α → Bool} {l : List α} (h : ∀ x ∈ l, p x = false) : l.find? p = none := List.find?_eq_none.mpr fun x hx => by rw [h x hx]; simp
theorem find_at {α : Type} {p : α → Bool} : ∀ {l : List α} {i : Nat} {x : α}, l[i]? = some x → p x = true → (∀ y ∈ l.take i, p y = false) → l.find? p = some x
  | y :: r, 0, _, e, h, _ => by cases e; exact List.find?_cons_of_pos h
  | y :: r, i + 1, x, e, h, n => by
    rw [List.find?_cons_of_neg (by rw [n y (by simp)]; simp)]
    exact find_at (l := r) (i := i) e h fun z hz => n z (by rw [List.take_succ_cons]; exact List.mem_cons_of_mem _ hz)
def outBd (a : Ad) (H : Hp) (Q : VK) (E : XK) : Option Str → Prop
  | none => ∀ H', Same H H' → Q .non H'
  | some w => ∀ H', Same H H' → errQ a.TooMany ef_TooMany [.str w] H' E
def spStay (a : Ad) : Sp := fun vs H Q E => ∃ (_ : Unit) (L : LA) (z : Str) (lines : List Str) (fs : List Fun) (mk : List Mk), vs = [.ref L.x] ∧ LibAt a H L z lines fs mk ∧ outBd a H Q E (boundV fs mk)
theorem ok_Library_stay_in_bounds (T : Txt K mg a d) : FnOk P w K mg base (L2.CX P w) 3 a.Library_stay_in_bounds d.Library_stay_in_bounds ["self"] (spStay a) := by
  have G_Library_records : FnOk P w K mg base CX0 1 a.Library_records d.Library_records ["self"] (spLs a fun fs _ => sortT (setT (recN fs))) := ok_Library_records T
  have G_Library_errors : FnOk P w K mg base CX0 2 a.Library_errors d.Library_errors ["self"] (spLs a fun fs _ => sortT (setT (errN fs))) := ok_Library_errors T
  have G_Library_unknown : FnOk P w K mg base CX0 1 a.Library_unknown d.Library_unknown ["self"] (spLs a fun fs _ => sortT (setT (unkN fs))) := ok_Library_unknown T
  refine T.Library_stay_in_bounds.okX sc_Library_stay_in_bounds (fun vs H Q E h => ?_) (fun cdv A outer s H vs Q E hr h => ?_)
  · obtain ⟨_, _, _, _, _, _, rfl, _⟩ := h
    rfl
  · obtain ⟨_, L, z, lines, fs, mk, rfl, I, out⟩ := h
    have c1 := T.k_Library
    have n1 := T.na_Library_pairs
    have n2 := T.na_Library_bodies
    have n3 := T.na_Library_marks
    refine ⟨_, (pss_cons (ps_set (i := 1) sc_Library_stay_in_bounds.nd rfl (Or.inl rfl) (pe_disp (pps_cons pe_str (pe_callB call_lenD (by rfl) T.n_len PySem.boot_len (pa_cons (pe_fld (pv 0) rfl) pa_nil)) (pps_cons pe_str (pe_callB call_len_seq (by rfl) T.n_len PySem.boot_len (pa_cons (pe_fld (pv 0) rfl) pa_nil)) (pps_cons pe_str (pe_callB call_len_seq (by rfl) T.n_len PySem.boot_len (pa_cons (pe_meth0 (pv 0) T.k_Library T.m_Library_records G_Library_records (hr.mono (by omega)) T.b_Library_records .nil pass0) pa_nil)) pps_nil))) rfl rfl (by simp) (by decide)))
  (pss_cons (ps_expr (pe_bm PySem.F.plainAttrs_dict PySem.F.slot_dict_update PySem.F.type_dict_update mt_updK (pv 1) (pa_cons (pe_disp (pps_cons pe_str (pe_callB call_len_seq (by rfl) T.n_len PySem.boot_len (pa_cons (pe_meth0 (pv 0) T.k_Library T.m_Library_errors G_Library_errors (hr.mono (by omega)) T.b_Library_errors .nil pass0) pa_nil)) (pps_cons pe_str (pe_callB call_len_seq (by rfl) T.n_len PySem.boot_len (pa_cons (pe_fld (pv 0) rfl) pa_nil)) (pps_cons pe_str (pe_callB call_len_seq (by rfl) T.n_len PySem.boot_len (pa_cons (pe_meth0 (pv 0) T.k_Library T.m_Library_unknown G_Library_unknown (hr.mono (by omega)) T.b_Library_unknown .nil pass0) pa_nil)) pps_nil))) rfl rfl (by simp) (by decide)) pa_nil)))
  (pss_one (ps_for (passes_of rfl) rfl (pi_tup (pe_glob (v := .ref a.BOUNDS) (by rfl) T.g_BOUNDS rfl)) (pg_tup rfl (pgs_cons (pg_name (i := 2) sc_Library_stay_in_bounds.nd rfl (Or.inl rfl)) (pgs_cons (pg_name (i := 3) sc_Library_stay_in_bounds.nd rfl (Or.inl rfl)) pgs_nil)))
  (pss_one (ps_if (pt_cmpR op_gt (pe_dget (hu_of hr) (pv 1) (pv 2) (fun _ _ => rfl)) (pv 3) (nomark _)) (pss_one (ps_raise rfl (takes_of rfl rfl rfl rfl) (pmk_err T.e_TooMany T.g_TooMany T.n_super hr (pa_cons (pv 2) pa_nil)))) pss_nil)))))), ?_⟩
    try dsimp only [cxOf]
    have ho := I.ob
    obtain ⟨ts, hpl, hts⟩ := I.pl
    obtain ⟨ms, hml, hms⟩ := I.ml
    obtain ⟨ps, hbd, hbs⟩ := I.bd.ex
    have l1 : List.lookup ("pairs" : Str) (liF L z) = some (.ref L.pl) := rfl
    have l2 : List.lookup ("bodies" : Str) (liF L z) = some (.ref L.bd) := rfl
    have l3 : List.lookup ("marks" : Str) (liF L z) = some (.ref L.ml) := rfl
    have m1 : List.lookup ("records" : Str) (liF L z) = none := rfl
    have m2 : List.lookup ("errors" : Str) (liF L z) = none := rfl
    have m3 : List.lookup ("unknown" : Str) (liF L z) = none := rfl
    walk_at "rd"
    intro c hc
    have s1 := (Same.refl H).new (o := .dK []) hc
    have e1 := upd_same (H := H) (a := c) (o := .dK [])
    generalize upd H c (.dK []) = H1 at s1 e1 ⊢
    have ho1 := s1 _ _ ho
    have hb1 := s1 _ _ hbd
    have hp1 := s1 _ _ hpl
    walk_at "rd"
    refine ⟨(), L, z, lines, fs, mk, rfl, I.same s1, fun H2 l s2 nl hl => ?_⟩
    dsimp only at hl
    have e2 := s2 _ _ e1
    have q1 := s1.trans s2
    walk_at "rd"
    refine ⟨show _ = List.map (fun kv => (kV kv.1, kv.2)) [((Sum.inr "functions" : Key), V.int ((bdK fs ps).length : Int)), (Sum.inr "statements", V.int ((ts.map V.ref).length : Int)), (Sum.inr "records", V.int (((sortT (setT (recN fs))).map V.str).length : Int))] from rfl, by show 3 ≤ 15; omega, ?_⟩
    rw [show (bdK fs ps).length = fs.length from by unfold bdK; rw [List.length_map, List.length_zip, hbs.len]; omega, show (ts.map V.ref).length = (pairsF fs).length from by rw [List.length_map, hts.len], show ((sortT (setT (recN fs))).map V.str).length = (setT (recN fs)).length from by rw [List.length_map, sortT_len]]
    generalize ek3 : mergeK [] [((Sum.inr "functions" : Key), V.int (fs.length : Int)), (Sum.inr "statements", V.int ((pairsF fs).length : Int)), (Sum.inr "records", V.int ((setT (recN fs)).length : Int))] = k3
    have s3 : Same H (upd H2 c (.dK k3)) := q1.frsh hc
    have e3 := upd_same (H := H2) (a := c) (o := .dK k3)
    generalize upd H2 c (.dK k3) = H3 at s3 e3 ⊢
    walk_at "rd"
    refine ⟨.inr (.inr (.inl ⟨rfl, .inl ⟨_, e3⟩⟩)), ?_⟩
    intro c2 hc2
    have s4 := (Same.refl H3).new (o := .dK []) hc2
    have e4 := upd_same (H := H3) (a := c2) (o := .dK [])
    have e4c := s4 _ _ e3
    have ncc : c ≠ c2 := ne_of_none e3 hc2
    have q4 := s3.trans s4
    have nc2 := new_none s3 hc2
    generalize upd H3 c2 (.dK []) = H4 at s4 e4 e4c q4 ⊢
    have ho4 := q4 _ _ ho
    have hm4 := q4 _ _ hml
    walk_at "rd"
    refine ⟨(), L, z, lines, fs, mk, rfl, I.same q4, fun H5 l5 s5 nl5 hl5 => ?_⟩
    dsimp only at hl5
    have q5 := q4.trans s5
    have e5 := s5 _ _ e4
    have e5c := s5 _ _ e4c
    have ho5 := q5 _ _ ho
    have hm5 := q5 _ _ hml
    walk_at "rd"
    refine ⟨(), L, z, lines, fs, mk, rfl, I.same q5, fun H6 l6 s6 nl6 hl6 => ?_⟩
    dsimp only at hl6
    have q6 := q5.trans s6
    have e6 := s6 _ _ e5
    have e6c := s6 _ _ e5c
    walk_at "rd"
    refine ⟨show _ = List.map (fun kv => (kV kv.1, kv.2)) [((Sum.inr "errors" : Key), V.int (((sortT (setT (errN fs))).map V.str).length : Int)), (Sum.inr "blocks", V.int ((ms.map V.ref).length : Int)), (Sum.inr "unknown", V.int (((sortT (setT (unkN fs))).map V.str).length : Int))] from rfl, by show 3 ≤ 15; omega, ?_⟩
    rw [show ((sortT (setT (errN fs))).map V.str).length = (setT (errN fs)).length from by rw [List.length_map, sortT_len], show (ms.map V.ref).length = mk.length from by rw [List.length_map, hms.len], show ((sortT (setT (unkN fs))).map V.str).length = (setT (unkN fs)).length from by rw [List.length_map, sortT_len]]
    have ek6 := counts6 (.int (fs.length : Int)) (.int ((pairsF fs).length : Int)) (.int ((setT (recN fs)).length : Int)) (.int ((setT (errN fs)).length : Int)) (.int (mk.length : Int)) (.int ((setT (unkN fs)).length : Int))
    rw [ek3] at ek6
    have lk3 : k3.length = 3 := by rw [← ek3]; rfl
    have lm3 : (mergeK [] [((Sum.inr "errors" : Key), V.int ((setT (errN fs)).length : Int)), (Sum.inr "blocks", V.int (mk.length : Int)), (Sum.inr "unknown", V.int ((setT (unkN fs)).length : Int))]).length = 3 := rfl
    generalize mergeK [] [((Sum.inr "errors" : Key), V.int ((setT (errN fs)).length : Int)), (Sum.inr "blocks", V.int (mk.length : Int)), (Sum.inr "unknown", V.int ((setT (unkN fs)).length : Int))] = m3 at ek6 lm3 ⊢
    have q7 : Same H (upd H6 c2 (.dK m3)) := q6.frsh nc2
    have e7 := upd_same (H := H6) (a := c2) (o := .dK m3)
    have e7c := upd_oth (o := .dK m3) ncc e6c
    generalize upd H6 c2 (.dK m3) = H7 at q7 e7 e7c ⊢
    walk_at "rd"
    refine ⟨by rw [lk3, lm3, sizeLine_eq]; omega, ?_⟩
    rw [ek6]
    have q8 : Same H (upd H7 c (.dK (cntK fs mk))) := q7.frsh hc
    have e8 := upd_same (H := H7) (a := c) (o := .dK (cntK fs mk))
    show ({ nx := _, rt := _ } : Ends).nx _ (upd H7 c (.dK (cntK fs mk)))
    generalize upd H7 c (.dK (cntK fs mk)) = H8 at q8 e8 ⊢
    walk_at "rd"
    refine ⟨⟨_, T.q_BOUNDS H8⟩, ?_⟩
    refine for_tup (xs := [V.ref a.BOUNDS_0, .ref a.BOUNDS_1, .ref a.BOUNDS_2, .ref a.BOUNDS_3, .ref a.BOUNDS_4, .ref a.BOUNDS_5]) (fun i σ G => ∃ (_ : Unit) (o2 o3 : Option V), σ = [some (.ref L.x), some (.ref c), o2, o3] ∧ G = H8 ∧ ∀ y ∈ (countsF fs mk).take i, decide (y.2.1 < y.2.2) = false) ?_ ?_ ?_ ?_
    · exact ⟨(), none, none, rfl, rfl, fun y hy => absurd hy (by simp)⟩
    · rintro i σ G _ ⟨_, o2, o3, rfl, rfl, _⟩
      exact T.q_BOUNDS _
    · rintro i v σ G hv ⟨_, o2, o3, rfl, rfl, hn⟩
      obtain ⟨p, ww, m, n, rfl, hi, hq, hv2⟩ := bnd_at T fs mk i v hv
      have hq8 := hq G
      have hg : DGet G c (.str ww) (some (.int (n : Int))) := by
        have := DGet.k (k := Sum.inr ww) e8
        rw [hv2] at this
        exact this
      walk_at "rd"
      have htk : (countsF fs mk).take (i + 1) = (countsF fs mk).take i ++ [(ww, m, n)] := by rw [List.take_add_one, hi]; rfl
      refine ite2 (fun c0 => ?_) (fun c0 => ?_)
      · have lt : m < n := by have := of_decide_eq_true c0; omega
        have e : boundV fs mk = some ww := by
          unfold boundV
          rw [find_at hi (decide_eq_true lt) hn]; rfl
        rw [e] at out
        walk_at "rd"
        exact out _ q8
      · refine ⟨(), _, _, rfl, rfl, fun y hy => ?_⟩
        rw [htk] at hy
        rcases List.mem_append.mp hy with hy | hy
        · exact hn y hy
        · rw [List.mem_singleton.mp hy]
          exact decide_eq_false fun z => c0 (decide_eq_true (by have z : m < n := z; omega))
    · rintro σ G ⟨_, o2, o3, rfl, rfl, hn⟩
      have e : boundV fs mk = none := by
        unfold boundV
        rw [find_none' fun x hx => hn x (by rw [List.take_of_length_le (by show 6 ≤ 6; omega)]; exact hx)]; rfl
      rw [e] at out
      exact out _ q8
/-! ### chains of calls; bodies inside bodies -/
def callsF (fs : List Fun) : Calls := fs.map fun f => (f.name, callsB fs f.body)
theorem callOf_eq (fs : List Fun) (x : Str) : callOf (callsF fs) x = callsB fs (bodyOf fs x) := by
  have : ∀ gs : List Fun, ((gs.map fun f => (f.name, callsB fs f.body)).find? fun p => decide (p.1 = x)) = (gs.find? fun f => decide (f.name = x)).map fun f => (f.name, callsB fs f.body) := by
    intro gs
    rw [List.find?_map]; rfl
  unfold callOf callsF bodyOf
  rw [this]
  cases fs.find? fun f => decide (f.name = x) with
  | none => rfl
  | some f => rfl
theorem callsF_keys (fs : List Fun) : (callsF fs).map (·.1) = namesF fs := by
  unfold callsF namesF
  rw [List.map_map]; rfl
theorem callee_mem {fs : List Fun} {s : Stm} {y : Str} (h : callee fs s = some y) : y ∈ namesF fs := by
  unfold callee at h
  split at h
  · split at h
    · rename_i c
      cases h; exact c.2
    · cases h
  · cases h
theorem callsB_mem {fs : List Fun} {b : List Stm} {y : Str} (h : y ∈ callsB fs b) : y ∈ namesF fs := by
  obtain ⟨s, _, e⟩ := List.mem_filterMap.mp h
  exact callee_mem e
theorem freeB_len (b : List Stm) : (freeB b).length ≤ (allB b).length := by
  unfold freeB
  rw [List.length_map, ← lsB_fst false, List.length_map]
  exact List.length_filter_le _ _
theorem clsOk {fs : List Fun} (h : LbOk fs) : ClsOk (callsF fs) := by
  refine ⟨by rw [callsF_keys]; exact h.nn, fun x y hy => ?_, fun x => ?_, by unfold callsF; rw [List.length_map]; exact h.ln⟩
  · rw [callOf_eq] at hy
    rw [callsF_keys]
    exact callsB_mem hy
  · rw [callOf_eq]
    refine Nat.le_trans (List.length_filterMap_le _ _) (Nat.le_trans (freeB_len _) ?_)
    by_cases c : x ∈ namesF fs
    · obtain ⟨f, hf, _, e⟩ := bodyOf_mem c
      rw [← e]
      exact (h.gb f hf).ct
    · have : bodyOf fs x = [] := by
        unfold bodyOf
        rw [find_none' fun f hf => decide_eq_false fun e : f.name = x => c (e ▸ List.mem_map_of_mem (f := Fun.name) hf)]; rfl
      rw [this]; exact Nat.zero_le _
theorem Hb_no {fs : List Fun} {n : Nat} {x : Str} (h : ¬ Hb fs (n + 1) x) : ∃ y ∈ callsB fs (bodyOf fs x), ¬ Hb fs n y :=
  Classical.byContradiction fun z => h fun y hy => Classical.byContradiction fun w => z ⟨y, hy, w⟩
theorem Hb_path {fs : List Fun} (ac : ∀ x ∈ namesF fs, ¬ Rch (callsF fs) x x) : ∀ (n : Nat) (x : Str) (vs : List Str), x ∈ namesF fs → ¬ Hb fs n x → vs.Nodup → (∀ v ∈ vs, v ∈ namesF fs) → (∀ v ∈ vs, Rch (callsF fs) v x) → n + vs.length ≤ fs.length
  | 0, x, vs, hx, _, nd, sb, _ => by
    have := nodup_le nd sb
    unfold namesF at this
    rw [List.length_map] at this
    omega
  | n + 1, x, vs, hx, h, nd, sb, rc => by
    obtain ⟨y, hy, hn⟩ := Hb_no h
    have nx : x ∉ vs := fun z => ac x hx (rc x z)
    have st : Rch (callsF fs) x y := .one (by rw [callOf_eq]; exact hy)
    have := Hb_path ac n y (x :: vs) (callsB_mem hy) hn (List.nodup_cons.mpr ⟨nx, nd⟩) (fun v hv => by
      rcases List.mem_cons.mp hv with rfl | hv
      · exact hx
      · exact sb v hv) (fun v hv => by
      rcases List.mem_cons.mp hv with rfl | hv
      · exact st
      · exact .more (rc v hv) (by rw [callOf_eq]; exact hy))
    rw [List.length_cons] at this
    omega
theorem Hb_all {fs : List Fun} (ac : ∀ x ∈ namesF fs, ¬ Rch (callsF fs) x x) (h : fs.length ≤ 12) : ∀ x ∈ namesF fs, Hb fs 13 x := fun x hx => Classical.byContradiction fun z => by
  have := Hb_path ac 13 x [] hx z List.nodup_nil (fun v hv => nomatch hv) (fun v hv => nomatch hv)
  omega
mutual
theorem subS {b : List Stm} {t : Stm} : ∀ {s : Stm}, t ∈ allS s → b ∈ t.ps → (∀ x ∈ allB b, x ∈ allS s) ∧ dpB b ≤ dpS s ∧ (allB b).length ≤ (allS s).length
  | .mk h ps, ht, hb => by
    rw [allS] at ht ⊢
    rcases List.mem_cons.mp ht with rfl | ht
    · obtain ⟨h1, h2, h3⟩ := subP1 (ps := ps) hb
      exact ⟨fun x hx => List.mem_cons_of_mem _ (h1 x hx), by rw [dpS]; omega, by rw [List.length_cons]; omega⟩
    · obtain ⟨h1, h2, h3⟩ := subP (ps := ps) ht hb
      exact ⟨fun x hx => List.mem_cons_of_mem _ (h1 x hx), by rw [dpS]; omega, by rw [List.length_cons]; omega⟩
theorem subP1 {b : List Stm} : ∀ {ps : List (List Stm)}, b ∈ ps → (∀ x ∈ allB b, x ∈ allP ps) ∧ dpB b ≤ dpP ps ∧ (allB b).length ≤ (allP ps).length
  | c :: r, hb => by
    rw [allP, dpP]
    rcases List.mem_cons.mp hb with rfl | hb
    · exact ⟨fun x hx => List.mem_append_left _ hx, by omega, by rw [List.length_append]; omega⟩
    · obtain ⟨h1, h2, h3⟩ := subP1 hb
      exact ⟨fun x hx => List.mem_append_right _ (h1 x hx), by omega, by rw [List.length_append]; omega⟩
theorem subP {b : List Stm} {t : Stm} : ∀ {ps : List (List Stm)}, t ∈ allP ps → b ∈ t.ps → (∀ x ∈ allB b, x ∈ allP ps) ∧ dpB b ≤ dpP ps ∧ (allB b).length ≤ (allP ps).length
  | c :: r, ht, hb => by
    rw [allP, dpP] at *
    rcases List.mem_append.mp ht with ht | ht
    · obtain ⟨h1, h2, h3⟩ := subB (c := c) ht hb
      exact ⟨fun x hx => List.mem_append_left _ (h1 x hx), by omega, by rw [List.length_append]; omega⟩
    · obtain ⟨h1, h2, h3⟩ := subP (ps := r) ht hb
      exact ⟨fun x hx => List.mem_append_right _ (h1 x hx), by omega, by rw [List.length_append]; omega⟩
theorem subB {b : List Stm} {t : Stm} : ∀ {c : List Stm}, t ∈ allB c → b ∈ t.ps → (∀ x ∈ allB b, x ∈ allB c) ∧ dpB b ≤ dpB c ∧ (allB b).length ≤ (allB c).length
  | s :: r, ht, hb => by
    rw [allB, dpB] at *
    rcases List.mem_append.mp ht with ht | ht
    · obtain ⟨h1, h2, h3⟩ := subS (s := s) ht hb
      exact ⟨fun x hx => List.mem_append_left _ (h1 x hx), by omega, by rw [List.length_append]; omega⟩
    · obtain ⟨h1, h2, h3⟩ := subB (c := r) ht hb
      exact ⟨fun x hx => List.mem_append_right _ (h1 x hx), by omega, by rw [List.length_append]; omega⟩
end
theorem LbOk.sub {fs : List Fun} (h : LbOk fs) {s : Stm} {b : List Stm} (hs : s ∈ allF fs) (hb : b ∈ s.ps) : GoodB b := by
  obtain ⟨l, hl, hx⟩ := List.mem_flatten.mp hs
  obtain ⟨f, hf, rfl⟩ := List.mem_map.mp hl
  obtain ⟨h1, h2, h3⟩ := subB hx hb
  have g := h.gb f hf
  exact ⟨fun x hx => g.ok x (h1 x hx), by have := g.dp; omega, by have := g.ct; omega⟩
inductive EndR
  | fine
  | loop (x : Str)
  | heavy
def heavyS (fs : List Fun) (s : Stm) : Bool := isG s.hd && match s.ps with | b :: _ => decide (400 < wtB fs 13 b) | [] => false
noncomputable def endR (fs : List Fun) : EndR := match (namesF fs).find? (backB (callsF fs)) with
  | some x => .loop x
  | none => if ((namesF fs).any fun x => decide (400 < wtF fs 13 x)) = true ∨ ((allF fs).any (heavyS fs)) = true then .heavy else .fine
/-! ### come_to_an_end -/
theorem free_ok {b : List Stm} (h : GoodB b) {hd : Hd} {qs : List (List Stm)} (m : Stm.mk hd qs ∈ freeB b) : HdOk hd := by
  obtain ⟨z, hz, e⟩ := List.mem_map.mp m
  exact (h.ok (.mk hd qs) (by rw [← e, ← lsB_fst false]; exact List.mem_map_of_mem (List.mem_filter.mp hz).1)).1
theorem clK_len {R : Addr → Str × List Str → Prop} {ls : List Addr} {cs : Calls} (h : A2 R ls cs) : (clK cs ls).length = cs.length := by
  unfold clK
  rw [List.length_map, List.length_zip, h.len]; omega
theorem clK_keys {R : Addr → Str × List Str → Prop} {ls : List Addr} {cs : Calls} (h : A2 R ls cs) : (clK cs ls).map (·.1) = (cs.map (·.1)).map Sum.inr := by
  unfold clK
  have e : (cs.zip ls).map Prod.fst = cs := List.map_fst_zip (by rw [h.len]; omega)
  have : ((cs.zip ls).map fun x => ((Sum.inr x.1.1 : Key), V.ref x.2)).map (·.1) = ((cs.zip ls).map Prod.fst).map fun f => (Sum.inr f.1 : Key) := by
    rw [List.map_map, List.map_map]; rfl
  rw [this, e, List.map_map]; rfl
theorem nodup_take {α : Type} : ∀ {l : List α} {i : Nat} {x : α}, l.Nodup → l[i]? = some x → x ∉ l.take i
  | y :: r, 0, x, _, _ => by simp
  | y :: r, i + 1, x, h, e => by
    obtain ⟨h1, h2⟩ := List.nodup_cons.mp h
    intro m
    rw [List.take_succ_cons] at m
    rcases List.mem_cons.mp m with rfl | m
    · exact h1 (List.mem_of_getElem? e)
    · exact nodup_take (l := r) (i := i) h2 e m
theorem bodyOf_at : ∀ {fs : List Fun} {f : Fun}, (namesF fs).Nodup → f ∈ fs → bodyOf fs f.name = f.body
  | g :: r, f, h, m => by
    obtain ⟨h1, h2⟩ := List.nodup_cons.mp h
    unfold bodyOf
    rcases List.mem_cons.mp m with rfl | m
    · rw [List.find?_cons_of_pos (by simp)]; rfl
    · rw [List.find?_cons_of_neg (by
        have : g.name ≠ f.name := fun e => h1 (show g.name ∈ _ from e ▸ List.mem_map_of_mem (f := Fun.name) m)
        simpa using this)]
      exact bodyOf_at (fs := r) h2 m
structure EnI (a : Ad) (H : Hp) (L : LA) (z : Str) (fs : List Fun) : Prop where
  ob : H L.x = some (.ins a.Library L.dx (liF L z))
  rb : RbAt H L.bd fs
  pl : ∃ ts : List Addr, H L.pl = some (.lst (ts.map V.ref)) ∧ A2 (PairAt H) ts (pairsF fs)
theorem EnI.kp {a : Ad} {H H' : Hp} {L : LA} {z : Str} {fs : List Fun} {S : Addr → Prop} (I : EnI a H L z fs) (k : Kp S H H') (hS : ∀ b, S b → ∃ kvs, H b = some (.dK kvs)) (nb : ¬ S L.bd) : EnI a H' L z fs := by
  have tk : TupK H H' := fun b l e => k _ _ e fun s => by obtain ⟨_, q⟩ := hS b s; rw [q] at e; cases e
  obtain ⟨ps, h1, h2⟩ := I.rb.ex
  obtain ⟨ts, t1, t2⟩ := I.pl
  exact ⟨k _ _ I.ob (fun s => by obtain ⟨_, q⟩ := hS _ s; have := I.ob; rw [q] at this; cases this), ⟨ps, Rd.to h1 fun u e => k _ _ e nb, h2.imp fun _ _ r => r.tup tk⟩, ts, k _ _ t1 (fun s => by obtain ⟨_, q⟩ := hS _ s; rw [q] at t1; cases t1), t2.imp fun _ _ r => r.tup tk⟩
theorem EnI.same {a : Ad} {H H' : Hp} {L : LA} {z : Str} {fs : List Fun} (I : EnI a H L z fs) (s : Same H H') : EnI a H' L z fs :=
  I.kp (S := fun _ => False) (Kp.of_same s) (fun b h => h.elim) (fun h => h)
/-- the dict of bodies is locked -/
theorem EnI.lock {a : Ad} {H : Hp} {L : LA} {z : Str} {fs : List Fun} {kvs : List (Key × V)} {od : Obj} (I : EnI a H L z fs) (h : H L.bd = some (.dK kvs)) : EnI a (upd H L.bd (.frz od (.dK kvs))) L z fs := by
  obtain ⟨ps, h1, h2⟩ := I.rb.ex
  obtain ⟨ts, t1, t2⟩ := I.pl
  have tk : TupK H (upd H L.bd (.frz od (.dK kvs))) := (LK.dk (m := L.ml) h).1
  have e : kvs = bdK fs ps := by
    rcases h1 with e | ⟨_, e⟩
    · rw [h] at e; cases e; rfl
    · rw [h] at e; cases e
  exact ⟨upd_oth (fun q => by have := I.ob; rw [q, h] at this; cases this) I.ob, ⟨ps, .inr ⟨od, by rw [upd_same, e]⟩, h2.imp fun _ _ r => r.tup tk⟩, ts, upd_oth (fun q => by rw [q, h] at t1; cases t1) t1, t2.imp fun _ _ r => r.tup tk⟩
theorem EnI.unlock {a : Ad} {H : Hp} {L : LA} {z : Str} {fs : List Fun} {kvs : List (Key × V)} {od : Obj} (I : EnI a H L z fs) (h : H L.bd = some (.frz od (.dK kvs))) : EnI a (upd H L.bd (.dK kvs)) L z fs := by
  obtain ⟨ps, h1, h2⟩ := I.rb.ex
  obtain ⟨ts, t1, t2⟩ := I.pl
  have tk : TupK H (upd H L.bd (.dK kvs)) := fun b l e => upd_oth (fun q => by rw [q, h] at e; cases e) e
  have e : kvs = bdK fs ps := by
    rcases h1 with e | ⟨_, e⟩
    · rw [h] at e; cases e
    · rw [h] at e; cases e; rfl
  exact ⟨upd_oth (fun q => by have := I.ob; rw [q, h] at this; cases this) I.ob, ⟨ps, .inl (by rw [upd_same, e]), h2.imp fun _ _ r => r.tup tk⟩, ts, upd_oth (fun q => by rw [q, h] at t1; cases t1) t1, t2.imp fun _ _ r => r.tup tk⟩
theorem Same.unlock {H F : Hp} {d : Addr} {f u : HO} (k : Same (upd H d f) F) (h : H d = some u) : Same H (upd F d u) := fun b o e => by
  by_cases c : b = d
  · subst c
    rw [h] at e; cases e
    exact upd_same
  · exact upd_oth c (k _ _ (upd_oth c e))
theorem backB_no {cs : Calls} {x : Str} (h : backB cs x = false) : ¬ Rch cs x x := by
  classical
  unfold backB at h
  exact of_decide_eq_false h
theorem Kp.drop {x k : Addr} {H F : Hp} (h : Kp (fun b => b = x ∨ b = k) H F) (n : H k = Option.none) : Kp (fun b => b = x) H F := fun b o e nb => h b o e fun z => z.elim nb fun z => by rw [z, n] at e; cases e
theorem Kp.unlock {S : Addr → Prop} {H F : Hp} {d : Addr} {f u : HO} (k : Kp S (upd H d f) F) (h : H d = some u) : Kp S H (upd F d u) := fun b o e n => by
  by_cases c : b = d
  · subst c
    rw [h] at e; cases e
    exact upd_same
  · exact upd_oth c (k _ _ (upd_oth c e) n)
theorem Kp.lockd {S : Addr → Prop} {H F : Hp} {d : Addr} {f : HO} (k : Kp S (upd H d f) F) : Kp (fun b => b = d ∨ S b) H F := fun b o e n => k _ _ (upd_oth (fun q => n (.inl q)) e) fun s => n (.inr s)
def outEn (a : Ad) (L : LA) (H : Hp) (Q : VK) (E : XK) : EndR → Prop
  | .fine => ∀ H', Same H H' → Q .non H'
  | .loop x => ∀ H', Kp (fun b => b = L.bd) H H' → errQ a.Endless ef_Endless [.str x] H' E
  | .heavy => ∀ H', Kp (fun b => b = L.bd) H H' → errQ a.TooMany ef_TooMany [.str "weight"] H' E
def spCte (a : Ad) : Sp := fun vs H Q E => ∃ (_ : Unit) (L : LA) (z : Str) (lines : List Str) (fs : List Fun) (mk : List Mk), vs = [.ref L.x] ∧ LibAt a H L z lines fs mk ∧ fs.length ≤ 12 ∧ outEn a L H Q E (endR fs)
theorem ok_Library_come_to_an_end (T : Txt K mg a d) : FnOk P w K mg base (L2.CX P w) 50 a.Library_come_to_an_end d.Library_come_to_an_end ["self"] (spCte a) := by
  have G_free_statements : FnOk P w K mg base CX0 14 a.free_statements d.free_statements ["body"] spFree := ok_free_statements T
  have G_comes_back : FnOk P w K mg base CX0 1 a.comes_back d.comes_back ["name", "calls"] spCome := ok_comes_back T
  have G_weight_of : FnOk P w K mg base CX0 42 a.weight_of d.weight_of ["name", "bodies", "known"] (spWtOf 13) := ok_weight T 13
  have G_body_weight : FnOk P w K mg base CX0 43 a.body_weight d.body_weight ["body", "bodies", "known"] (spWtB 13) := ok_bodyw T 13 G_weight_of
  obtain ⟨u0, v_MOST_WEIGHT, r_MOST_WEIGHT⟩ := T.v_MOST_WEIGHT
  refine T.Library_come_to_an_end.okX sc_Library_come_to_an_end (fun vs H Q E h => ?_) (fun cdv A outer s H vs Q E hr h => ?_)
  · obtain ⟨_, _, _, _, _, _, rfl, _⟩ := h
    rfl
  · obtain ⟨_, L, z, lines, fs, mk, rfl, I, l12, out⟩ := h
    have c1 := T.k_Library
    have n1 := T.na_Library_pairs
    have n2 := T.na_Library_bodies
    refine ⟨_, (pss_cons (ps_par (i := 1) (j := 2) rfl sc_Library_come_to_an_end.nd rfl rfl (by decide) rfl rfl (pa_cons pe_dnewK (pa_cons pe_dnewK pa_nil)) (by rfl))
  (pss_cons (ps_lock (ps_for (passes_of rfl) rfl (pi_keys (pe_fld (pv 0) rfl)) (pg_name (i := 3) sc_Library_come_to_an_end.nd rfl (Or.inl rfl))
  (pss_cons (ps_set (i := 4) sc_Library_come_to_an_end.nd rfl (Or.inl rfl) (pe_call G_free_statements (hr.mono (by omega)) (by rfl) T.g_free_statements T.free_statements.kp T.b_free_statements .nil pass0 (pa_cons (pe_dget (hu_of hr) (pe_fld (pv 0) rfl) (pv 3) (fun _ _ => rfl)) pa_nil)))
  (pss_one (ps_dput (hu_of hr) (pv 1) (pv 3) (pe_lc (own := [("one", 7)]) rfl sc_Library_come_to_an_end.nd (pi_list (pv 4)) (blkOk_by (own := [("one", 7)]) (N := ["self", "calls", "known", "name", "free", "statement", "is_guarded", "one"]) (sc := defScope s_Library_come_to_an_end) (by decide +kernel)) (fun _ _ _ _ _ => (pg_name (i := 7) sc_Library_come_to_an_end.nd rfl (Or.inl rfl))) (fun _ _ _ _ _ => (pts_one (PW.pt (pw_and (pt_cmpR op_eq (pe_ix (ix_tupK (K := K) rfl) (pv 7) pe_int (fun _ _ => rfl)) pe_str (nomark _)) (pw_and1 (pt_cmp (pc_din (hu_of hr) (pe_ix (ix_tupK (K := K) rfl) (pv 7) pe_int (fun _ _ => rfl)) (pe_fldK (K := K) rfl (pv 0) rfl)))))))) (fun _ _ _ _ _ => (pe_ix (ix_tupK (K := K) rfl) (pv 7) pe_int (fun _ _ => rfl)))) rfl)))))
  (pss_cons (ps_lock (ps_for (passes_of rfl) rfl (pi_keys (pe_fld (pv 0) rfl)) (pg_name (i := 3) sc_Library_come_to_an_end.nd rfl (Or.inl rfl))
  (pss_one (ps_if (pt_val (pe_call G_comes_back (hr.mono (by omega)) (by rfl) T.g_comes_back T.comes_back.kp T.b_comes_back .nil pass0 (pa_cons (pv 3) (pa_cons (pv 1) pa_nil)))) (pss_one (ps_raise rfl (takes_of rfl rfl rfl rfl) (pmk_err T.e_Endless T.g_Endless T.n_super hr (pa_cons (pv 3) pa_nil)))) pss_nil))))
  (pss_cons (ps_lock (ps_for (passes_of rfl) rfl (pi_keys (pe_fld (pv 0) rfl)) (pg_name (i := 3) sc_Library_come_to_an_end.nd rfl (Or.inl rfl))
  (pss_one (ps_if (pt_cmpR op_gt (pe_call G_weight_of (hr.mono (by omega)) (by rfl) T.g_weight_of T.weight_of.kp T.b_weight_of .nil pass0 (pa_cons (pv 3) (pa_cons (pe_fld (pv 0) rfl) (pa_cons (pv 2) pa_nil)))) (pe_glob (v := .int 400) (by rfl) v_MOST_WEIGHT r_MOST_WEIGHT) (nomark _)) (pss_one (ps_raise rfl (takes_of rfl rfl rfl rfl) (pmk_err T.e_TooMany T.g_TooMany T.n_super hr (pa_cons pe_str pa_nil)))) pss_nil))))
  (pss_one (ps_for (passes_of rfl) rfl (pi_list (pe_fld (pv 0) rfl)) (pg_tup rfl (pgs_cons (pg_name (i := 5) sc_Library_come_to_an_end.nd rfl (Or.inl rfl)) (pgs_cons (pg_name (i := 6) sc_Library_come_to_an_end.nd rfl (Or.inl rfl)) pgs_nil)))
  (pss_one (ps_if (PW.pt (pw_and (pt_cmpR op_in_seq (pe_ix ix_tup (pv 5) pe_int (fun _ _ => rfl)) (pe_tup (pa_cons pe_str (pa_cons pe_str pa_nil))) (by rfl)) (pw_and1 (pt_cmpR op_gt (pe_call G_body_weight (hr.mono (by omega)) (by rfl) T.g_body_weight T.body_weight.kp T.b_body_weight .nil pass0 (pa_cons (pe_ix ix_tup (pv 5) pe_int (fun _ _ => rfl)) (pa_cons (pe_fld (pv 0) rfl) (pa_cons (pv 2) pa_nil)))) (pe_glob (v := .int 400) (by rfl) v_MOST_WEIGHT r_MOST_WEIGHT) (nomark _))))) (pss_one (ps_raise rfl (takes_of rfl rfl rfl rfl) (pmk_err T.e_TooMany T.g_TooMany T.n_super hr (pa_cons pe_str pa_nil)))) pss_nil)))))))), ?_⟩
    try dsimp only [cxOf]
    have lbo := I.ok.lb
    have B0 : EnI a H L z fs := ⟨I.ob, I.bd.rb, I.pl⟩
    obtain ⟨ps, hbd, hbs⟩ := I.bd.ex
    have lbs := hbs.len
    have l1 : List.lookup ("pairs" : Str) (liF L z) = some (.ref L.pl) := rfl
    have l2 : List.lookup ("bodies" : Str) (liF L z) = some (.ref L.bd) := rfl
    walk_at "rd"
    intro c hc
    have s1 := (Same.refl H).new (o := .dK []) hc
    have e1 := upd_same (H := H) (a := c) (o := .dK [])
    generalize upd H c (.dK []) = H1 at s1 e1 ⊢
    walk_at "rd"
    intro kd hkd
    have ncd : c ≠ kd := ne_of_none e1 hkd
    have nkd := new_none s1 hkd
    have s2 := s1.new (o := .dK []) hkd
    have ec2 := upd_old (o := .dK []) e1 hkd
    have ek2 := upd_same (H := H1) (a := kd) (o := .dK [])
    generalize upd H1 kd (.dK []) = H2 at s2 ec2 ek2 ⊢
    have hbd2 := s2 _ _ hbd
    have nbc : L.bd ≠ c := ne_of_none hbd hc
    have nbk : L.bd ≠ kd := ne_of_none hbd nkd
    walk_at "rd"
    refine ⟨True.intro, fun od => ?_⟩
    have B2 := B0.same s2
    have B3 := B2.lock (od := od) hbd2
    have ho3 := B3.ob
    have e3 := upd_same (H := H2) (a := L.bd) (o := .frz od (.dK (bdK fs ps)))
    have ec3 := upd_oth (o := .frz od (.dK (bdK fs ps))) (Ne.symm nbc) ec2
    have ek3 := upd_oth (o := .frz od (.dK (bdK fs ps))) (Ne.symm nbk) ek2
    have fin3 : ∀ F, Kp (fun b => b = c) (upd H2 L.bd (.frz od (.dK (bdK fs ps)))) F → Kp (fun b => b = c) H2 (upd F L.bd (.dK (bdK fs ps))) := fun F k => k.unlock hbd2
    generalize eH3 : upd H2 L.bd (.frz od (.dK (bdK fs ps))) = H3 at B3 ho3 e3 ec3 ek3 fin3 ⊢
    walk_at "rd"
    refine .inl ⟨_, e3, ?_⟩
    have lK : (bdK fs ps).length = fs.length := by unfold bdK; rw [List.length_map, List.length_zip, lbs]; omega
    have keyAt : ∀ i k v, (bdK fs ps)[i]? = some (k, v) → ∃ f : Fun, fs[i]? = some f ∧ k = Sum.inr f.name := fun i k v e => by
      have e := congrArg (Option.map Prod.fst) e
      rw [← List.getElem?_map, bdK_keys lbs, List.map_map, List.getElem?_map] at e
      cases q : fs[i]? with
      | none => rw [q] at e; cases e
      | some f => rw [q] at e; cases e; exact ⟨f, q, rfl⟩
    refine for_it walk_keys (fun i σ F => ∃ (_ : Unit) (ls : List Addr) (o3 o4 o5 o6 o7 : Option V), σ = [some (.ref L.x), some (.ref c), some (.ref kd), o3, o4, o5, o6, o7] ∧ Kp (fun b => b = c) H3 F ∧ F c = some (.dK (clK ((callsF fs).take i) ls)) ∧ A2 (fun l p => F l = some (.lst (p.2.map V.str))) ls ((callsF fs).take i)) ?_ ?_ ?_ ?_
    · exact ⟨(), [], none, none, none, none, none, rfl, Kp.refl, ec3, .nil⟩
    · rintro i σ F _ ⟨_, ls, o3, o4, o5, o6, o7, rfl, k3, _⟩
      exact k3 _ _ e3 nbc
    · rintro i x σ F F' li ⟨_, ls, o3, o4, o5, o6, o7, rfl, k3, ecF, A⟩ ⟨rfl, kk, v, hki, rfl⟩
      rw [lK] at li
      obtain ⟨f, hfi, rfl⟩ := keyAt _ _ _ hki
      have BF := B3.kp k3 (fun b h => ⟨[], by rw [h]; exact ec3⟩) nbc
      have fm : f ∈ fs := List.mem_of_getElem? hfi
      have hx : f.name ∈ namesF fs := List.mem_map_of_mem fm
      obtain ⟨psF, hrd, hbsF⟩ := BF.rb.ex
      have lbF := hbsF.len
      obtain ⟨p, us, v1, hp, hbat⟩ := bdK_get hbsF hx
      have gb : DGet F' L.bd (.str f.name) (some (.ref p)) := by
        have := DGet.r (k := Sum.inr f.name) hrd
        rw [v1] at this
        exact this
      have hgood : GoodB (bodyOf fs f.name) := by
        obtain ⟨f2, hf2, _, e⟩ := bodyOf_mem hx
        rw [← e]; exact lbo.gb f2 hf2
      have hoF := BF.ob
      have hci : (callsF fs)[i]? = some (f.name, callsB fs (bodyOf fs f.name)) := by
        unfold callsF
        rw [List.getElem?_map, hfi, bodyOf_at lbo.nn fm]; rfl
      have hnew : f.name ∉ ((callsF fs).take i).map (·.1) := by
        rw [List.map_take, callsF_keys]
        exact nodup_take lbo.nn (by unfold namesF; rw [List.getElem?_map, hfi]; rfl)
      generalize f.name = nm at hx v1 gb hgood hbat hci hnew
      rw [show kV (Sum.inr nm) = V.str nm from rfl]
      walk_at "rd"
      refine ⟨(), bodyOf fs nm, p, us, rfl, hp, hbat, hgood, fun F4 l ws s4 hl nl A4 => ?_⟩
      have lA4 := A4.len
      have hl4 := hl
      walk_at "rd"
      refine ⟨⟨_, SqL.of hl4⟩, fun D hD => ?_⟩
      have hrd4 : Rd F4 L.bd (.dK (bdK fs psF)) := Rd.to hrd fun u e => s4 _ _ e
      have ho4 := s4 _ _ hoF
      have lfr : (freeB (bodyOf fs nm)).length ≤ 100000 := Nat.le_trans (freeB_len _) hgood.ct
      refine lc_list (xs := ws) (fun i G => Same F4 G ∧ G D = some (.lst ((((freeB (bodyOf fs nm)).take i).filterMap (callee fs)).map V.str))) ?_ ?_ ?_ ?_
      · exact ⟨(Same.refl _).new hD, upd_same⟩
      · rintro i G _ ⟨s5, _⟩
        exact SqL.of (s5 _ _ hl)
      · rintro i v G hv ⟨s5, hG⟩
        obtain ⟨⟨h, qs⟩, hi, q, xs, rs, rfl, hq, hh, hps⟩ := A4.at hv
        obtain ⟨tx, rfl⟩ := hh.fst
        have hok := free_ok hgood (List.mem_of_getElem? hi)
        have a0 : ∀ (x : V) (t : List V), atI (x :: t) 0 = some x := fun x t => (atI_nat rfl : atI (x :: t) ((0 : Nat) : Int) = _)
        have a1 : ∀ (y x : V) (t : List V), atI (y :: x :: t) 1 = some x := fun y x t => (atI_nat rfl : atI (y :: x :: t) ((1 : Nat) : Int) = _)
        have b0 := a0 (.str (kdS h)) tx
        have hq5 := s5 _ _ hq
        have ho5 := s5 _ _ ho4
        have hrd5 : Rd G L.bd (.dK (bdK fs psF)) := Rd.to hrd4 fun u e => s5 _ _ e
        have et : ((freeB (bodyOf fs nm)).take (i + 1)).filterMap (callee fs) = ((freeB (bodyOf fs nm)).take i).filterMap (callee fs) ++ (callee fs (.mk h qs)).toList := by
          rw [List.take_add_one, hi, List.filterMap_append]
          cases e : callee fs (.mk h qs) with
          | none => simp [List.filterMap_cons, e]
          | some w => simp [List.filterMap_cons, e]
        have lz : (((freeB (bodyOf fs nm)).take i).filterMap (callee fs)).length ≤ 100000 := Nat.le_trans (List.length_filterMap_le _ _) (by rw [List.length_take]; omega)
        rw [et]
        have no : callee fs (.mk h qs) = none → Same F4 G ∧ G D = some (.lst (((((freeB (bodyOf fs nm)).take i).filterMap (callee fs)) ++ (callee fs (.mk h qs)).toList).map V.str)) := fun e => ⟨s5, by rw [e, Option.toList_none, List.append_nil]; exact hG⟩
        walk_at "rd"
        by_cases cc : kdS h = "call"
        · rw [decide_eq_true (show V.str (kdS h) = V.str "call" by rw [cc])]
          obtain ⟨w1, rfl⟩ := hok.one cc (by decide)
          obtain ⟨rfl, e⟩ := hh
          rw [e] at hq5
          have b1 := a1 (.str "call") (.str w1) []
          refine iteT ?_
          walk_at "rd"
          refine ⟨_, rfl, DGet.r (k := Sum.inr w1) hrd5, ?_⟩
          by_cases dd : w1 ∈ namesF fs
          · rw [valV_some (by rw [bdK_keys lbF]; exact inr_mem.mpr dd)]
            refine ⟨_, rfl, iteT ?_⟩
            walk_at "rd"
            refine ⟨by rw [List.length_map, sizeLine_eq]; omega, s5.frsh hD, ?_⟩
            rw [upd_same, show callee fs (.mk (.one "call" w1) qs) = some w1 from if_pos ⟨rfl, dd⟩, List.map_append]
            rfl
          · rw [valV_none (by rw [bdK_keys lbF]; exact fun z => dd (inr_mem.mp z))]
            refine ⟨_, rfl, iteF ?_⟩
            exact no (if_neg fun z => dd z.2)
        · rw [decide_eq_false (fun e => cc (V.str.inj e))]
          refine iteF ?_
          refine no ?_
          cases h with
          | one k' w1 => exact if_neg fun z => cc z.1
          | _ => rfl
      · rintro G ⟨s5, hG⟩
        rw [lA4, List.take_length] at hG
        have hc5 := s5 _ _ (s4 _ _ ecF)
        have kcx := clK_len A
        walk_at "rd"
        refine ⟨_, rfl, DPut.k (k := Sum.inr nm) hc5 (by rw [kcx, List.length_take, sizeLine_eq]; omega), ?_⟩
        rw [putK_new _ (valV_none (by rw [clK_keys A]; exact fun z => hnew (inr_mem.mp z)))]
        have gcb : ∀ u, G D = some u → D ≠ c := fun u e q => by rw [q] at hD; rw [s4 _ _ ecF] at hD; cases hD
        have kG : Kp (fun b => b = c) F' (upd G c (.dK (clK ((callsF fs).take i) ls ++ [(Sum.inr nm, .ref D)]))) := ((Kp.of_same s4).trans (Kp.of_same s5)).set rfl
        refine ⟨(), ls ++ [D], _, _, _, _, _, rfl, k3.trans kG, ?_, ?_⟩
        · rw [upd_same, List.take_add_one, hci, show clK ((callsF fs).take i) ls ++ [((Sum.inr nm : Key), V.ref D)] = clK ((callsF fs).take i ++ (some (nm, callsB fs (bodyOf fs nm))).toList) (ls ++ [D]) from by
            unfold clK
            rw [List.zip_append A.len.symm, List.map_append]; rfl]
        · rw [List.take_add_one, hci]
          exact (A.imp fun l p e => kG _ _ e fun q => by rw [q, ecF] at e; cases e).app (.cons (upd_oth (gcb _ hG) hG) .nil)
    · rintro σ F ⟨_, ls, o3, o4, o5, o6, o7, rfl, k3, ecF, A⟩
      rw [lK, show fs.length = (callsF fs).length by unfold callsF; rw [List.length_map], List.take_length] at ecF A
      refine ⟨k3 _ _ e3 nbc, ?_⟩
      have kk := fin3 F k3
      have S1 : Same H (upd F L.bd (.dK (bdK fs ps))) := kk.same s2 fun b e => by rw [e]; exact hc
      have eF := k3 _ _ e3 nbc
      have BG := (B3.kp k3 (fun b h => ⟨[], by rw [h]; exact ec3⟩) nbc).unlock eF
      have CG : CallsAt (upd F L.bd (.dK (bdK fs ps))) c (callsF fs) := ⟨ls, upd_oth (Ne.symm nbc) ecF, A.imp fun l p e => upd_oth (fun q => by rw [q, eF] at e; cases e) e⟩
      have ekG := upd_oth (o := .dK (bdK fs ps)) (Ne.symm nbk) (k3 _ _ ek3 (Ne.symm ncd))
      have hbG := upd_same (H := F) (a := L.bd) (o := .dK (bdK fs ps))
      generalize upd F L.bd (.dK (bdK fs ps)) = G at S1 BG CG ekG hbG ⊢
      clear fin3 ek3 ec3 e3 ho3 B3 ek2 ec2 e1 ecF A eF k3 kk
      walk_at "rd"
      refine ⟨True.intro, fun od => ?_⟩
      have B3 := BG.lock (od := od) hbG
      have ho3 := B3.ob
      have e3 := upd_same (H := G) (a := L.bd) (o := .frz od (.dK (bdK fs ps)))
      have k3 : Kp (fun b => b = L.bd) G (upd G L.bd (.frz od (.dK (bdK fs ps)))) := Kp.refl.set1
      have fin3 : ∀ F, Same (upd G L.bd (.frz od (.dK (bdK fs ps)))) F → Same G (upd F L.bd (.dK (bdK fs ps))) := fun F s => Same.unlock s hbG
      have C3 : CallsAt (upd G L.bd (.frz od (.dK (bdK fs ps)))) c (callsF fs) := by
        obtain ⟨ls, h1, h2⟩ := CG
        exact ⟨ls, upd_oth (Ne.symm nbc) h1, h2.imp fun l p e => upd_oth (fun q => by rw [q, hbG] at e; cases e) e⟩
      generalize upd G L.bd (.frz od (.dK (bdK fs ps))) = G3 at B3 ho3 e3 k3 fin3 C3 ⊢
      walk_at "rd"
      refine .inl ⟨_, e3, ?_⟩
      refine for_it walk_keys (fun i σ F => ∃ (_ : Unit) (o3 o4 o5 o6 o7 : Option V), σ = [some (.ref L.x), some (.ref c), some (.ref kd), o3, o4, o5, o6, o7] ∧ Same G3 F ∧ ∀ x ∈ (namesF fs).take i, backB (callsF fs) x = false) ?_ ?_ ?_ ?_
      · exact ⟨(), _, _, _, _, _, rfl, Same.refl _, fun x hx => absurd hx (by simp)⟩
      · rintro i σ F _ ⟨_, o3, o4, o5, o6, o7, rfl, k3, _⟩
        exact k3 _ _ e3
      · rintro i x σ F F' li ⟨_, o3, o4, o5, o6, o7, rfl, s5, hn⟩ ⟨rfl, kk, v, hki, rfl⟩
        rw [lK] at li
        obtain ⟨f, hfi, rfl⟩ := keyAt _ _ _ hki
        have hni : (namesF fs)[i]? = some f.name := by unfold namesF; rw [List.getElem?_map, hfi]; rfl
        have hx : f.name ∈ namesF fs := List.mem_of_getElem? hni
        rw [show kV (Sum.inr f.name) = V.str f.name from rfl]
        walk_at "rd"
        refine ⟨(), f.name, c, callsF fs, rfl, C3.same s5, clsOk lbo, by rw [callsF_keys]; exact hx, fun F5 s6 => ?_⟩
        walk_at "rd"
        refine ite2 (fun cb => ?_) (fun cb => ?_)
        · have e : endR fs = .loop f.name := by
            unfold endR
            rw [find_at hni cb hn]
          rw [e] at out
          walk_at "rd"
          exact out _ (((Kp.of_same S1).trans k3).trans (Kp.of_same (s5.trans s6)))
        · refine ⟨(), _, _, _, _, _, rfl, s5.trans s6, fun y hy => ?_⟩
          rw [List.take_add_one, hni] at hy
          rcases List.mem_append.mp hy with hy | hy
          · exact hn y hy
          · rw [List.mem_singleton.mp hy]
            simpa using cb
      · rintro σ F ⟨_, o3, o4, o5, o6, o7, rfl, s5, hn⟩
        rw [lK, show fs.length = (namesF fs).length by unfold namesF; rw [List.length_map], List.take_length] at hn
        refine ⟨s5 _ _ e3, ?_⟩
        have sG := fin3 F s5
        have S2 := S1.trans sG
        have BG2 := BG.same sG
        have ekG2 := sG _ _ ekG
        have hbG2 := sG _ _ hbG
        have ac : ∀ x ∈ namesF fs, Hb fs 13 x := Hb_all (fun x hx r => backB_no (hn x hx) r) l12
        have er : endR fs = if ((namesF fs).any fun x => decide (400 < wtF fs 13 x)) = true ∨ ((allF fs).any (heavyS fs)) = true then .heavy else .fine := by
          unfold endR
          rw [find_none' hn]
        rw [er] at out
        clear er hn
        generalize upd F L.bd (.dK (bdK fs ps)) = G4 at sG S2 BG2 ekG2 hbG2 ⊢
        clear fin3 e3 ho3 B3 C3 k3 s5 hbG ekG CG BG
        walk_at "rd"
        refine ⟨True.intro, fun od => ?_⟩
        have B3 := BG2.lock (od := od) hbG2
        have ho3 := B3.ob
        have e3 := upd_same (H := G4) (a := L.bd) (o := .frz od (.dK (bdK fs ps)))
        have k3 : Kp (fun b => b = L.bd) G4 (upd G4 L.bd (.frz od (.dK (bdK fs ps)))) := Kp.refl.set1
        have ek3 := upd_oth (o := .frz od (.dK (bdK fs ps))) (Ne.symm nbk) ekG2
        have fin3 : ∀ F, Kp (fun b => b = kd) (upd G4 L.bd (.frz od (.dK (bdK fs ps)))) F → Kp (fun b => b = kd) G4 (upd F L.bd (.dK (bdK fs ps))) := fun F k => k.unlock hbG2
        generalize upd G4 L.bd (.frz od (.dK (bdK fs ps))) = G5 at B3 ho3 e3 k3 ek3 fin3 ⊢
        have W0 : WtI G5 G5 L.bd kd fs := ⟨Kp.refl, B3.rb, ⟨[], ek3, List.nodup_nil, (fun x hx => nomatch hx)⟩, lbo, ac, nbk⟩
        walk_at "rd"
        refine .inl ⟨_, e3, ?_⟩
        refine for_it walk_keys (fun i σ F => ∃ (_ : Unit) (o3 o4 o5 o6 o7 : Option V), σ = [some (.ref L.x), some (.ref c), some (.ref kd), o3, o4, o5, o6, o7] ∧ WtI G5 F L.bd kd fs ∧ ∀ x ∈ (namesF fs).take i, decide (400 < wtF fs 13 x) = false) ?_ ?_ ?_ ?_
        · exact ⟨(), _, _, _, _, _, rfl, W0, fun x hx => absurd hx (by simp)⟩
        · rintro i σ F _ ⟨_, o3, o4, o5, o6, o7, rfl, Wi, _⟩
          exact Wi.k _ _ e3 nbk
        · rintro i x σ F F' li ⟨_, o3, o4, o5, o6, o7, rfl, Wi, hn⟩ ⟨rfl, kk, v, hki, rfl⟩
          rw [lK] at li
          obtain ⟨f, hfi, rfl⟩ := keyAt _ _ _ hki
          have hni : (namesF fs)[i]? = some f.name := by unfold namesF; rw [List.getElem?_map, hfi]; rfl
          have hx : f.name ∈ namesF fs := List.mem_of_getElem? hni
          rw [show kV (Sum.inr f.name) = V.str f.name from rfl]
          have BF := B3.kp Wi.k (fun b h => ⟨[], by rw [h]; exact ek3⟩) nbk
          have hoF := BF.ob
          walk_at "rd"
          refine ⟨(), f.name, L.bd, kd, fs, rfl, ⟨Kp.refl, Wi.lb, Wi.kn, lbo, ac, nbk⟩, hx, ac _ hx, fun F5 W5 => ?_⟩
          walk_at "rd"
          refine ite2 (fun cb => ?_) (fun cb => ?_)
          · have lt : 400 < wtF fs 13 f.name := by have := of_decide_eq_true cb; omega
            rw [if_pos (.inl (List.any_eq_true.mpr ⟨_, hx, decide_eq_true lt⟩))] at out
            walk_at "rd"
            refine out _ (Kp.drop (k := kd) ?_ nkd)
            exact (((Kp.of_same S2).trans (k3.mono fun b h => .inl h)).trans (Wi.k.mono fun b h => .inr h)).trans (W5.k.mono fun b h => .inr h)
          · refine ⟨(), _, _, _, _, _, rfl, Wi.trans W5, fun y hy => ?_⟩
            rw [List.take_add_one, hni] at hy
            rcases List.mem_append.mp hy with hy | hy
            · exact hn y hy
            · rw [List.mem_singleton.mp hy]
              exact decide_eq_false fun z => cb (decide_eq_true (by omega))
        · rintro σ F ⟨_, o3, o4, o5, o6, o7, rfl, Wi, hn⟩
          rw [lK, show fs.length = (namesF fs).length by unfold namesF; rw [List.length_map], List.take_length] at hn
          refine ⟨Wi.k _ _ e3 nbk, ?_⟩
          have kG := fin3 F Wi.k
          have S6 : Same H (upd F L.bd (.dK (bdK fs ps))) := kG.same S2 fun b e => by rw [e]; exact nkd
          have eF := Wi.k _ _ e3 nbk
          have kn6 : KnAt (upd F L.bd (.dK (bdK fs ps))) kd fs := by
            obtain ⟨ks, h1, h2⟩ := Wi.kn
            exact ⟨ks, upd_oth (Ne.symm nbk) h1, h2⟩
          have B6 := B0.same S6
          have an : ((namesF fs).any fun x => decide (400 < wtF fs 13 x)) = false := List.any_eq_false.mpr fun x hx => by rw [hn x hx]; simp
          generalize upd F L.bd (.dK (bdK fs ps)) = G6 at S6 kn6 B6 ⊢
          clear fin3 ek3 e3 ho3 B3 k3 kG eF W0
          have W6 : WtI G6 G6 L.bd kd fs := ⟨Kp.refl, B6.rb, kn6, lbo, ac, nbk⟩
          obtain ⟨ts, hpl, hts⟩ := I.pl
          have lts := hts.len
          have hoG := B6.ob
          walk_at "rd"
          refine ⟨⟨_, SqL.of (S6 _ _ hpl)⟩, ?_⟩
          refine for_list (xs := ts.map V.ref) (fun i σ F => ∃ (_ : Unit) (o3 o4 o5 o6 o7 : Option V), σ = [some (.ref L.x), some (.ref c), some (.ref kd), o3, o4, o5, o6, o7] ∧ WtI G6 F L.bd kd fs ∧ Same H F ∧ ∀ x ∈ (allF fs).take i, heavyS fs x = false) ?_ ?_ ?_ ?_
          · exact ⟨(), _, _, _, _, _, rfl, W6, S6, fun x hx => absurd hx (by simp)⟩
          · rintro i σ F _ ⟨_, o3, o4, o5, o6, o7, rfl, _, sF, _⟩
            exact SqL.of (sF _ _ hpl)
          · rintro i v σ F hv ⟨_, o3, o4, o5, o6, o7, rfl, Wi, sF, hn⟩
            obtain ⟨⟨h, qs⟩, g, t, q, xs, rs, rfl, hi, ht, hq, hh, hok, q', xs', rs', eq, hq', hh', hps⟩ := I.pair hts hv
            cases eq
            rw [hq] at hq'; cases hq'
            change HdAt H h rs' xs at hh'
            change HdOk h at hok
            have htF := sF _ _ ht
            have hqF := sF _ _ hq
            obtain ⟨tx, rfl⟩ := hh'.fst
            have a0 : ∀ (x : V) (t : List V), atI (x :: t) 0 = some x := fun x t => (atI_nat rfl : atI (x :: t) ((0 : Nat) : Int) = _)
            have a1 : ∀ (y x : V) (t : List V), atI (y :: x :: t) 1 = some x := fun y x t => (atI_nat rfl : atI (y :: x :: t) ((1 : Nat) : Int) = _)
            have b0 := a0 (.str (kdS h)) tx
            have et : (allF fs).take (i + 1) = (allF fs).take i ++ [.mk h qs] := by rw [List.take_add_one, hi]; rfl
            have no : ∀ F', WtI G6 F' L.bd kd fs → Same H F' → heavyS fs (.mk h qs) = false → ∀ o5 o6, ∃ (_ : Unit) (p3 p4 p5 p6 p7 : Option V), [some (.ref L.x), some (.ref c), some (.ref kd), o3, o4, o5, o6, o7] = [some (.ref L.x), some (.ref c), some (.ref kd), p3, p4, p5, p6, p7] ∧ WtI G6 F' L.bd kd fs ∧ Same H F' ∧ ∀ x ∈ (allF fs).take (i + 1), heavyS fs x = false := fun F' W' s' e o5 o6 =>
              ⟨(), _, _, _, _, _, rfl, W', s', fun y hy => by
                rw [et] at hy
                rcases List.mem_append.mp hy with hy | hy
                · exact hn y hy
                · rw [List.mem_singleton.mp hy]; exact e⟩
            walk_at "rd"
            intro p5 hp5
            have s5 := (Same.refl F).new (o := .tup [.str "maybe", .str "repeat"]) hp5
            have e5 := upd_same (H := F) (a := p5) (o := .tup [.str "maybe", .str "repeat"])
            generalize upd F p5 (.tup [.str "maybe", .str "repeat"]) = F5 at s5 e5 ⊢
            refine ⟨p5, _, rfl, .inr (SqT.of e5), rfl, rfl, _, rfl, ?_⟩
            rw [show (if false = true then !inV (V.str (kdS h)) [.str "maybe", .str "repeat"] else inV (V.str (kdS h)) [.str "maybe", .str "repeat"]) = decide (kdS h ∈ (["maybe", "repeat"] : List Str)) from inV_strL (l := ["maybe", "repeat"]), hok.gu]
            have W5 := Wi.same s5
            have s6 := sF.trans s5
            refine ite2 (fun cg => ?_) (fun cg => ?_)
            · cases h with
              | gua kw =>
                obtain ⟨r, rfl, e⟩ := hh'
                have hq5 := s6 _ _ hq
                rw [e] at hq5
                have b1 := a1 (.str kw) (.ref r) []
                cases qs with
                | nil => exact absurd (show [r] = [] from hps) (by simp)
                | cons b rest =>
                  obtain ⟨y, rt, us, e2, hy, hbu, _⟩ := hps
                  cases e2
                  have hgood := lbo.sub (List.mem_of_getElem? hi) (b := b) List.mem_cons_self
                  have ho5 := s6 _ _ I.ob
                  walk_at "rd"
                  refine ⟨(), b, r, us, L.bd, kd, fs, rfl, s6 _ _ hy, hbu.tup (TupK.of_same s6), hgood, ⟨Kp.refl, W5.lb, W5.kn, lbo, ac, nbk⟩, fun z hz => ac z (callsB_mem hz), fun F7 W7 => ?_⟩
                  have W8 := W5.trans W7
                  have s8 : Same H F7 := W7.k.same s6 fun b e => by rw [e]; exact nkd
                  walk_at "rd"
                  refine ite2 (fun cb => ?_) (fun cb => ?_)
                  · have lt : 400 < wtB fs 13 b := by have := of_decide_eq_true cb; omega
                    have hv : heavyS fs (.mk (.gua kw) (b :: rest)) = true := decide_eq_true lt
                    rw [if_pos (.inr (List.any_eq_true.mpr ⟨_, List.mem_of_getElem? hi, hv⟩))] at out
                    walk_at "rd"
                    exact out _ (Kp.of_same s8)
                  · exact no _ W8 s8 (decide_eq_false (p := 400 < wtB fs 13 b) fun z => cb (decide_eq_true (by omega))) _ _
              | _ => cases cg
            · exact no _ W5 s6 (by unfold heavyS; rw [show (Stm.mk h qs).hd = h from rfl, show isG h = false by simpa using cg]; rfl) _ _
          · rintro σ F ⟨_, o3, o4, o5, o6, o7, rfl, Wi, sF, hn⟩
            have ll : ts.length = (allF fs).length := by rw [lts, ← pairsF_fst, List.length_map]
            rw [List.length_map, ll, List.take_length] at hn
            have ah : ((allF fs).any (heavyS fs)) = false := List.any_eq_false.mpr fun x hx => by rw [hn x hx]; simp
            rw [if_neg (by rintro (z | z); rw [an] at z; cases z; rw [ah] at z; cases z)] at out
            walk_at "rd"
            exact out _ sF
/-! ### Library(text) -/
theorem Kp.drops {x : Addr} {S : Addr → Prop} {H F : Hp} (h : Kp (fun b => b = x ∨ S b) H F) (n : ∀ b, S b → H b = Option.none) : Kp (fun b => b = x) H F := fun b o e nb => h b o e fun z => z.elim nb fun z => by rw [n b z] at e; cases e
theorem rS_le (rows : List Row) : ∀ i, rS rows i ≤ rS rows rows.length := fun i => by
  unfold rS
  rw [List.take_length]
  have := congrArg (fun l => (l.map rowN).sum) (List.take_append_drop i rows)
  simp only [List.map_append, List.sum_append] at this
  omega
theorem allF_app (fs gs : List Fun) : allF (fs ++ gs) = allF fs ++ allF gs := by unfold allF; rw [List.map_append, List.flatten_append]
theorem allF_one (f : Fun) : allF [f] = allB f.body := by unfold allF; simp
structure FunOk (f : Fun) : Prop where
  ok : ∀ x ∈ allB f.body, SOk x
  dp : dpB f.body < 9
  nw : IsWord f.name
  ne : f.body ≠ []
theorem rdAll_good {rows : List Row} (hr : RowsOk rows) : ∀ k i mk fs0 fs j mk1, (∀ f ∈ fs0, FunOk f) → wP (allF fs0) ≤ rS rows i → rdAll rows k i mk fs0 = some (.ok fs j mk1) → (∀ f ∈ fs, FunOk f) ∧ wP (allF fs) ≤ rS rows j
  | 0, i, mk, fs0, fs, j, mk1, _, _, h => by rw [rdAll] at h; cases h
  | k + 1, i, mk, fs0, fs, j, mk1, h1, h2, h => by
    rw [rdAll] at h
    split at h
    · split at h
      · cases h
      · rename_i c
        have l2 : (wordsAt rows 0 i).length = 2 := Decidable.byContradiction fun e => c (.inl e)
        have hne : wordsAt rows 0 i ≠ [] := fun e => by rw [e] at l2; cases l2
        have hsu := rS_succ hne
        have iw := (wordsAt_ok hr (n := 0) (i := i)).1
        split at h
        · cases h
        · cases h
        · rename_i b j1 mk2 e
          obtain ⟨B, nb⟩ := (rd_good hr k).1 _ _ _ _ _ _ (by omega) e
          refine rdAll_good hr k _ _ _ _ _ _ ?_ ?_ h
          · intro f hf
            rcases List.mem_append.mp hf with hf | hf
            · exact h1 f hf
            · rw [List.mem_singleton.mp hf]
              refine ⟨B.ok, by have := B.dp; show dpB b < 9; omega, ?_, nb⟩
              show IsWord ((wordsAt rows 0 i).getD 1 "")
              rw [List.getD_eq_getElem?_getD, List.getElem?_eq_getElem (by omega)]
              exact iw _ (List.getElem_mem _)
          · rw [allF_app, allF_one, wP_app]
            have := B.wd
            show wP (allF fs0) + wP (allB b) ≤ _
            omega
    · cases h
      exact ⟨h1, h2⟩
theorem allB_le : ∀ {fs : List Fun} {f : Fun}, f ∈ fs → (allB f.body).length ≤ (allF fs).length
  | g :: r, f, h => by
    rw [show g :: r = [g] ++ r from rfl, allF_app, allF_one, List.length_append]
    rcases List.mem_cons.mp h with rfl | h
    · omega
    · have := allB_le h; omega
theorem libOk {rows : List Row} (hr : RowsOk rows) {k : Nat} {fs : List Fun} {j : Nat} {mk : List Mk} (h : rdAll rows k 0 [] [] = some (.ok fs j mk)) (hw : rS rows rows.length ≤ 4000) (nn : (fs.map (·.name)).Nodup) (lm : mk.length ≤ 100000) : LibOk fs mk ∧ ∀ f ∈ fs, FunOk f := by
  obtain ⟨h1, h2⟩ := rdAll_good hr k 0 [] [] fs j mk (fun f hf => nomatch hf) (Nat.zero_le _) h
  have hj := rS_le rows j
  have la := wP_len (allF fs)
  have lf : fs.length ≤ (allF fs).length := by
    have : ∀ gs : List Fun, (∀ f ∈ gs, FunOk f) → gs.length ≤ (allF gs).length := by
      intro gs
      induction gs with
      | nil => intro _; exact Nat.zero_le _
      | cons f r ih =>
        intro h
        have hf := (h f List.mem_cons_self).ne
        have := ih fun g hg => h g (List.mem_cons_of_mem _ hg)
        rw [show f :: r = [f] ++ r from rfl, allF_app, allF_one, List.length_append, List.length_append]
        have : 1 ≤ (allB f.body).length := by
          cases e : f.body with
          | nil => exact absurd e hf
          | cons s t =>
            cases s
            rw [allB, allS]; simp
        simp only [List.length_cons, List.length_nil]
        omega
    exact this fs h1
  refine ⟨⟨⟨nn, fun f hf => ⟨(h1 f hf).ok, (h1 f hf).dp, by have := allB_le hf; omega⟩, by omega⟩, by omega, lm, fun s hs => ?_⟩, h1⟩
  obtain ⟨l, hl, hx⟩ := List.mem_flatten.mp hs
  obtain ⟨f, hf, rfl⟩ := List.mem_map.mp hl
  exact (h1 f hf).ok s hx
def linesOf (z : Str) : List Str := Txt.split z "\n"
def rowsOf (z : Str) : List Row := (linesOf z).map rowOf
inductive LibR
  | bad (l : Nat)
  | many (w : Str)
  | loop (x : Str)
  | ok (fs : List Fun) (mk : List Mk)
noncomputable def libR (z : Str) (m : Nat) (r : Rs (List Fun)) : LibR :=
  if m < z.length then .many "characters" else match r with
  | .err l => .bad l
  | .ok fs _ mk => match boundV fs mk with
    | some w => .many w
    | none => match endR fs with
      | .fine => .ok fs mk
      | .loop x => .loop x
      | .heavy => .many "weight"
structure TextOk (z : Str) : Prop where
  ln : ∀ l ∈ linesOf z, LineOk l
  ll : (linesOf z).length ≤ 100000
  ws : rS (rowsOf z) (rowsOf z).length ≤ 4000
  sz : z.length + 2 ≤ sizeLine
def outL (a : Ad) (x : Addr) (z : Str) (H : Hp) (Q : VK) (E : XK) : LibR → Prop
  | .bad l => ∀ H', Kp (fun b => b = x) H H' → errQ a.BadLibrary ef_BadLibrary [.int (l : Int)] H' E
  | .many w => ∀ H', Kp (fun b => b = x) H H' → errQ a.TooMany ef_TooMany [.str w] H' E
  | .loop w => ∀ H', Kp (fun b => b = x) H H' → errQ a.Endless ef_Endless [.str w] H' E
  | .ok fs mk => ∀ H' L, LibAt a H' L z (linesOf z) fs mk → L.x = x → H L.ll = none ∧ H L.ml = none ∧ H L.pl = none → Kp (fun b => b = x) H H' → Q .non H'
def ArgL (a : Ad) (x : Addr) (m : Nat) (H : Hp) (Q : VK) (E : XK) (v : V) : Prop :=
  (∃ (z : Str) (k : Nat) (r : Rs (List Fun)), v = .str z ∧ z.length ≤ sizeLine ∧ (z.length ≤ m → TextOk z ∧ rdAll (rowsOf z) k 0 [] [] = some r) ∧ outL a x z H Q E (libR z m r)) ∨
  (Thing H v ∧ strB v = false ∧ ∀ H', Kp (fun b => b = x) H H' → errQ a.BadLibrary ef_BadLibrary [.int (-1)] H' E)
def spLibI (a : Ad) : Sp := fun vs H Q E => ∃ (_ : Unit) (x dx : Addr) (v : V) (m : Nat), vs = [.ref x, v, .int (m : Int)] ∧ H x = some (.ins a.Library dx []) ∧ ArgL a x m H Q E v
structure InS (a : Ad) (H G : Hp) (x dx ll : Addr) (L : RA) (z : Str) (fs : List Fun) (ps : List Addr) (j : Nat) (mk : List Mk) (fl : List (Str × V)) : Prop where
  ob : G x = some (.ins a.Library dx fl)
  li : G ll = some (.lst ((linesOf z).map V.str))
  rd : G L.x = some (.ins a.Reader L.dx (rdF L j))
  sd : G L.sd = some (.dK (stK fs))
  bd : G L.bd = some (.dK (bdK fs ps))
  bs : A2 (BodyAt G) ps fs
  ml : ∃ ms : List Addr, G L.ml = some (.lst (ms.map V.ref)) ∧ A2 (MkAt G) ms mk
  ne : L.x ≠ x
  k : Kp (fun b => b = x) H G
theorem InS.set {a : Ad} {H G : Hp} {x dx ll : Addr} {L : RA} {z : Str} {fs : List Fun} {ps : List Addr} {j : Nat} {mk : List Mk} {fl fl' : List (Str × V)} (B : InS a H G x dx ll L z fs ps j mk fl) : InS a H (upd G x (.ins a.Library dx fl')) x dx ll L z fs ps j mk fl' := by
  have n : ∀ {b u}, G b = some u → (∀ C d f, u ≠ .ins C d f) → b ≠ x := fun {b u} e h z => by rw [z, B.ob] at e; cases e; exact h _ _ _ rfl
  have tk : TupK G (upd G x (.ins a.Library dx fl')) := fun b l e => upd_oth (n e fun _ _ _ z => by cases z) e
  obtain ⟨ms, m1, m2⟩ := B.ml
  exact ⟨upd_same, upd_oth (n B.li fun _ _ _ z => by cases z) B.li, upd_oth B.ne B.rd, upd_oth (n B.sd fun _ _ _ z => by cases z) B.sd, upd_oth (n B.bd fun _ _ _ z => by cases z) B.bd, B.bs.imp fun _ _ r => r.tup tk, ⟨ms, upd_oth (n m1 fun _ _ _ z => by cases z) m1, m2.imp fun _ _ r => tk _ _ r⟩, B.ne, B.k.set1⟩
theorem InS.same {a : Ad} {H G G' : Hp} {x dx ll : Addr} {L : RA} {z : Str} {fs : List Fun} {ps : List Addr} {j : Nat} {mk : List Mk} {fl : List (Str × V)} (B : InS a H G x dx ll L z fs ps j mk fl) (s : Same G G') : InS a H G' x dx ll L z fs ps j mk fl := by
  obtain ⟨ms, m1, m2⟩ := B.ml
  exact ⟨s _ _ B.ob, s _ _ B.li, s _ _ B.rd, s _ _ B.sd, s _ _ B.bd, B.bs.imp fun _ _ r => r.tup (TupK.of_same s), ⟨ms, s _ _ m1, m2.imp fun _ _ r => s _ _ r⟩, B.ne, B.k.trans (Kp.of_same s)⟩
theorem pairsF_take {fs : List Fun} {i : Nat} {f : Fun} (h : fs[i]? = some f) : pairsF (fs.take (i + 1)) = pairsF (fs.take i) ++ lsB false f.body := by
  unfold pairsF
  rw [List.take_add_one, h, List.map_append, List.flatten_append]
  simp
theorem pairsF_le (fs : List Fun) (i : Nat) : (pairsF (fs.take i)).length ≤ (pairsF fs).length := by
  have := congrArg (fun l => (pairsF l).length) (List.take_append_drop i fs)
  simp only [pairsF, List.map_append, List.flatten_append, List.length_append] at this
  unfold pairsF
  omega
theorem str_isi {K : PySem.W.Frag} {H : Hp} {z : Str} : ∃ ty, TyX K H (.str z) ty ∧ PySem.W.kitOne K ty (.type "str") = some true := ⟨_, .base (.str z), kit_ty (show kitB "str" "str" = some true by decide +kernel)⟩
theorem ok_LibraryU_initU (T : Txt K mg a d) : FnOk P w K mg base (L2.CX P w) 51 a.LibraryU_initU d.LibraryU_initU ["self", "text", "longest"] (spLibI a) := by
  have G_ReaderU_initU : FnOk P w K mg base CX0 3 a.ReaderU_initU d.ReaderU_initU ["self", "lines"] (spRdI a) := ok_ReaderU_initU T
  have G_Reader_read_all : FnOk P w K mg base (L2.CX P w) 40 a.Reader_read_all d.Reader_read_all ["self"] (spAll a) := ok_Reader_read_all T
  have G_listed_statements : FnOk P w K mg base CX0 13 a.listed_statements d.listed_statements ["body", "is_guarded"] (spListed 9) := ok_listed T 9
  have G_Library_stay_in_bounds : FnOk P w K mg base (L2.CX P w) 3 a.Library_stay_in_bounds d.Library_stay_in_bounds ["self"] (spStay a) := ok_Library_stay_in_bounds T
  have G_Library_come_to_an_end : FnOk P w K mg base (L2.CX P w) 50 a.Library_come_to_an_end d.Library_come_to_an_end ["self"] (spCte a) := ok_Library_come_to_an_end T
  obtain ⟨_, vd1_ls, bd1_ls⟩ := bd1_ls0 T
  refine T.LibraryU_initU.ok (CX := L2.CX P w) sc_LibraryU_initU (fun vs H Q E h => ?_) (fun cdv A outer s H vs Q E hr h => ?_)
  · obtain ⟨_, x, dx, v, m, rfl, _⟩ := h
    rfl
  · obtain ⟨_, x, dx, v, m, rfl, hx, arg⟩ := h
    have c1 := T.k_Library
    have n1 := T.na_Library_text
    have n2 := T.na_Library_lines
    have n3 := T.na_Library_starts
    have n4 := T.na_Library_bodies
    have n5 := T.na_Library_marks
    have n6 := T.na_Library_pairs
    have c2 := T.k_Reader
    have n7 := T.na_Reader_starts
    have n8 := T.na_Reader_bodies
    have n9 := T.na_Reader_marks
    refine ⟨_, (pss_cons (ps_if (pt_not (pt_val (pe_callB call_isi (by rfl) T.n_isinstance (by decide +kernel) (pa_cons (pv 1) (pa_cons (pe_bltn (v := .ty "str") (u := .type "str") (by rfl) T.n_str (by decide +kernel) rfl) pa_nil))))) (pss_one (ps_raise rfl (takes_of rfl rfl rfl rfl) (pmk_err T.e_BadLibrary T.g_BadLibrary T.n_super hr (pa_cons (pe_un un_neg pe_int) pa_nil)))) pss_nil)
  (pss_cons (ps_if (pt_cmpR op_gt (pe_callB call_len_str (by rfl) T.n_len PySem.boot_len (pa_cons (pv 1) pa_nil)) (pv 2) (nomark _)) (pss_one (ps_raise rfl (takes_of rfl rfl rfl rfl) (pmk_err T.e_TooMany T.g_TooMany T.n_super hr (pa_cons pe_str pa_nil)))) pss_nil)
  (pss_cons (ps_fld (pv 0) (pv 1) rfl)
  (pss_cons (ps_fld (pv 0) (pe_split (pv 1) pe_str) rfl)
  (pss_cons (ps_set (i := 3) sc_LibraryU_initU.nd rfl (Or.inl rfl) (pe_make T.mk_Reader G_ReaderU_initU (hr.mono (by omega)) (by rfl) T.g_Reader T.b_ReaderU_initU .nil pass0 (pa_cons (pe_fld (pv 0) rfl) pa_nil)))
  (pss_cons (ps_expr (pe_meth0 (pv 3) T.k_Reader T.m_Reader_read_all G_Reader_read_all (hr.mono (by omega)) T.b_Reader_read_all .nil (passes_call (takes_of rfl rfl rfl rfl) (fun _ _ _ _ h => h))))
  (pss_cons (ps_fld (pv 0) (pe_fld (pv 3) rfl) rfl)
  (pss_cons (ps_fld (pv 0) (pe_fld (pv 3) rfl) rfl)
  (pss_cons (ps_fld (pv 0) (pe_fld (pv 3) rfl) rfl)
  (C8.pss_cut (ps_fld (pv 0) (pe_lst pa_nil) rfl)
  (pss_cons (ps_lock (ps_for (passes_of rfl) rfl (pi_keys (pe_fld (pv 0) rfl)) (pg_name (i := 4) sc_LibraryU_initU.nd rfl (Or.inl rfl))
  (pss_one (ps_fld (pv 0) (pe_op op_cat (pe_fld (pv 0) rfl) (pe_call G_listed_statements (hr.mono (by omega)) (by rfl) T.g_listed_statements T.listed_statements.kp bd1_ls vd1_ls pass0 (pa_cons (pe_dget (hu_of hr) (pe_fld (pv 0) rfl) (pv 4) (fun _ _ => rfl)) pa_nil))) rfl))))
  (pss_cons (ps_expr (pe_meth0 (pv 0) T.k_Library T.m_Library_stay_in_bounds G_Library_stay_in_bounds (hr.mono (by omega)) T.b_Library_stay_in_bounds .nil (passes_call (takes_of rfl rfl rfl rfl) (fun _ _ _ _ h => h))))
  (pss_one (ps_expr (pe_meth0 (pv 0) T.k_Library T.m_Library_come_to_an_end G_Library_come_to_an_end (hr.mono (by omega)) T.b_Library_come_to_an_end .nil (passes_call (takes_of rfl rfl rfl rfl) (fun _ _ _ _ h => h))))))))))))))))), ?_⟩
    try dsimp only [cxOf]
    rcases arg with ⟨z, kk, r, rfl, hs, hz, out⟩ | ⟨ht, hb, out⟩
    · obtain ⟨ty, h1, h2⟩ := str_isi (K := K) (H := H) (z := z)
      refine ⟨_, rfl, _, _, _, _, _, rfl, ClsV.ty _, h1, h2, _, rfl, ?_⟩
      refine iteF ?_
      walk_at "rd"
      refine ite2 (fun c0 => ?_) (fun c0 => ?_)
      · have lt : m < z.length := by have := of_decide_eq_true c0; omega
        rw [show libR z m r = .many "characters" from if_pos lt] at out
        walk_at "rd"
        exact out _ Kp.refl
      · have le : ¬ m < z.length := fun l => c0 (decide_eq_true (by omega))
        obtain ⟨tok, hrd⟩ := hz (by omega)
        unfold libR at out
        rw [if_neg le] at out
        have hsz := tok.sz
        walk_at "rd"
        rw [show putF "text" (V.str z) [] = ([("text", .str z)] : List (Str × V)) from rfl]
        have k1 : Kp (fun b => b = x) H (upd H x (.ins a.Library dx [("text", .str z)])) := Kp.refl.set1
        have x1 := upd_same (H := H) (a := x) (o := .ins a.Library dx [("text", .str z)])
        generalize upd H x (.ins a.Library dx [("text", .str z)]) = H1 at k1 x1 ⊢
        intro ll hll
        rw [show Txt.split z (Str.ofString "\n") = linesOf z from rfl]
        have k2 := k1.new (o := .lst ((linesOf z).map V.str)) hll
        have x2 := upd_old (o := .lst ((linesOf z).map V.str)) x1 hll
        have l2 := upd_same (H := H1) (a := ll) (o := .lst ((linesOf z).map V.str))
        have nlx : ll ≠ x := Ne.symm (ne_of_none x1 hll)
        have gll : H ll = none := k1.none nlx hll
        generalize upd H1 ll (.lst ((linesOf z).map V.str)) = H2 at k2 x2 l2 ⊢
        walk_at "rd"
        rw [show putF "lines" (V.ref ll) ([("text", .str z)] : List (Str × V)) = ([("text", .str z), ("lines", .ref ll)] : List (Str × V)) from rfl]
        have k3 := k2.set1 (o := .ins a.Library dx [("text", .str z), ("lines", .ref ll)])
        have x3 := upd_same (H := H2) (a := x) (o := .ins a.Library dx [("text", .str z), ("lines", .ref ll)])
        have l3 := upd_oth (o := .ins a.Library dx [("text", .str z), ("lines", .ref ll)]) nlx l2
        generalize upd H2 x (.ins a.Library dx [("text", .str z), ("lines", .ref ll)]) = H3 at k3 x3 l3 ⊢
        walk_at "rd"
        intro xr dxr hxr hdr ndr
        have nxr : xr ≠ x := Ne.symm (ne_of_none x3 hxr)
        have fxr : H xr = none := k3.none nxr hxr
        have k4 := (k3.new (o := .own xr) hdr).new (o := .ins a.Reader dxr []) (by rw [upd_ne (Ne.symm ndr)]; exact hxr)
        have x4 := upd_old (o := .ins a.Reader dxr []) (upd_old (o := .own xr) x3 hdr) (show (upd H3 dxr (.own xr)) xr = none by rw [upd_ne (Ne.symm ndr)]; exact hxr)
        have l4 := upd_old (o := .ins a.Reader dxr []) (upd_old (o := .own xr) l3 hdr) (show (upd H3 dxr (.own xr)) xr = none by rw [upd_ne (Ne.symm ndr)]; exact hxr)
        have r4 := upd_same (H := upd H3 dxr (.own xr)) (a := xr) (o := .ins a.Reader dxr [])
        generalize upd (upd H3 dxr (.own xr)) xr (.ins a.Reader dxr []) = H4 at k4 x4 l4 r4 ⊢
        refine ⟨xr, dxr, ll, linesOf z, rfl, r4, l4, tok.ln, tok.ll, fun H5 L N eL kL fml fsd fbd => ?_⟩
        have nml : L.ml ≠ x := fun e => by rw [e, x4] at fml; cases fml
        have nsd : L.sd ≠ x := fun e => by rw [e, x4] at fsd; cases fsd
        have nbd : L.bd ≠ x := fun e => by rw [e, x4] at fbd; cases fbd
        have gml := k4.none nml fml
        have gsd := k4.none nsd fsd
        have gbd := k4.none nbd fbd
        have k5 : Kp (fun b => b = x) H H5 := ((k4.mono fun b h => Or.inl h).trans (kL.mono fun b h => Or.inr h) : Kp (fun b => b = x ∨ b = xr) H H5).drop fxr
        have x5 := kL _ _ x4 (Ne.symm nxr)
        have l5 := kL _ _ l4 (fun e => by rw [e, r4] at l4; cases l4)
        refine ⟨rfl, ?_⟩
        subst eL
        have r5 := N.I.ob
        have hra : List.lookup ("read_all" : Str) (rdF L 0) = none := rfl
        walk_at "rd"
        refine ⟨L, rowsOf z, kk, r, rfl, N.I, N.sd, N.bd, N.nd, hrd, ?_⟩
        have toH : ∀ F, FrA L H5 F → Kp (fun b => b = x) H F := fun F f => Kp.drops (S := fun b => b = L.x ∨ b = L.ml ∨ b = L.sd ∨ b = L.bd) ((k5.mono fun b h => Or.inl h).trans (f.mono fun b h => Or.inr h)) fun b h => by
          rcases h with h | h | h | h
          · rw [h]; exact fxr
          · rw [h]; exact gml
          · rw [h]; exact gsd
          · rw [h]; exact gbd
        cases r with
        | err le => exact fun H' f => out H' (toH H' f)
        | ok fs j mk =>
        intro H6 ps B
        have k6 := toH H6 B.f
        have x6 := B.f _ _ x5 (by
          rintro (h | h | h | h)
          · exact nxr h.symm
          · exact nml h.symm
          · exact nsd h.symm
          · exact nbd h.symm)
        have l6 := B.f _ _ l5 (by
          rintro (h | h | h | h)
          · rw [h, r5] at l5; cases l5
          · obtain ⟨ms, hms, _⟩ := N.I.mk_
            exact ne_of_none l4 fml h
          · exact ne_of_none l4 fsd h
          · exact ne_of_none l4 fbd h)
        have J0 : InS a H H6 x dx ll L z fs ps j mk [("text", .str z), ("lines", .ref ll)] := ⟨x6, l6, B.I.ob, B.sd, B.bd, B.bs, B.I.mk_, nxr, k6⟩
        have hx1 := J0.ob
        have hr1 := J0.rd
        have f1 : List.lookup ("starts" : Str) (rdF L j) = some (.ref L.sd) := rfl
        have f2 : List.lookup ("bodies" : Str) (rdF L j) = some (.ref L.bd) := rfl
        have f3 : List.lookup ("marks" : Str) (rdF L j) = some (.ref L.ml) := rfl
        walk_at "rd"
        rw [upd_upd, upd_upd, show putF "marks" (V.ref L.ml) (putF "bodies" (V.ref L.bd) (putF "starts" (V.ref L.sd) ([("text", .str z), ("lines", .ref ll)] : List (Str × V)))) = ([("text", .str z), ("lines", .ref ll), ("starts", .ref L.sd), ("bodies", .ref L.bd), ("marks", .ref L.ml)] : List (Str × V)) from rfl]
        have J1 := J0.set (fl' := [("text", .str z), ("lines", .ref ll), ("starts", .ref L.sd), ("bodies", .ref L.bd), ("marks", .ref L.ml)])
        generalize upd H6 x (.ins a.Library dx [("text", .str z), ("lines", .ref ll), ("starts", .ref L.sd), ("bodies", .ref L.bd), ("marks", .ref L.ml)]) = H7 at J1 ⊢
        clear f1 f2 f3 hx1 hr1
        refine ⟨fun σ' G => ∃ (_ : Unit) (pl0 : Addr), σ' = [some (.ref x), some (.str z), some (.int (m : Int)), some (.ref L.x), none] ∧ InS a H G x dx ll L z fs ps j mk (liF ⟨x, dx, ll, L.sd, L.bd, L.ml, pl0⟩ z) ∧ G pl0 = some (.lst []) ∧ H pl0 = none, ?_, ?_⟩
        walk_at "rd"
        intro pl0 hpl0
        have J2 := J1.same ((Same.refl H7).new (o := .lst []) hpl0)
        have p2 := upd_same (H := H7) (a := pl0) (o := .lst [])
        have npx : pl0 ≠ x := Ne.symm (ne_of_none J1.ob hpl0)
        have gpl0 : H pl0 = none := J1.k.none npx hpl0
        generalize upd H7 pl0 (.lst []) = H8 at J2 p2 ⊢
        have hx2 := J2.ob
        walk_at "rd"
        rw [show putF "pairs" (V.ref pl0) ([("text", .str z), ("lines", .ref ll), ("starts", .ref L.sd), ("bodies", .ref L.bd), ("marks", .ref L.ml)] : List (Str × V)) = liF ⟨x, dx, ll, L.sd, L.bd, L.ml, pl0⟩ z from rfl]
        have J3 := J2.set (fl' := liF ⟨x, dx, ll, L.sd, L.bd, L.ml, pl0⟩ z)
        have p3 := upd_oth (o := .ins a.Library dx (liF ⟨x, dx, ll, L.sd, L.bd, L.ml, pl0⟩ z)) npx p2
        generalize upd H8 x (.ins a.Library dx (liF ⟨x, dx, ll, L.sd, L.bd, L.ml, pl0⟩ z)) = H9 at J3 p3 ⊢
        exact ⟨(), pl0, rfl, J3, p3, gpl0⟩
        rintro σ' H9 ⟨_, pl0, rfl, J3, p3, gpl0⟩
        have hbd3 := J3.bd
        have lkb : ∀ pl, List.lookup ("bodies" : Str) (liF ⟨x, dx, ll, L.sd, L.bd, L.ml, pl⟩ z) = some (.ref L.bd) := fun _ => rfl
        refine ⟨L.bd, .dK (bdK fs ps), hbd3, True.intro, fun od => ?_⟩
        have lrw : (rowsOf z).length ≤ 100000 := by unfold rowsOf; rw [List.length_map]; exact tok.ll
        have lmk1 := B.lm
        have lmk2 := B.I.le
        obtain ⟨lok, fok⟩ := libOk (rowsOk tok.ln tok.ll) hrd tok.ws B.nn (by omega)
        have lpn := lok.len
        have nbx : L.bd ≠ x := nbd
        have npb : pl0 ≠ L.bd := fun e => by rw [e, hbd3] at p3; cases p3
        have e10 := upd_same (H := H9) (a := L.bd) (o := .frz od (.dK (bdK fs ps)))
        have x10 := upd_oth (o := .frz od (.dK (bdK fs ps))) (Ne.symm nbx) J3.ob
        have p10 := upd_oth (o := .frz od (.dK (bdK fs ps))) npb p3
        have tk10 : TupK H9 (upd H9 L.bd (.frz od (.dK (bdK fs ps)))) := (LK.dk (m := L.ml) hbd3).1
        have bs10 := J3.bs.imp fun _ _ r => BodyAt.tup tk10 r
        have fin10 : ∀ F, Kp (fun b => b = x) (upd H9 L.bd (.frz od (.dK (bdK fs ps)))) F → Kp (fun b => b = x) H9 (upd F L.bd (.dK (bdK fs ps))) := fun F k => k.unlock hbd3
        have fr10 : ∀ b, (upd H9 L.bd (.frz od (.dK (bdK fs ps)))) b = none → H9 b = none := fun b h => by
          cases e : H9 b with
          | none => rfl
          | some o =>
            by_cases q : b = L.bd
            · rw [q, upd_same] at h; cases h
            · rw [upd_oth q e] at h; cases h
        generalize upd H9 L.bd (.frz od (.dK (bdK fs ps))) = H10 at e10 x10 p10 tk10 bs10 fin10 fr10 ⊢
        have lbs := bs10.len
        have lK : (bdK fs ps).length = fs.length := by unfold bdK; rw [List.length_map, List.length_zip, lbs]; omega
        have keyAt : ∀ i k v, (bdK fs ps)[i]? = some (k, v) → ∃ f : Fun, fs[i]? = some f ∧ k = Sum.inr f.name := fun i k v e => by
          have e := congrArg (Option.map Prod.fst) e
          rw [← List.getElem?_map, bdK_keys lbs, List.map_map, List.getElem?_map] at e
          cases q : fs[i]? with
          | none => rw [q] at e; cases e
          | some f => rw [q] at e; cases e; exact ⟨f, q, rfl⟩
        have lk1 := lkb pl0
        walk_at "rd"
        refine .inl ⟨_, e10, ?_⟩
        refine for_it walk_keys (fun i σ F => ∃ (_ : Unit) (pl : Addr) (ts : List Addr) (o4 : Option V), σ = [some (.ref x), some (.str z), some (.int (m : Int)), some (.ref L.x), o4] ∧ Kp (fun b => b = x) H10 F ∧ F x = some (.ins a.Library dx (liF ⟨x, dx, ll, L.sd, L.bd, L.ml, pl⟩ z)) ∧ F pl = some (.lst (ts.map V.ref)) ∧ A2 (PairAt F) ts (pairsF (fs.take i)) ∧ H pl = none) ?_ ?_ ?_ ?_
        · exact ⟨(), pl0, [], none, rfl, Kp.refl, x10, p10, .nil, gpl0⟩
        · rintro i σ F _ ⟨_, pl, ts, o4, rfl, kF, _⟩
          exact kF _ _ e10 nbx
        · rintro i y σ F F' li ⟨_, pl, ts, o4, rfl, kF, xF, pF, A, _⟩ ⟨rfl, kk, v, hki, rfl⟩
          rw [lK] at li
          obtain ⟨f, hfi, rfl⟩ := keyAt _ _ _ hki
          have fm : f ∈ fs := List.mem_of_getElem? hfi
          have tkF : TupK H10 F' := fun b l e => kF _ _ e fun q => by rw [q, x10] at e; cases e
          have bsF := bs10.imp fun _ _ r => BodyAt.tup tkF r
          obtain ⟨p, us, v1, hp, hbat⟩ := bdK_get bsF (x := f.name) (List.mem_map_of_mem fm)
          rw [bodyOf_at B.nn fm] at hbat
          have gb : DGet F' L.bd (.str f.name) (some (.ref p)) := by
            have := DGet.r (k := Sum.inr f.name) (.inr ⟨od, kF _ _ e10 nbx⟩ : Rd F' L.bd (.dK (bdK fs ps)))
            rw [v1] at this
            exact this
          rw [show kV (Sum.inr f.name) = V.str f.name from rfl]
          have lk2 := lkb pl
          have lk3 : List.lookup ("pairs" : Str) (liF ⟨x, dx, ll, L.sd, L.bd, L.ml, pl⟩ z) = some (.ref pl) := rfl
          walk_at "rd"
          obtain ⟨g1, g2, g3⟩ := (lok.lb.gb f fm).ls false
          refine ⟨(), f.body, false, p, us, rfl, hp, hbat, g1, g2, g3, fun H11 l ts2 s11 hl nl A2_ => ?_⟩
          have lts := A.len
          have lts2 := A2_.len
          have sum := pairsF_take hfi
          have ple := congrArg List.length sum
          rw [List.length_append] at ple
          have ple2 := pairsF_le fs (i + 1)
          have p11 := s11 _ _ pF
          have x11 := s11 _ _ xF
          have npl : pl ≠ x := fun e => by rw [e, xF] at pF; cases pF
          walk_at "rd"
          refine ⟨by rw [List.length_map, List.length_map, sizeLine_eq]; omega, fun q hq => ?_⟩
          have xq := upd_old (o := .lst (ts.map V.ref ++ ts2.map V.ref)) x11 hq
          have bq := upd_old (o := .lst (ts.map V.ref ++ ts2.map V.ref)) (s11 _ _ (kF _ _ e10 nbx)) hq
          have qq := upd_same (H := H11) (a := q) (o := .lst (ts.map V.ref ++ ts2.map V.ref))
          have nqx : q ≠ x := Ne.symm (ne_of_none x11 hq)
          have gq : H q = none := J3.k.none nqx (fr10 q (kF.none nqx (new_none s11 hq)))
          have s12 : Same F' (upd H11 q (.lst (ts.map V.ref ++ ts2.map V.ref))) := s11.new hq
          have sA : Same H11 (upd H11 q (.lst (ts.map V.ref ++ ts2.map V.ref))) := (Same.refl _).new hq
          generalize upd H11 q (.lst (ts.map V.ref ++ ts2.map V.ref)) = H12 at xq bq qq s12 sA ⊢
          walk_at "rd"
          rw [show putF "pairs" (V.ref q) (liF ⟨x, dx, ll, L.sd, L.bd, L.ml, pl⟩ z) = liF ⟨x, dx, ll, L.sd, L.bd, L.ml, q⟩ z from rfl]
          have tk13 : TupK H12 (upd H12 x (.ins a.Library dx (liF ⟨x, dx, ll, L.sd, L.bd, L.ml, q⟩ z))) := (LK.ins (m := L.ml) xq).1
          refine ⟨(), q, ts ++ ts2, _, rfl, (kF.trans (Kp.of_same s12)).set1, upd_same, ?_, ?_, gq⟩
          · rw [upd_oth nqx qq, List.map_append]
          · rw [sum]
            exact (A.imp fun _ _ r => (r.tup (TupK.of_same s12)).tup tk13).app (A2_.imp fun _ _ r => (r.tup (TupK.of_same sA)).tup tk13)
        · rintro σ F ⟨_, pl, ts, o4, rfl, kF, xF, pF, A, gpl⟩
          rw [lK, List.take_length] at A
          refine ⟨kF _ _ e10 nbx, ?_⟩
          have kG := fin10 F kF
          have eF := kF _ _ e10 nbx
          have tkG : TupK F (upd F L.bd (.dK (bdK fs ps))) := fun b l e => upd_oth (fun q => by rw [q, eF] at e; cases e) e
          have tkA : TupK H10 (upd F L.bd (.dK (bdK fs ps))) := fun b l e => tkG _ _ (kF _ _ e fun q => by rw [q, x10] at e; cases e)
          have npx2 : pl ≠ L.bd := fun q => by rw [q, eF] at pF; cases pF
          have xG := upd_oth (o := .dK (bdK fs ps)) (Ne.symm nbx) xF
          have pG := upd_oth (o := .dK (bdK fs ps)) npx2 pF
          have bG := upd_same (H := F) (a := L.bd) (o := .dK (bdK fs ps))
          have AG := A.imp fun _ _ r => PairAt.tup tkG r
          have bsG := bs10.imp fun _ _ r => BodyAt.tup tkA r
          have nlb : ll ≠ x := nlx
          have liG := kG _ _ J3.li nlx
          have nsd2 : L.sd ≠ x := nsd
          have sdG := kG _ _ J3.sd nsd
          have mlG : ∃ ms : List Addr, (upd F L.bd (.dK (bdK fs ps))) L.ml = some (.lst (ms.map V.ref)) ∧ A2 (MkAt (upd F L.bd (.dK (bdK fs ps)))) ms mk := by
            obtain ⟨ms, m1, m2⟩ := J3.ml
            exact ⟨ms, kG _ _ m1 nml, m2.imp fun _ _ r => kG _ _ r fun q => by rw [q, J3.ob] at r; cases r⟩
          have kH := J3.k.trans kG
          generalize upd F L.bd (.dK (bdK fs ps)) = G at kG xG pG bG AG bsG liG sdG mlG kH ⊢
          have I : LibAt a G ⟨x, dx, ll, L.sd, L.bd, L.ml, pl⟩ z (linesOf z) fs mk := ⟨xG, liG, sdG, ⟨ps, bG, bsG⟩, mlG, ⟨ts, pG, AG⟩, lok⟩
          have lk1 : List.lookup ("stay_in_bounds" : Str) (liF ⟨x, dx, ll, L.sd, L.bd, L.ml, pl⟩ z) = none := rfl
          have lk2 : List.lookup ("come_to_an_end" : Str) (liF ⟨x, dx, ll, L.sd, L.bd, L.ml, pl⟩ z) = none := rfl
          have kb : ∀ {F}, Kp (fun b => b = L.bd) G F → Kp (fun b => b = x) H F := fun k => Kp.drop ((kH.mono fun b h => .inl h).trans (k.mono fun b h => .inr h)) gbd
          replace out : outL a x z H Q E (match boundV fs mk with | some w => LibR.many w | none => match endR fs with | .fine => LibR.ok fs mk | .loop x => LibR.loop x | .heavy => LibR.many "weight") := out
          cases hb : boundV fs mk with
          | some w1 =>
            rw [hb] at out
            walk_at "rd"
            refine ⟨(), ⟨x, dx, ll, L.sd, L.bd, L.ml, pl⟩, z, linesOf z, fs, mk, rfl, I, ?_⟩
            rw [hb]
            exact fun H' s => out H' (kH.trans (Kp.of_same s))
          | none =>
            rw [hb] at out
            have l12 : fs.length ≤ 12 := by
              unfold boundV at hb
              have := List.find?_eq_none.mp (Option.map_eq_none_iff.mp hb) ("functions", 12, fs.length) List.mem_cons_self
              simpa using this
            walk_at "rd"
            refine ⟨(), ⟨x, dx, ll, L.sd, L.bd, L.ml, pl⟩, z, linesOf z, fs, mk, rfl, I, ?_⟩
            rw [hb]
            intro G1 s1
            have I1 := I.same s1
            have x1 := I1.ob
            walk_at "rd"
            refine ⟨(), ⟨x, dx, ll, L.sd, L.bd, L.ml, pl⟩, z, linesOf z, fs, mk, rfl, I1, l12, ?_⟩
            cases he : endR fs with
            | fine =>
              rw [he] at out
              intro G2 s2
              exact out G2 _ (I1.same s2) rfl ⟨gll, gml, gpl⟩ (kH.trans (Kp.of_same (s1.trans s2)))
            | loop w1 =>
              rw [he] at out
              exact fun G2 k2 => out G2 (kb ((Kp.of_same s1).trans k2))
            | heavy =>
              rw [he] at out
              exact fun G2 k2 => out G2 (kb ((Kp.of_same s1).trans k2))
    · obtain ⟨ty, h1, h2⟩ := ht.isi (K := K)
      rw [hb] at h2
      refine ⟨_, rfl, _, _, _, _, _, rfl, ClsV.ty _, h1, h2, _, rfl, ?_⟩
      refine iteT ?_
      walk_at "rd"
      exact out _ Kp.refl
/-! ### the rows of a body, and what reading them gives -/
def isBk : Hd → Nat | .blk _ _ _ => 1 | _ => 0
def setN (c : Nat) : Hd → Hd
  | .blk _ m ks => .blk c m ks
  | h => h
def hdrs : Hd → List (List Str)
  | .sim w => [[w]]
  | .one k w => [[k, w]]
  | .blk _ m ks => [("block" : Str) :: m :: (if ks = [] then [] else ("keep" : Str) :: ks)]
  | .gua k => [[k]]
  | .tr ws fin => [("try" : Str)] :: (ws.map (fun w => ("except" : Str) :: w.getD []) ++ (if fin = true then [[("finally" : Str)]] else []))
def topR (n : Nat) : List (List Str) → List Row
  | [] => []
  | h :: _ => [some (n, h)]
mutual
def rowsS (n : Nat) : Stm → List Row
  | .mk h ps => rowsP n (hdrs h) ps
def rowsP (n : Nat) (hs : List (List Str)) : List (List Stm) → List Row
  | [] => hs.map fun h => some (n, h)
  | b :: ps => topR n hs ++ (rowsB (n + 1) b ++ rowsP n hs.tail ps)
def rowsB (n : Nat) : List Stm → List Row
  | [] => []
  | s :: r => rowsS n s ++ rowsB n r
end
mutual
def numS (c : Nat) : Stm → Stm
  | .mk h ps => .mk (setN c h) (numP (c + isBk h) ps)
def numP (c : Nat) : List (List Stm) → List (List Stm)
  | [] => []
  | b :: ps => numB c b :: numP (c + nbB b) ps
def numB (c : Nat) : List Stm → List Stm
  | [] => []
  | s :: r => numS c s :: numB (c + nbS s) r
def nbS : Stm → Nat
  | .mk h ps => isBk h + nbP ps
def nbP : List (List Stm) → Nat
  | [] => 0
  | b :: ps => nbB b + nbP ps
def nbB : List Stm → Nat
  | [] => 0
  | s :: r => nbS s + nbB r
end
mutual
def lnS : Stm → Nat
  | .mk _ ps => max 1 (lnP ps)
def lnP : List (List Stm) → Nat
  | [] => 0
  | b :: ps => 1 + lnB b + lnP ps
def lnB : List Stm → Nat
  | [] => 0
  | s :: r => lnS s + lnB r
end
def mkH (i : Nat) : Hd → List Mk
  | .blk _ m _ => [(i, m)]
  | _ => []
mutual
def mksS (i : Nat) : Stm → List Mk
  | .mk h ps => mkH i h ++ mksP i ps
def mksP (i : Nat) : List (List Stm) → List Mk
  | [] => []
  | b :: ps => mksB (i + 1) b ++ mksP (i + 1 + lnB b) ps
def mksB (i : Nat) : List Stm → List Mk
  | [] => []
  | s :: r => mksS i s ++ mksB (i + lnS s) r
end
structure TryW (ws : List (Option (List Str))) (fin : Bool) : Prop where
  ne : ws = [] → fin = true
  ba : ∀ i, ws[i]? = some none → i + 1 = ws.length
  wd : ∀ l, some l ∈ ws → l ≠ [] ∧ ∀ w ∈ l, IsWord w
/-- what stands at nesting n with k parts -/
def HdW (n : Nat) (k : Nat) : Hd → Prop
  | .sim w => w ∈ (["pass", "doom"] : List Str) ∧ k = 0
  | .one q w => q ∈ (["write", "raise", "call"] : List Str) ∧ IsWord w ∧ k = 0
  | .blk _ m ks => modeS m = true ∧ (∀ w ∈ ks, IsWord w) ∧ k = 1 ∧ n < 8
  | .gua q => q ∈ (["maybe", "repeat"] : List Str) ∧ k = 1 ∧ n < 8
  | .tr ws fin => TryW ws fin ∧ k = 1 + ws.length + fin.toNat ∧ n < 8
mutual
def wfS (n : Nat) : Stm → Prop
  | .mk h ps => HdW n ps.length h ∧ wfP (n + 1) ps
def wfP (n : Nat) : List (List Stm) → Prop
  | [] => True
  | b :: ps => (b ≠ [] ∧ wfB n b) ∧ wfP n ps
def wfB (n : Nat) : List Stm → Prop
  | [] => True
  | s :: r => wfS n s ∧ wfB n r
end
theorem nbS_mk (h : Hd) (ps : List (List Stm)) : nbS (.mk h ps) = isBk h + nbP ps := by rw [nbS]
theorem mksP_len : ∀ (ps : List (List Stm)), (∀ b ∈ ps, ∀ i, (mksB i b).length = nbB b) → ∀ i, (mksP i ps).length = nbP ps
  | [], _, i => by rw [mksP, nbP]; rfl
  | b :: r, h, i => by rw [mksP, nbP, List.length_append, h b List.mem_cons_self, mksP_len r fun b hb => h b (List.mem_cons_of_mem _ hb)]
theorem mkH_len (i : Nat) (h : Hd) : (mkH i h).length = isBk h := by cases h <;> rfl
mutual
theorem mksS_len : ∀ (s : Stm) (i : Nat), (mksS i s).length = nbS s
  | .mk h ps, i => by rw [mksS, nbS, List.length_append, mkH_len, mksP_ln ps]
theorem mksP_ln : ∀ (ps : List (List Stm)) (i : Nat), (mksP i ps).length = nbP ps
  | [], i => by rw [mksP, nbP]; rfl
  | b :: r, i => by rw [mksP, nbP, List.length_append, mksB_len b, mksP_ln r]
theorem mksB_len : ∀ (b : List Stm) (i : Nat), (mksB i b).length = nbB b
  | [], i => by rw [mksB, nbB]; rfl
  | s :: r, i => by rw [mksB, nbB, List.length_append, mksS_len s, mksB_len r]
end
theorem wordsAt_drop (rows : List Row) (n i : Nat) : wordsAt rows n i = wordsAt (rows.drop i) n 0 := by
  unfold wordsAt
  rw [List.getElem?_drop, Nat.add_zero]
theorem wordsAt_hd (n m : Nat) (ws : List Str) (r : List Row) : wordsAt (some (m, ws) :: r) n 0 = if m = n then ws else [] := rfl
theorem wordsAt_nil (n : Nat) : wordsAt [] n 0 = [] := rfl
/-- what follows a body of nesting n -/
def EndB (n : Nat) (rest : List Row) : Prop := ∀ m, n ≤ m → wordsAt rest m 0 = []
def EndS (n : Nat) (rest : List Row) : Prop := EndB (n + 1) rest ∧ (wordsAt rest n 0 = [] ∨ stops (wordsAt rest n 0) = false)
theorem EndB.s {n : Nat} {rest : List Row} (h : EndB n rest) : EndS n rest := ⟨fun m l => h m (by omega), .inl (h n (Nat.le_refl _))⟩
theorem EndB.hd {n m : Nat} {ws : List Str} {r : List Row} (h : m < n) : EndB n (some (m, ws) :: r) := fun k l => by rw [wordsAt_hd, if_neg (by omega)]
theorem EndB.nil {n : Nat} : EndB n [] := fun _ _ => rfl
theorem stops_hd {w : Str} {ws : List Str} (h : w ∉ (["except", "finally"] : List Str)) : stops (w :: ws) = false := decide_eq_false h
theorem EndS.hd {n : Nat} {w : Str} {ws : List Str} {r : List Row} (h : w ∉ (["except", "finally"] : List Str)) : EndS n (some (n, w :: ws) :: r) :=
  ⟨EndB.hd (Nat.lt_succ_self n), .inr (by rw [wordsAt_hd, if_pos rfl]; exact stops_hd h)⟩
theorem HdW.hdrs {n k : Nat} : ∀ {h : Hd}, HdW n k h → ∃ w ws r, hdrs h = (w :: ws) :: r ∧ w ∉ (["except", "finally"] : List Str)
  | .sim w, h => ⟨w, [], [], rfl, by rcases in2 h.1 with rfl | rfl <;> decide +kernel⟩
  | .one k w, h => ⟨k, [w], [], rfl, by rcases in3 h.1 with rfl | rfl | rfl <;> decide +kernel⟩
  | .blk _ m ks, h => ⟨"block", _, [], rfl, by decide +kernel⟩
  | .gua k, h => ⟨k, [], [], rfl, by rcases inG h.1 with rfl | rfl <;> decide +kernel⟩
  | .tr ws fin, h => ⟨"try", [], _, rfl, by decide +kernel⟩
theorem rowsS_hd {n : Nat} : ∀ {s : Stm}, wfS n s → ∃ w ws r, rowsS n s = some (n, w :: ws) :: r ∧ w ∉ (["except", "finally"] : List Str)
  | .mk h ps, hw => by
    rw [wfS] at hw
    obtain ⟨w, ws, r, e, nw⟩ := hw.1.hdrs
    cases ps with
    | nil => exact ⟨w, ws, _, by rw [rowsS, rowsP, e]; rfl, nw⟩
    | cons b ps => exact ⟨w, ws, _, by rw [rowsS, rowsP, e]; rfl, nw⟩
theorem drop_app {rows a b : List Row} {i : Nat} (h : rows.drop i = a ++ b) : rows.drop (i + a.length) = b := by
  rw [← List.drop_drop, h, List.drop_left]
theorem hdrs_one {n k : Nat} {h : Hd} (hw : HdW n k h) (hk : k = 0) : (hdrs h).length = 1 := by
  cases h with
  | sim w => rfl
  | one q w => rfl
  | blk => exact absurd hw.2.2.1 (by omega)
  | gua => exact absurd hw.2.1 (by omega)
  | tr => exact absurd hw.2.1 (by omega)
theorem hdrs_len {n k : Nat} {h : Hd} (hw : HdW n k h) (hk : k ≠ 0) : (hdrs h).length = k := by
  cases h with
  | sim w => exact absurd hw.2 hk
  | one q w => exact absurd hw.2.2 hk
  | blk => exact hw.2.2.1.symm
  | gua => exact hw.2.1.symm
  | tr ws fin =>
    have e := hw.2.1
    rw [e]
    cases fin <;> simp [hdrs] <;> omega
mutual
theorem rowsS_len (n m : Nat) : ∀ s : Stm, wfS n s → (rowsS m s).length = lnS s
  | .mk h [], hw => by
    rw [wfS] at hw
    rw [rowsS, rowsP, lnS, lnP, List.length_map, hdrs_one hw.1 rfl]; rfl
  | .mk h (b :: ps), hw => by
    rw [wfS] at hw
    have l := hdrs_len hw.1 (by simp)
    have := rowsP_len (n + 1) m (hdrs h) (b :: ps) hw.2 l
    rw [rowsS, lnS, this, lnP]; omega
theorem rowsP_len (n m : Nat) : ∀ (hs : List (List Str)) (ps : List (List Stm)), wfP n ps → hs.length = ps.length → (rowsP m hs ps).length = lnP ps
  | [], [], _, _ => by rw [rowsP, lnP]; rfl
  | h :: hs, [], _, e => by cases e
  | [], b :: ps, _, e => by cases e
  | h :: hs, b :: ps, hw, e => by
    rw [wfP] at hw
    rw [rowsP, lnP, topR, List.length_append, List.length_append, rowsB_len n (m + 1) b hw.1.2, List.tail_cons, rowsP_len n m hs ps hw.2 (by simpa using e)]
    simp; omega
theorem rowsB_len (n m : Nat) : ∀ b : List Stm, wfB n b → (rowsB m b).length = lnB b
  | [], _ => by rw [rowsB, lnB]; rfl
  | s :: r, hw => by
    rw [wfB] at hw
    rw [rowsB, lnB, List.length_append, rowsS_len n m s hw.1, rowsB_len n m r hw.2]
end
def Rds {α : Type} (f : Nat → Option α) (r : α) : Prop := ∃ K, ∀ k, K ≤ k → f k = some r
theorem Rds.succ {α : Type} {f : Nat → Option α} {r : α} (h : ∃ K, ∀ k, K ≤ k → f (k + 1) = some r) : Rds f r := by
  obtain ⟨K, h⟩ := h
  exact ⟨K + 1, fun k l => by cases k with | zero => omega | succ k => exact h k (by omega)⟩
section
variable {rows : List Row} {n i j : Nat} {mk mk1 : List Mk}
theorem Rds.two {α β : Type} {f : Nat → Option α} {g : Nat → Option β} {r : α} {q : β} (h1 : Rds f r) (h2 : Rds g q) {p : Nat → Prop} (h : ∀ k, f k = some r → g k = some q → p k) : ∃ K, ∀ k, K ≤ k → p k := by
  obtain ⟨K1, h1⟩ := h1
  obtain ⟨K2, h2⟩ := h2
  exact ⟨max K1 K2, fun k l => h k (h1 k (by omega)) (h2 k (by omega))⟩
theorem Rds.one {α : Type} {f : Nat → Option α} {r : α} (h1 : Rds f r) {p : Nat → Prop} (h : ∀ k, f k = some r → p k) : ∃ K, ∀ k, K ≤ k → p k := by
  obtain ⟨K1, h1⟩ := h1
  exact ⟨K1, fun k l => h k (h1 k l)⟩
theorem rS_sim {w : Str} (h : wordsAt rows n i = [w]) (hw : w ∈ (["pass", "doom"] : List Str)) : Rds (fun k => rdS rows k n i mk) (.ok (.mk (.sim w) []) (i + 1) mk) :=
  Rds.succ ⟨0, fun k _ => by
    show rdS rows (k + 1) n i mk = _
    rw [rdS, h, show fstW [w] = w from rfl, if_pos hw, if_pos (show [w].length = 1 from rfl)]⟩
theorem rS_one {q w : Str} (h : wordsAt rows n i = [q, w]) (hw : q ∈ (["write", "raise", "call"] : List Str)) : Rds (fun k => rdS rows k n i mk) (.ok (.mk (.one q w) []) (i + 1) mk) :=
  Rds.succ ⟨0, fun k _ => by
    show rdS rows (k + 1) n i mk = _
    rw [rdS, h, show fstW [q, w] = q from rfl, if_neg (by rcases in3 hw with rfl | rfl | rfl <;> decide +kernel), if_pos hw, if_pos (show [q, w].length = 2 from rfl)]
    rfl⟩
theorem rS_gua {q : Str} {b : List Stm} (h : wordsAt rows n i = [q]) (hw : q ∈ (["maybe", "repeat"] : List Str)) (hn : n < 8) (hb : Rds (fun k => rdB rows k (n + 1) (i + 1) mk) (.ok b j mk1)) : Rds (fun k => rdS rows k n i mk) (.ok (.mk (.gua q) [b]) j mk1) :=
  Rds.succ (hb.one fun k e => by
    show rdS rows (k + 1) n i mk = _
    have e : rdB rows k (n + 1) (i + 1) mk = _ := e
    rw [rdS, h, show fstW [q] = q from rfl, if_neg (by rcases inG hw with rfl | rfl <;> decide +kernel), if_neg (by rcases inG hw with rfl | rfl <;> decide +kernel), if_neg (by
      rintro (c | c)
      · revert c; rcases inG hw with rfl | rfl <;> decide +kernel
      · omega), if_neg (by rcases inG hw with rfl | rfl <;> decide +kernel), if_neg (by simp), if_neg (by rcases inG hw with rfl | rfl <;> decide +kernel), e])
theorem rS_try {s : Stm} (h : wordsAt rows n i = [("try" : Str)]) (hn : n < 8) (hb : Rds (fun k => rdT rows k n (i + 1) mk) (.ok s j mk1)) : Rds (fun k => rdS rows k n i mk) (.ok s j mk1) :=
  Rds.succ (hb.one fun k e => by
    show rdS rows (k + 1) n i mk = _
    have e : rdT rows k n (i + 1) mk = _ := e
    rw [rdS, h, show fstW [("try" : Str)] = ("try" : Str) from rfl, if_neg (by decide +kernel), if_neg (by decide +kernel), if_neg (by
      rintro (c | c)
      · revert c; decide +kernel
      · omega), if_neg (by decide +kernel), if_neg (by simp), if_pos rfl, e])
theorem rS_blk {m : Str} {ks : List Str} {b : List Stm} (h : wordsAt rows n i = (("block" : Str) :: m :: (if ks = [] then [] else ("keep" : Str) :: ks))) (hm : modeS m = true) (hn : n < 8) (hb : Rds (fun k => rdB rows k (n + 1) (i + 1) (mk ++ [(i, m)])) (.ok b j mk1)) : Rds (fun k => rdS rows k n i mk) (.ok (.mk (.blk mk.length m ks) [b]) j mk1) :=
  Rds.succ (hb.one fun k e => by
    show rdS rows (k + 1) n i mk = _
    have e : rdB rows k (n + 1) (i + 1) (mk ++ [(i, m)]) = _ := e
    have l1 : (wordsAt rows n i).length = if ks = [] then 2 else 3 + ks.length := by
      rw [h]
      split
      · rfl
      · show ks.length + 3 = _; omega
    have g1 : (wordsAt rows n i).getD 1 "" = m := by rw [h]; rfl
    have f0 : fstW (wordsAt rows n i) = ("block" : Str) := by rw [h]; rfl
    have d3 : (wordsAt rows n i).drop 3 = ks := by
      rw [h]
      split
      · rename_i c; rw [c]; rfl
      · rfl
    have kn : ks ≠ [] → 1 ≤ ks.length := fun c => by cases ks with | nil => exact absurd rfl c | cons => simp
    rw [rdS, f0, if_neg (by decide +kernel), if_neg (by decide +kernel), if_neg (by
      rintro (c | c)
      · revert c; decide +kernel
      · omega), if_pos rfl, g1, d3, l1, if_neg (by
        rintro (c | c | c)
        · split at c <;> omega
        · rw [hm] at c; cases c
        · split at c
          · omega
          · rename_i q; have := kn q; omega), if_neg (by
        rintro ⟨c1, c2⟩
        split at c1
        · omega
        · rename_i q
          refine c2 ?_
          rw [h, if_neg q]; rfl), e])
theorem rT_ok {b : List Stm} {r : Rs Stm} (hb : Rds (fun k => rdB rows k (n + 1) i mk) (.ok b j mk1)) (hh : Rds (fun k => rdH rows k n j mk1 b [] [] true) r) : Rds (fun k => rdT rows k n i mk) r :=
  Rds.succ (hb.two hh fun k e1 e2 => by
    show rdT rows (k + 1) n i mk = _
    have e1 : rdB rows k (n + 1) i mk = _ := e1
    have e2 : rdH rows k n j mk1 b [] [] true = _ := e2
    rw [rdT, e1]
    exact e2)
theorem rH_more {b c : List Stm} {hw : List (Option (List Str))} {hb : List (List Stm)} {l : List Str} {r : Rs Stm} (h : wordsAt rows n i = ("except" : Str) :: l) (hc : Rds (fun k => rdB rows k (n + 1) (i + 1) mk) (.ok c j mk1))
    (hr : Rds (fun k => rdH rows k n j mk1 b (hw ++ [if l = [] then none else some l]) (hb ++ [c]) (decide (l ≠ []))) r) : Rds (fun k => rdH rows k n i mk b hw hb true) r :=
  Rds.succ (hc.two hr fun k e1 e2 => by
    show rdH rows (k + 1) n i mk b hw hb true = _
    have e1 : rdB rows k (n + 1) (i + 1) mk = _ := e1
    have e2 : rdH rows k n j mk1 b (hw ++ [if l = [] then none else some l]) (hb ++ [c]) (decide (l ≠ [])) = _ := e2
    rw [rdH, h, if_pos ⟨rfl, rfl⟩, show List.drop 1 (("except" : Str) :: l) = l from rfl, e1]
    exact e2)
theorem rH_fin {b c : List Stm} {hw : List (Option (List Str))} {hb : List (List Stm)} {op : Bool} (h : wordsAt rows n i = [("finally" : Str)]) (hc : Rds (fun k => rdB rows k (n + 1) (i + 1) mk) (.ok c j mk1)) : Rds (fun k => rdH rows k n i mk b hw hb op) (.ok (.mk (.tr hw true) (b :: hb ++ [c])) j mk1) :=
  Rds.succ (hc.one fun k e1 => by
    show rdH rows (k + 1) n i mk b hw hb op = _
    have e1 : rdB rows k (n + 1) (i + 1) mk = _ := e1
    rw [rdH, h, if_neg (by
      rintro ⟨_, c⟩
      revert c; decide +kernel), if_pos rfl, e1])
theorem rH_end {b : List Stm} {hw : List (Option (List Str))} {hb : List (List Stm)} {op : Bool} (h : wordsAt rows n i = [] ∨ stops (wordsAt rows n i) = false) (hn : hw ≠ []) : Rds (fun k => rdH rows k n i mk b hw hb op) (.ok (.mk (.tr hw false) (b :: hb)) i mk) :=
  Rds.succ ⟨0, fun k _ => by
    show rdH rows (k + 1) n i mk b hw hb op = _
    have no : ∀ w ws, wordsAt rows n i = w :: ws → w ∉ (["except", "finally"] : List Str) := fun w ws e => by
      rcases h with h | h
      · rw [h] at e; cases e
      · rw [e] at h; exact of_decide_eq_false h
    rw [rdH, if_neg (by
      rintro ⟨_, c⟩
      cases e : wordsAt rows n i with
      | nil => rw [e] at c; cases c
      | cons w ws =>
        rw [e] at c
        have : w = "except" := by injection c
        exact no w ws e (by rw [this]; decide +kernel)), if_neg (fun c => no _ _ c (by decide +kernel)), if_neg hn]⟩
theorem rL_end {acc : List Stm} (h : wordsAt rows n i = [] ∨ stops (wordsAt rows n i) = true) (hn : acc ≠ []) : Rds (fun k => rdL rows k n i mk acc) (.ok acc i mk) :=
  Rds.succ ⟨0, fun k _ => by
    show rdL rows (k + 1) n i mk acc = _
    rw [rdL, if_pos (by
      rcases h with h | h
      · rw [h]; rfl
      · exact h), if_neg (by cases acc with | nil => exact absurd rfl hn | cons => simp)]⟩
theorem rL_more {acc : List Stm} {s : Stm} {r : Rs (List Stm)} (h : stops (wordsAt rows n i) = false) (hs : Rds (fun k => rdS rows k n i mk) (.ok s j mk1)) (hr : Rds (fun k => rdL rows k n j mk1 (acc ++ [s])) r) : Rds (fun k => rdL rows k n i mk acc) r :=
  Rds.succ (hs.two hr fun k e1 e2 => by
    show rdL rows (k + 1) n i mk acc = _
    have e1 : rdS rows k n i mk = _ := e1
    have e2 : rdL rows k n j mk1 (acc ++ [s]) = _ := e2
    rw [rdL, h, if_neg (by simp), e1]
    exact e2)
theorem rB_of {b : List Stm} (h : Rds (fun k => rdL rows k n i mk []) (.ok b j mk1)) : Rds (fun k => rdB rows k n i mk) (.ok b j mk1) :=
  Rds.succ (h.one fun k e => by
    show rdB rows (k + 1) n i mk = _
    rw [rdB]
    exact e)
theorem wat {ws : List Str} {r : List Row} (h : rows.drop i = some (n, ws) :: r) : wordsAt rows n i = ws := by rw [wordsAt_drop, h, wordsAt_hd, if_pos rfl]
theorem watE (h : EndS n (rows.drop i)) : wordsAt rows n i = [] ∨ stops (wordsAt rows n i) = false := by rw [wordsAt_drop]; exact h.2
theorem drop_s {r : Row} {t : List Row} (h : rows.drop i = r :: t) : rows.drop (i + 1) = t := by rw [← List.drop_drop, h]; rfl
end
theorem EndB.app {n : Nat} {rest : List Row} : ∀ {b : List Stm}, wfB n b → EndB n rest → EndS n (rowsB n b ++ rest)
  | [], _, h => h.s
  | s :: r, hw, h => by
    rw [wfB] at hw
    obtain ⟨w, ws, t, e, nw⟩ := rowsS_hd hw.1
    rw [rowsB, e]
    exact EndS.hd nw
mutual
theorem readS (rows : List Row) : ∀ (s : Stm) (n i : Nat) (mk : List Mk) (rest : List Row), wfS n s → rows.drop i = rowsS n s ++ rest → EndS n rest →
    Rds (fun k => rdS rows k n i mk) (.ok (numS mk.length s) (i + lnS s) (mk ++ mksS i s))
  | .mk (.sim w) [], n, i, mk, rest, hw, hd, _ => by
    rw [wfS] at hw
    rw [rowsS, rowsP] at hd
    rw [numS, numP, lnS, lnP, mksS, mksP]
    have := rS_sim (mk := mk) (wat hd) hw.1.1
    simpa [setN, mkH] using this
  | .mk (.one q w) [], n, i, mk, rest, hw, hd, _ => by
    rw [wfS] at hw
    rw [rowsS, rowsP] at hd
    rw [numS, numP, lnS, lnP, mksS, mksP]
    have := rS_one (mk := mk) (wat hd) hw.1.1
    simpa [setN, mkH] using this
  | .mk (.blk nb m ks) [b], n, i, mk, rest, hw, hd, he => by
    rw [wfS, wfP] at hw
    rw [rowsS, rowsP, rowsP] at hd
    simp only [hdrs, topR, List.tail_cons, List.map_nil, List.append_nil, List.singleton_append, List.cons_append] at hd
    have hd1 := drop_s hd
    have h0 := readB rows b (n + 1) (i + 1) (mk ++ [(i, m)]) [] rest hw.2.1.2 hd1 (he.1) (by simpa using hw.2.1.1)
    have := rS_blk (ks := ks) (mk := mk) (wat hd) hw.1.1 hw.1.2.2.2 (rB_of h0)
    rw [numS, numP, numP, lnS, lnP, lnP, mksS, mksP, mksP]
    simp only [List.nil_append, List.length_append, List.length_singleton, List.append_assoc] at this
    simp only [setN, mkH, isBk, List.append_nil, Nat.add_zero]
    rw [show max 1 (1 + lnB b) = 1 + lnB b by omega, ← Nat.add_assoc]
    exact this
  | .mk (.gua q) [b], n, i, mk, rest, hw, hd, he => by
    rw [wfS, wfP] at hw
    rw [rowsS, rowsP, rowsP] at hd
    simp only [hdrs, topR, List.tail_cons, List.map_nil, List.append_nil, List.singleton_append, List.cons_append] at hd
    have hd1 := drop_s hd
    have h0 := readB rows b (n + 1) (i + 1) mk [] rest hw.2.1.2 hd1 (he.1) (by simpa using hw.2.1.1)
    have := rS_gua (mk := mk) (wat hd) hw.1.1 hw.1.2.2 (rB_of h0)
    rw [numS, numP, numP, lnS, lnP, lnP, mksS, mksP, mksP]
    simp only [List.nil_append] at this
    simp only [setN, mkH, isBk, List.append_nil, Nat.add_zero, List.nil_append]
    rw [show max 1 (1 + lnB b) = 1 + lnB b by omega, ← Nat.add_assoc]
    exact this
  | .mk (.tr ws fin) (b :: ps), n, i, mk, rest, hw, hd, he => by
    rw [wfS, wfP] at hw
    obtain ⟨⟨tw, hk, hn⟩, hb, hp⟩ := hw
    rw [rowsS, rowsP] at hd
    simp only [hdrs, topR, List.tail_cons, List.singleton_append, List.cons_append, List.append_assoc] at hd
    have hd1 := drop_s hd
    have lk : ps.length = ws.length + fin.toNat := by simp only [List.length_cons] at hk; omega
    have l1 : (rowsB (n + 1) b).length = lnB b := rowsB_len (n + 1) (n + 1) b hb.2
    have hd2 := drop_app (a := rowsB (n + 1) b) hd1
    rw [l1] at hd2
    have e1 : EndB (n + 1) (rowsP n (ws.map (fun w => ("except" : Str) :: w.getD []) ++ (if fin = true then [[("finally" : Str)]] else [])) ps ++ rest) := by
      cases ws with
      | nil =>
        have := tw.ne rfl
        subst this
        cases ps with
        | nil => cases lk
        | cons c ps => rw [rowsP]; exact EndB.hd (Nat.lt_succ_self n)
      | cons w ws =>
        cases ps with
        | nil => simp at lk; omega
        | cons c ps => rw [rowsP]; exact EndB.hd (Nat.lt_succ_self n)
    have h0 := readB rows b (n + 1) (i + 1) mk [] _ hb.2 hd1 e1 (by simpa using hb.1)
    have hh := readP rows ps n (i + 1 + lnB b) (mk ++ mksB (i + 1) b) rest ws fin (numB mk.length b) [] [] true hp hd2 he lk tw.ba (fun l hl => (tw.wd l hl).1) (fun e => .inr (tw.ne e)) (fun _ => rfl)
    have := rS_try (mk := mk) (wat hd) hn (rT_ok (rB_of h0) hh)
    rw [numS, numP, lnS, lnP, mksS, mksP]
    simp only [List.nil_append, List.length_append, mksB_len, List.append_assoc, List.cons_append] at this
    simp only [setN, mkH, isBk, Nat.add_zero, List.nil_append]
    rw [show max 1 (1 + lnB b + lnP ps) = 1 + lnB b + lnP ps by omega, show i + (1 + lnB b + lnP ps) = i + 1 + lnB b + lnP ps by omega]
    exact this
  | .mk (.sim _) (_ :: _), _, _, _, _, hw, _, _ => by rw [wfS] at hw; cases hw.1.2
  | .mk (.one _ _) (_ :: _), _, _, _, _, hw, _, _ => by rw [wfS] at hw; cases hw.1.2.2
  | .mk (.blk _ _ _) [], _, _, _, _, hw, _, _ => by rw [wfS] at hw; cases hw.1.2.2.1
  | .mk (.blk _ _ _) (_ :: _ :: _), _, _, _, _, hw, _, _ => by rw [wfS] at hw; have := hw.1.2.2.1; simp at this
  | .mk (.gua _) [], _, _, _, _, hw, _, _ => by rw [wfS] at hw; cases hw.1.2.1
  | .mk (.gua _) (_ :: _ :: _), _, _, _, _, hw, _, _ => by rw [wfS] at hw; have := hw.1.2.1; simp at this
  | .mk (.tr _ _) [], _, _, _, _, hw, _, _ => by rw [wfS] at hw; have := hw.1.2.1; simp at this; omega
theorem readP (rows : List Row) : ∀ (ps : List (List Stm)) (n i : Nat) (mk : List Mk) (rest : List Row) (ws : List (Option (List Str))) (fin : Bool) (b : List Stm) (hw : List (Option (List Str))) (hb : List (List Stm)) (op : Bool),
    wfP (n + 1) ps → rows.drop i = rowsP n (ws.map (fun w => ("except" : Str) :: w.getD []) ++ (if fin = true then [[("finally" : Str)]] else [])) ps ++ rest → EndS n rest → ps.length = ws.length + fin.toNat →
    (∀ i, ws[i]? = some none → i + 1 = ws.length) → (∀ l, some l ∈ ws → l ≠ []) → (ws = [] → hw ≠ [] ∨ fin = true) → (ws ≠ [] → op = true) →
    Rds (fun k => rdH rows k n i mk b hw hb op) (.ok (.mk (.tr (hw ++ ws) fin) (b :: (hb ++ numP mk.length ps))) (i + lnP ps) (mk ++ mksP i ps))
  | [], n, i, mk, rest, ws, fin, b, hw, hb, op, _, hd, he, hl, _, _, hf, _ => by
    cases ws with
    | cons => simp only [List.length_nil, List.length_cons] at hl; omega
    | nil =>
    cases fin with
    | true => cases hl
    | false =>
      rw [rowsP] at hd
      have hd : rows.drop i = rest := hd
      rw [numP, lnP, mksP, List.append_nil, List.append_nil, List.append_nil, Nat.add_zero]
      exact rH_end (watE (hd ▸ he)) ((hf rfl).resolve_right (by simp))
  | c :: ps, n, i, mk, rest, ws, fin, b, hw, hb, op, hp, hd, he, hl, hba, hne, hf, hop => by
    rw [wfP] at hp
    rw [rowsP] at hd
    have lc : (rowsB (n + 1) c).length = lnB c := rowsB_len (n + 1) (n + 1) c hp.1.2
    cases ws with
    | nil =>
      cases fin with
      | false => simp at hl
      | true =>
      have : ps = [] := by
        cases ps with
        | nil => rfl
        | cons => simp at hl
      subst this
      rw [rowsP] at hd
      simp only [topR, List.map_nil, List.nil_append, if_true, List.tail_cons, List.append_nil, List.singleton_append, List.cons_append] at hd
      have h0 := readB rows c (n + 1) (i + 1) mk [] rest hp.1.2 (drop_s hd) he.1 (by simpa using hp.1.1)
      have := rH_fin (mk := mk) (b := b) (hw := hw) (hb := hb) (op := op) (wat hd) (rB_of h0)
      rw [numP, numP, lnP, lnP, mksP, mksP]
      simp only [List.nil_append, List.append_nil, Nat.add_zero] at this ⊢
      rw [← Nat.add_assoc]
      exact this
    | cons w ws =>
      have op1 := hop (by simp)
      subst op1
      simp only [topR, List.map_cons, List.cons_append, List.tail_cons, List.nil_append, List.append_assoc] at hd
      have hd1 := drop_s hd
      have hd2 := drop_app hd1
      rw [lc] at hd2
      have lk : ps.length = ws.length + fin.toNat := by simp only [List.length_cons] at hl; omega
      have e1 : EndB (n + 1) (rowsP n (ws.map (fun w => ("except" : Str) :: w.getD []) ++ (if fin = true then [[("finally" : Str)]] else [])) ps ++ rest) := by
        cases ps with
        | nil =>
          have : ws = [] := by
            cases ws with
            | nil => rfl
            | cons => simp at lk; omega
          subst this
          have : fin = false := by cases fin with | true => cases lk | false => rfl
          subst this
          rw [rowsP]
          exact he.1
        | cons d ps =>
          cases ws with
          | nil =>
            cases fin with
            | false => simp at lk
            | true => rw [rowsP]; exact EndB.hd (Nat.lt_succ_self n)
          | cons w' ws' => rw [rowsP]; exact EndB.hd (Nat.lt_succ_self n)
      have h0 := readB rows c (n + 1) (i + 1) mk [] _ hp.1.2 hd1 e1 (by simpa using hp.1.1)
      have hg : (if w.getD [] = [] then none else some (w.getD [])) = w := by
        cases w with
        | none => rfl
        | some l => exact if_neg (hne l List.mem_cons_self)
      have hh := readP rows ps n (i + 1 + lnB c) (mk ++ mksB (i + 1) c) rest ws fin b (hw ++ [w]) (hb ++ [numB mk.length c]) (decide (w.getD [] ≠ [])) hp.2 hd2 he lk (fun i h => by
          have := hba (i + 1) h
          simp only [List.length_cons] at this
          omega) (fun l h => hne l (List.mem_cons_of_mem _ h)) (fun _ => .inl (by simp)) (fun h => by
          cases w with
          | none => have := hba 0 rfl; simp only [List.length_cons] at this; exact absurd (List.length_eq_zero_iff.mp (by omega)) h
          | some l => exact decide_eq_true (hne l List.mem_cons_self))
      have := rH_more (mk := mk) (hw := hw) (hb := hb) (wat hd) (rB_of h0) (r := _) (by rw [hg]; exact hh)
      rw [numP, lnP, mksP]
      simp only [List.length_append, mksB_len, List.append_assoc, List.cons_append, List.nil_append] at this
      rw [show i + (1 + lnB c + lnP ps) = i + 1 + lnB c + lnP ps by omega]
      exact this
theorem readB (rows : List Row) : ∀ (b : List Stm) (n i : Nat) (mk : List Mk) (acc : List Stm) (rest : List Row), wfB n b → rows.drop i = rowsB n b ++ rest → EndB n rest → acc ++ b ≠ [] →
    Rds (fun k => rdL rows k n i mk acc) (.ok (acc ++ numB mk.length b) (i + lnB b) (mk ++ mksB i b))
  | [], n, i, mk, acc, rest, _, hd, he, hn => by
    rw [rowsB] at hd
    have hd : rows.drop i = rest := hd
    rw [numB, lnB, mksB, List.append_nil, List.append_nil, Nat.add_zero]
    exact rL_end (.inl (by rw [wordsAt_drop, hd]; exact he n (Nat.le_refl _))) (by simpa using hn)
  | s :: r, n, i, mk, acc, rest, hw, hd, he, hn => by
    rw [wfB] at hw
    rw [rowsB, List.append_assoc] at hd
    have ls := rowsS_len n n s hw.1
    have h0 := readS rows s n i mk _ hw.1 hd (he.app hw.2)
    have hd2 := drop_app hd
    rw [ls] at hd2
    have h1 := readB rows r n (i + lnS s) (mk ++ mksS i s) (acc ++ [numS mk.length s]) rest hw.2 hd2 he (by simp)
    obtain ⟨w, ws, t, e, nw⟩ := rowsS_hd hw.1
    have := rL_more (by
      rw [e] at hd
      rw [wat (ws := w :: ws) (by rw [hd]; rfl)]
      exact stops_hd nw) h0 h1
    rw [numB, lnB, mksB]
    simp only [List.length_append, mksS_len, List.append_assoc, List.cons_append, List.nil_append] at this
    rw [show i + (lnS s + lnB r) = i + lnS s + lnB r by omega]
    exact this
end
abbrev FT := Str × List Stm
def rowsF (gs : List FT) : List Row := (gs.map fun g => some (0, [("function" : Str), g.1]) :: rowsB 1 g.2).flatten
def funsF : Nat → Nat → List FT → List Fun
  | _, _, [] => []
  | i, c, g :: r => ⟨g.1, i, numB c g.2⟩ :: funsF (i + 1 + lnB g.2) (c + nbB g.2) r
def mksF : Nat → List FT → List Mk
  | _, [] => []
  | i, g :: r => mksB (i + 1) g.2 ++ mksF (i + 1 + lnB g.2) r
structure FTOk (g : FT) : Prop where
  nm : IsWord g.1
  ne : g.2 ≠ []
  wf : wfB 1 g.2
theorem readF (rows : List Row) : ∀ (gs : List FT) (i : Nat) (mk : List Mk) (fs : List Fun), (∀ g ∈ gs, FTOk g) → rows.drop i = rowsF gs → (gs.map (·.1)).Nodup → (∀ g ∈ gs, g.1 ∉ fs.map (·.name)) → i ≤ rows.length →
    Rds (fun k => rdAll rows k i mk fs) (.ok (fs ++ funsF i mk.length gs) rows.length (mk ++ mksF i gs))
  | [], i, mk, fs, _, hd, _, _, hi => by
    have : rows.length ≤ i := List.drop_eq_nil_iff.mp hd
    have e : i = rows.length := by omega
    rw [funsF, mksF, List.append_nil, List.append_nil]
    exact Rds.succ ⟨0, fun k _ => by
      show rdAll rows (k + 1) i mk fs = _
      rw [rdAll, if_neg (by omega), e]⟩
  | g :: r, i, mk, fs, ho, hd, hn, hf, hi => by
    have hd : rows.drop i = some (0, [("function" : Str), g.1]) :: (rowsB 1 g.2 ++ rowsF r) := hd
    have o := ho g List.mem_cons_self
    have hd1 := drop_s hd
    have hd2 := drop_app hd1
    rw [rowsB_len 1 1 g.2 o.wf] at hd2
    have he : EndB 1 (rowsF r) := by
      cases r with
      | nil => exact EndB.nil
      | cons h t => exact EndB.hd (Nat.zero_lt_succ 0)
    have h0 := readB rows g.2 1 (i + 1) mk [] _ o.wf hd1 he (by simpa using o.ne)
    have li : i < rows.length := by
      have : (rows.drop i).length ≠ 0 := by rw [hd]; simp
      rw [List.length_drop] at this; omega
    have ll : i + 1 + lnB g.2 ≤ rows.length := by
      have := congrArg List.length hd1
      rw [List.length_drop, List.length_append, rowsB_len 1 1 g.2 o.wf] at this
      omega
    rw [List.map_cons, List.nodup_cons] at hn
    have h1 := readF rows r (i + 1 + lnB g.2) (mk ++ mksB (i + 1) g.2) (fs ++ [⟨g.1, i, numB mk.length g.2⟩]) (fun g hg => ho g (List.mem_cons_of_mem _ hg)) hd2 hn.2 (fun h hh => by
      rw [List.map_append, List.mem_append]
      rintro (c | c)
      · exact hf h (List.mem_cons_of_mem _ hh) c
      · have c : h.1 = g.1 := List.mem_singleton.mp c
        exact hn.1 (Eq.mp (congrArg (fun q => q ∈ r.map (·.1)) c) (List.mem_map_of_mem (f := fun x : FT => x.1) hh))) ll
    have wa := wat hd
    refine Rds.succ ((rB_of h0).two h1 fun k e1 e2 => ?_)
    show rdAll rows (k + 1) i mk fs = _
    have e1 : rdB rows k 1 (i + 1) mk = _ := e1
    have e2 : rdAll rows k (i + 1 + lnB g.2) (mk ++ mksB (i + 1) g.2) (fs ++ [⟨g.1, i, numB mk.length g.2⟩]) = _ := e2
    rw [rdAll, if_pos li, wa, if_neg (by
      rintro (c | c | c)
      · exact c rfl
      · exact c rfl
      · exact hf g List.mem_cons_self c), e1]
    show rdAll rows k (i + 1 + lnB g.2) (mk ++ mksB (i + 1) g.2) (fs ++ [⟨g.1, i, [] ++ numB mk.length g.2⟩]) = _
    rw [List.nil_append, e2, funsF, mksF]
    simp only [List.length_append, mksB_len, List.append_assoc, List.cons_append, List.nil_append]
/-! ### texts: lines put together, and split again -/
def joinC (c : Nat) : List (List Nat) → List Nat
  | [] => []
  | [x] => x
  | x :: r => x ++ c :: joinC c r
def cps (z : Str) : List Nat := z.cps.toList
theorem cps_app (a b : Str) : cps (a ++ b) = cps a ++ cps b := by unfold cps; rw [Str.cps_append, Array.toList_append]
theorem cps_inj {a b : Str} (h : cps a = cps b) : a = b := Str.ext' (Array.toList_inj.mp h)
theorem cps_len (z : Str) : (cps z).length = z.length := len_toList z
theorem join_cps (c : Nat) : ∀ ls : List Str, cps (Str.join ⟨#[c]⟩ ls) = joinC c (ls.map cps)
  | [] => rfl
  | [x] => rfl
  | x :: y :: r => by
    show cps (x ++ ⟨#[c]⟩ ++ Str.join ⟨#[c]⟩ (y :: r)) = cps x ++ c :: joinC c ((y :: r).map cps)
    rw [cps_app, cps_app, join_cps c (y :: r), List.append_assoc]; rfl
theorem join_S (s : Str) (ls : List Str) : Txt.join s ls = Str.join s ls := StrLaws.glued_eq_join s ls
theorem free_cut {c : Nat} : ∀ {x y s t : List Nat}, c ∉ x → c ∉ y → x ++ s = y ++ t → (s = [] ∨ ∃ s', s = c :: s') → (t = [] ∨ ∃ t', t = c :: t') → x = y ∧ s = t
  | [], [], s, t, _, _, h, _, _ => ⟨rfl, h⟩
  | [], b :: y, s, t, _, hy, h, hs, _ => by
    rcases hs with rfl | ⟨s', rfl⟩
    · cases h
    · injection h with h1 h2
      exact absurd List.mem_cons_self (h1 ▸ hy)
  | a :: x, [], s, t, hx, _, h, _, ht => by
    rcases ht with rfl | ⟨t', rfl⟩
    · cases h
    · injection h with h1 h2
      exact absurd List.mem_cons_self (h1 ▸ hx)
  | a :: x, b :: y, s, t, hx, hy, h, hs, ht => by
    injection h with h1 h2
    obtain ⟨e1, e2⟩ := free_cut (fun h => hx (List.mem_cons_of_mem _ h)) (fun h => hy (List.mem_cons_of_mem _ h)) h2 hs ht
    exact ⟨by rw [h1, e1], e2⟩
theorem joinC_inj {c : Nat} : ∀ {xs ys : List (List Nat)}, xs ≠ [] → ys ≠ [] → (∀ x ∈ xs, c ∉ x) → (∀ y ∈ ys, c ∉ y) → joinC c xs = joinC c ys → xs = ys
  | [], _, h, _, _, _, _ => absurd rfl h
  | _ :: _, [], _, h, _, _, _ => absurd rfl h
  | [x], [y], _, _, _, _, h => by
    have h : x = y := h
    rw [h]
  | [x], y :: z :: r, _, _, hx, hy, h => by
    have h : x = y ++ c :: joinC c (z :: r) := h
    exact absurd (by rw [h]; simp) (hx x List.mem_cons_self)
  | y :: z :: r, [x], _, _, hx, hy, h => by
    have h : y ++ c :: joinC c (z :: r) = x := h
    exact absurd (by rw [← h]; simp) (hy x List.mem_cons_self)
  | x :: x' :: r, y :: y' :: q, _, _, hx, hy, h => by
    have h : x ++ c :: joinC c (x' :: r) = y ++ c :: joinC c (y' :: q) := h
    obtain ⟨e1, e2⟩ := free_cut (hx x List.mem_cons_self) (hy y List.mem_cons_self) h (.inr ⟨_, rfl⟩) (.inr ⟨_, rfl⟩)
    injection e2 with _ e2
    rw [e1, joinC_inj (List.cons_ne_nil _ _) (List.cons_ne_nil _ _) (fun z hz => hx z (List.mem_cons_of_mem _ hz)) (fun z hz => hy z (List.mem_cons_of_mem _ hz)) e2]
theorem split_of_join {c : Nat} {ls : List Str} (hn : ls ≠ []) (hf : ∀ l ∈ ls, c ∉ cps l) : Txt.split (Str.join ⟨#[c]⟩ ls) ⟨#[c]⟩ = ls := by
  have e := StrLaws.join_split (Str.join ⟨#[c]⟩ ls) ⟨#[c]⟩
  have f := StrLaws.split_free (Str.join ⟨#[c]⟩ ls) c
  have n := PyProof.Rows.split_pos (Str.join ⟨#[c]⟩ ls) ⟨#[c]⟩
  generalize Txt.split (Str.join ⟨#[c]⟩ ls) ⟨#[c]⟩ = ms at e f n
  have e2 := congrArg cps e
  rw [join_cps, join_cps] at e2
  have := joinC_inj (by
    intro h
    rw [List.map_eq_nil_iff.mp h] at n
    exact absurd n (by decide)) (by simpa using hn) (by
      intro x hx
      obtain ⟨l, hl, rfl⟩ := List.mem_map.mp hx
      exact f l hl) (by
      intro x hx
      obtain ⟨l, hl, rfl⟩ := List.mem_map.mp hx
      exact hf l hl) e2
  exact (List.map_inj_right fun a b h => cps_inj h).mp this
theorem sp_eq : (Str.ofString " ") = ⟨#[32]⟩ := by decide +kernel
theorem nl_eq : (Str.ofString "\n") = ⟨#[10]⟩ := by decide +kernel
def spc (n : Nat) : Str := ⟨(List.replicate n 32).toArray⟩
theorem spc_cps (n : Nat) : cps (spc n) = List.replicate n 32 := rfl
/-- a line: its nesting and its words -/
def lineS (n : Nat) (ws : List Str) : Str := spc (2 * n) ++ Str.join " " ws
theorem lineS_cps (n : Nat) (ws : List Str) : cps (lineS n ws) = List.replicate (2 * n) 32 ++ joinC 32 (ws.map cps) := by
  show cps (spc (2 * n) ++ Str.join (Str.ofString " ") ws) = _
  rw [cps_app, sp_eq, join_cps, spc_cps]
theorem drop_sp (n : Nat) (l : List Nat) (h : ∀ c, l.head? = some c → c ≠ 32) : ((List.replicate n 32 ++ l).takeWhile fun c => (#[32] : Array Nat).contains c).length = n := by
  have e : (fun c => (#[32] : Array Nat).contains c) = fun c => decide (c = 32) := by
    funext c
    simp
  rw [e]
  induction n with
  | zero =>
    rw [List.replicate_zero, List.nil_append]
    cases l with
    | nil => rfl
    | cons c r => rw [List.takeWhile_cons, decide_eq_false (h c rfl)]; rfl
  | succ n ih =>
    rw [List.replicate_succ, List.cons_append, List.takeWhile_cons, decide_eq_true rfl, if_pos rfl, List.length_cons, ih]
theorem lstrip_spc (n : Nat) (z : Str) (h : ∀ c, (cps z).head? = some c → c ≠ 32) : Txt.lstripChars (spc n ++ z) (Str.ofString " ") = z := by
  rw [sp_eq]
  unfold Txt.lstripChars
  rw [PyProof.Rows.stripBy_eq]
  refine cps_inj ?_
  have e : stripLo (#[32] : Array Nat).contains true (spc n ++ z) = n := by
    unfold stripLo
    rw [if_pos rfl, show (spc n ++ z).cps.toList = List.replicate n 32 ++ cps z by rw [← spc_cps, ← cps_app]; rfl]
    exact drop_sp n _ h
  show cps (Builtin.Str.strSub _ (stripLo (#[32] : Array Nat).contains true (spc n ++ z)) (stripHi (#[32] : Array Nat).contains false (spc n ++ z) (stripLo (#[32] : Array Nat).contains true (spc n ++ z)))) = cps z
  rw [e]
  unfold cps
  rw [StrLaws.strSub_toList]
  show ((cps (spc n ++ z)).drop n).take ((spc n ++ z).length - n) = cps z
  rw [cps_app, spc_cps, List.drop_left' (by simp)]
  refine List.take_of_length_le ?_
  rw [← cps_len, cps_app, spc_cps]
  simp
theorem word_head {w : Str} (h : IsWord w) : ∀ {r : List Nat} {c : Nat}, (cps w ++ r).head? = some c → c ≠ 32 := fun {r c} e => by
  have lo := h.lo
  unfold cps at e
  cases q : w.cps.toList with
  | nil => rw [q] at lo; exact absurd lo (by decide)
  | cons a t =>
    rw [q] at e
    cases e
    have := h.al c (by rw [q]; exact List.mem_cons_self)
    omega
theorem join_head {ws : List Str} (hw : ∀ w ∈ ws, IsWord w) : ∀ c, (cps (Str.join " " ws)).head? = some c → c ≠ 32 := by
  intro c
  show (cps (Str.join (Str.ofString " ") ws)).head? = some c → _
  rw [sp_eq, join_cps]
  match ws, hw with
  | [], _ => intro e; cases e
  | [x], hw => exact fun e => word_head (r := []) (hw x List.mem_cons_self) (by rw [List.append_nil]; exact e)
  | x :: y :: r, hw => exact fun e => word_head (hw x List.mem_cons_self) e
theorem word_no {w : Str} (h : IsWord w) {c : Nat} (hc : c < 97) : c ∉ cps w := fun m => by have := h.al c m; omega
theorem rowOf_line {n : Nat} {ws : List Str} (hn : ws ≠ []) (hw : ∀ w ∈ ws, IsWord w) : rowOf (lineS n ws) = some (n, ws) := by
  have e1 : bareS (lineS n ws) = Str.join " " ws := lstrip_spc _ _ (join_head hw)
  have e2 : wordsN (lineS n ws) = ws := by
    unfold wordsN
    rw [e1]
    show Txt.split (Str.join (Str.ofString " ") ws) (Str.ofString " ") = ws
    rw [sp_eq]
    exact split_of_join hn fun l hl => word_no (hw l hl) (by decide)
  have e3 : spacesN (lineS n ws) = 2 * n := by
    unfold spacesN
    rw [e1]
    unfold lineS
    rw [Str.length_append, show (spc (2 * n)).length = 2 * n by rw [← cps_len, spc_cps, List.length_replicate]]
    omega
  unfold rowOf
  rw [e2, e3, if_neg (by
    rintro (c | c)
    · omega
    · rw [List.all_eq_true.mpr fun w hx => (hw w hx).ok] at c; cases c), show 2 * n / 2 = n by omega]
structure RowG (r : Row) : Prop where
  ex : ∃ n ws, r = some (n, ws) ∧ n ≤ 8 ∧ ws ≠ [] ∧ ∀ w ∈ ws, IsWord w
def lineR : Row → Str
  | some (n, ws) => lineS n ws
  | none => ""
theorem RowG.of {r : Row} (h : RowG r) : rowOf (lineR r) = r := by
  obtain ⟨n, ws, rfl, h1, h2, h3⟩ := h.ex
  exact rowOf_line h2 h3
theorem joinC_mem {c x : Nat} : ∀ {ls : List (List Nat)}, x ∈ joinC c ls → x = c ∨ ∃ l ∈ ls, x ∈ l
  | [], h => nomatch h
  | [l], h => .inr ⟨l, List.mem_cons_self, h⟩
  | l :: m :: r, h => by
    have h : x ∈ l ++ c :: joinC c (m :: r) := h
    rcases List.mem_append.mp h with h | h
    · exact .inr ⟨l, List.mem_cons_self, h⟩
    · rcases List.mem_cons.mp h with h | h
      · exact .inl h
      · rcases joinC_mem h with h | ⟨q, h1, h2⟩
        · exact .inl h
        · exact .inr ⟨q, List.mem_cons_of_mem _ h1, h2⟩
theorem line_signs {n : Nat} {ws : List Str} (hw : ∀ w ∈ ws, IsWord w) : ∀ c ∈ cps (lineS n ws), c = 32 ∨ (97 ≤ c ∧ c ≤ 122) := by
  intro c hc
  rw [lineS_cps] at hc
  rcases List.mem_append.mp hc with h | h
  · exact .inl (List.eq_of_mem_replicate h)
  · rcases joinC_mem h with h | ⟨l, h1, h2⟩
    · exact .inl h
    · obtain ⟨w, h3, rfl⟩ := List.mem_map.mp h1
      exact .inr ((hw w h3).al c h2)
theorem RowG.no {r : Row} (h : RowG r) : 10 ∉ cps (lineR r) := by
  obtain ⟨n, ws, rfl, h1, h2, h3⟩ := h.ex
  intro c
  rcases line_signs h3 10 c with h | h <;> omega
theorem RowG.asc {r : Row} (h : RowG r) : asc (lineR r) := by
  obtain ⟨n, ws, rfl, h1, h2, h3⟩ := h.ex
  intro c hc
  rcases line_signs h3 c hc with h | h <;> omega
theorem joinC_len (c : Nat) : ∀ {ls : List (List Nat)}, ls ≠ [] → (joinC c ls).length + 1 = (ls.map fun l => l.length + 1).sum
  | [], h => absurd rfl h
  | [l], _ => by simp [joinC]
  | l :: m :: r, _ => by
    have := joinC_len c (ls := m :: r) (List.cons_ne_nil _ _)
    show (l ++ c :: joinC c (m :: r)).length + 1 = _
    rw [List.length_append, List.length_cons, List.map_cons, List.sum_cons]
    omega
/-- the text of rows -/
def textR (rows : List Row) : Str := Str.join "\n" (rows.map lineR)
theorem textR_lines {rows : List Row} (hn : rows ≠ []) (hg : ∀ r ∈ rows, RowG r) : linesOf (textR rows) = rows.map lineR := by
  show Txt.split (Str.join (Str.ofString "\n") _) (Str.ofString "\n") = _
  rw [nl_eq]
  refine split_of_join (by simpa using hn) fun l hl => ?_
  obtain ⟨r, hr, rfl⟩ := List.mem_map.mp hl
  exact (hg r hr).no
theorem textR_rows {rows : List Row} (hn : rows ≠ []) (hg : ∀ r ∈ rows, RowG r) : rowsOf (textR rows) = rows := by
  unfold rowsOf
  rw [textR_lines hn hg, List.map_map]
  refine (List.map_congr_left fun r hr => ?_).trans (List.map_id _)
  exact (hg r hr).of
theorem textR_len {rows : List Row} (hn : rows ≠ []) : (textR rows).length + 1 = (rows.map fun r => (lineR r).length + 1).sum := by
  show (Str.join (Str.ofString "\n") _).length + 1 = _
  rw [nl_eq, ← cps_len, join_cps, joinC_len 10 (by simpa using hn), List.map_map, List.map_map]
  refine congrArg List.sum (List.map_congr_left fun r _ => ?_)
  show (cps (lineR r)).length + 1 = _
  rw [cps_len]
theorem line_len {n : Nat} {ws : List Str} (hn : ws ≠ []) : (lineS n ws).length + 1 = 2 * n + (ws.map fun w => w.length + 1).sum := by
  rw [← cps_len, lineS_cps, List.length_append, List.length_replicate, Nat.add_assoc, joinC_len 32 (by simpa using hn), List.map_map]
  refine congrArg (2 * n + ·) (congrArg List.sum (List.map_congr_left fun r _ => ?_))
  show (cps r).length + 1 = _
  rw [cps_len]
theorem sum_two : ∀ {ws : List Str}, (∀ w ∈ ws, IsWord w) → 2 * ws.length ≤ (ws.map fun w => w.length + 1).sum
  | [], _ => Nat.zero_le _
  | w :: r, h => by
    have := sum_two fun x hx => h x (List.mem_cons_of_mem _ hx)
    have l := (h w List.mem_cons_self).lo
    rw [len_toList] at l
    rw [List.map_cons, List.sum_cons, List.length_cons]
    omega
theorem RowG.two {r : Row} (h : RowG r) : 2 * rowN r ≤ (lineR r).length + 1 := by
  obtain ⟨n, ws, rfl, h1, h2, h3⟩ := h.ex
  have := sum_two h3
  have e : (lineR (some (n, ws))).length + 1 = _ := line_len h2
  rw [e]
  show 2 * ws.length ≤ _
  omega
theorem sum_rows : ∀ {rows : List Row}, (∀ r ∈ rows, RowG r) → 2 * (rows.map rowN).sum ≤ (rows.map fun r => (lineR r).length + 1).sum
  | [], _ => Nat.zero_le _
  | r :: t, h => by
    have := sum_rows fun x hx => h x (List.mem_cons_of_mem _ hx)
    have l := (h r List.mem_cons_self).two
    rw [List.map_cons, List.sum_cons, List.map_cons, List.sum_cons]
    omega
theorem le_sum {x : Nat} : ∀ {l : List Nat}, x ∈ l → x ≤ l.sum
  | y :: r, h => by
    rw [List.sum_cons]
    rcases List.mem_cons.mp h with rfl | h
    · omega
    · have := le_sum h; omega
theorem textR_ok {rows : List Row} (hn : rows ≠ []) (hg : ∀ r ∈ rows, RowG r) (hl : (textR rows).length ≤ 7000) : TextOk (textR rows) := by
  have el := textR_len hn
  have each : ∀ r ∈ rows, (lineR r).length + 1 ≤ (rows.map fun r => (lineR r).length + 1).sum := fun r hr => le_sum (List.mem_map_of_mem (f := fun r => (lineR r).length + 1) hr)
  have cnt : rows.length ≤ (rows.map fun r => (lineR r).length + 1).sum := by
    clear el each hn hg hl
    induction rows with
    | nil => exact Nat.zero_le _
    | cons r t ih =>
      rw [List.map_cons, List.sum_cons, List.length_cons]
      omega
  refine ⟨fun l hl2 => ?_, ?_, ?_, ?_⟩
  · rw [textR_lines hn hg] at hl2
    obtain ⟨r, hr, rfl⟩ := List.mem_map.mp hl2
    have := each r hr
    have g := hg r hr
    obtain ⟨n, ws, rfl, h1, h2, h3⟩ := g.ex
    have e1 : bareS (lineS n ws) = Str.join " " ws := lstrip_spc _ _ (join_head h3)
    have e2 : wordsN (lineS n ws) = ws := by
      unfold wordsN
      rw [e1]
      show Txt.split (Str.join (Str.ofString " ") ws) (Str.ofString " ") = ws
      rw [sp_eq]
      exact split_of_join h2 fun l hl => word_no (h3 l hl) (by decide)
    have tw := g.two
    have tw : 2 * ws.length ≤ _ := tw
    show LineOk (lineS n ws)
    change (lineS n ws).length + 1 ≤ _ at this
    refine ⟨by omega, ?_, ?_, ?_⟩
    · rw [e1]; unfold lineS; rw [Str.length_append]; omega
    · rw [e2]; change 2 * ws.length ≤ (lineS n ws).length + 1 at tw; omega
    · intro w hw
      rw [e2] at hw
      have i := h3 w hw
      refine ⟨?_, word_asc i⟩
      have := i.hi
      rw [len_toList] at this
      omega
  · rw [textR_lines hn hg, List.length_map]; omega
  · rw [textR_rows hn hg]
    unfold rS
    rw [List.take_length]
    have := sum_rows hg
    omega
  · rw [sizeLine_eq]; omega
theorem textR_le {rows : List Row} {L : Nat} (hn : rows ≠ []) (h : ∀ r ∈ rows, (lineR r).length ≤ L) : (textR rows).length ≤ rows.length * (L + 1) := by
  have el := textR_len hn
  have : ∀ rs : List Row, (∀ r ∈ rs, (lineR r).length ≤ L) → (rs.map fun r => (lineR r).length + 1).sum ≤ rs.length * (L + 1) := by
    intro rs
    induction rs with
    | nil => intro _; simp
    | cons r t ih =>
      intro h
      have := ih fun x hx => h x (List.mem_cons_of_mem _ hx)
      have l := h r List.mem_cons_self
      rw [List.map_cons, List.sum_cons, List.length_cons, Nat.add_mul]
      omega
  have := this rows h
  omega
/-! ### facts of a library's functions, whatever their blocks are numbered -/
theorem word_lit {w : Str} (h : wordS w = true) : IsWord w := wordS_of h
theorem mode_word {m : Str} (h : modeS m = true) : IsWord m := by
  have h := of_decide_eq_true h
  simp only [List.mem_cons, List.not_mem_nil, or_false] at h
  rcases h with rfl | rfl | rfl | rfl | rfl | rfl | rfl | rfl <;> exact word_lit (by decide +kernel)
theorem two_word {w : Str} (h : w ∈ (["pass", "doom"] : List Str)) : IsWord w := by
  rcases in2 h with rfl | rfl <;> exact word_lit (by decide +kernel)
theorem three_word {w : Str} (h : w ∈ (["write", "raise", "call"] : List Str)) : IsWord w := by
  rcases in3 h with rfl | rfl | rfl <;> exact word_lit (by decide +kernel)
theorem gua_word {w : Str} (h : w ∈ (["maybe", "repeat"] : List Str)) : IsWord w := by
  rcases inG h with rfl | rfl <;> exact word_lit (by decide +kernel)
theorem wd_block : IsWord (Str.ofString "block") := word_lit (by decide +kernel)
theorem wd_keep : IsWord (Str.ofString "keep") := word_lit (by decide +kernel)
theorem wd_try : IsWord (Str.ofString "try") := word_lit (by decide +kernel)
theorem wd_except : IsWord (Str.ofString "except") := word_lit (by decide +kernel)
theorem wd_finally : IsWord (Str.ofString "finally") := word_lit (by decide +kernel)
theorem wd_function : IsWord (Str.ofString "function") := word_lit (by decide +kernel)
theorem hdrs_good {n k : Nat} : ∀ {h : Hd}, HdW n k h → ∀ x ∈ hdrs h, x ≠ [] ∧ ∀ w ∈ x, IsWord w
  | .sim w, h, x, hx => by
    rw [List.mem_singleton.mp hx]
    exact ⟨by simp, fun v hv => by rw [List.mem_singleton.mp hv]; exact two_word h.1⟩
  | .one q w, h, x, hx => by
    rw [List.mem_singleton.mp hx]
    refine ⟨by simp, fun v hv => ?_⟩
    rcases List.mem_cons.mp hv with rfl | hv
    · exact three_word h.1
    · rw [List.mem_singleton.mp hv]; exact h.2.1
  | .blk _ m ks, h, x, hx => by
    rw [List.mem_singleton.mp hx]
    refine ⟨by simp, fun v hv => ?_⟩
    rcases List.mem_cons.mp hv with rfl | hv
    · exact wd_block
    rcases List.mem_cons.mp hv with rfl | hv
    · exact mode_word h.1
    · split at hv
      · cases hv
      · rcases List.mem_cons.mp hv with rfl | hv
        · exact wd_keep
        · exact h.2.1 v hv
  | .gua q, h, x, hx => by
    rw [List.mem_singleton.mp hx]
    exact ⟨by simp, fun v hv => by rw [List.mem_singleton.mp hv]; exact gua_word h.1⟩
  | .tr ws fin, h, x, hx => by
    rcases List.mem_cons.mp hx with rfl | hx
    · exact ⟨by simp, fun v hv => by rw [List.mem_singleton.mp hv]; exact wd_try⟩
    rcases List.mem_append.mp hx with hx | hx
    · obtain ⟨o, ho, rfl⟩ := List.mem_map.mp hx
      refine ⟨by simp, fun v hv => ?_⟩
      rcases List.mem_cons.mp hv with rfl | hv
      · exact wd_except
      · cases o with
        | none => cases hv
        | some l => exact (h.1.wd l ho).2 v hv
    · split at hx
      · rw [List.mem_singleton.mp hx]
        exact ⟨by simp, fun v hv => by rw [List.mem_singleton.mp hv]; exact wd_finally⟩
      · cases hx
theorem HdW.deep {n k : Nat} : ∀ {h : Hd}, HdW n k h → k ≠ 0 → n < 8
  | .sim _, h, c => absurd h.2 c
  | .one _ _, h, c => absurd h.2.2 c
  | .blk _ _ _, h, _ => h.2.2.2
  | .gua _, h, _ => h.2.2
  | .tr _ _, h, _ => h.2.2
mutual
theorem rowsS_good : ∀ (s : Stm) (n : Nat), n ≤ 8 → wfS n s → ∀ r ∈ rowsS n s, RowG r
  | .mk h ps, n, hn, hw, r, hr => by
    rw [wfS] at hw
    rw [rowsS] at hr
    exact rowsP_good ps n (hdrs h) hn (fun c => hw.1.deep (by simpa using c)) (hdrs_good hw.1) hw.2 r hr
theorem rowsP_good : ∀ (ps : List (List Stm)) (n : Nat) (hs : List (List Str)), n ≤ 8 → (ps ≠ [] → n < 8) → (∀ x ∈ hs, x ≠ [] ∧ ∀ w ∈ x, IsWord w) → wfP (n + 1) ps → ∀ r ∈ rowsP n hs ps, RowG r
  | [], n, hs, hn, _, hh, _, r, hr => by
    rw [rowsP] at hr
    obtain ⟨x, hx, rfl⟩ := List.mem_map.mp hr
    exact ⟨n, x, rfl, hn, (hh x hx).1, (hh x hx).2⟩
  | b :: ps, n, hs, hn, hd, hh, hw, r, hr => by
    rw [wfP] at hw
    rw [rowsP] at hr
    have lt := hd (by simp)
    rcases List.mem_append.mp hr with hr | hr
    · cases hs with
      | nil => cases hr
      | cons x t =>
        rw [List.mem_singleton.mp hr]
        exact ⟨n, x, rfl, hn, (hh x List.mem_cons_self).1, (hh x List.mem_cons_self).2⟩
    rcases List.mem_append.mp hr with hr | hr
    · exact rowsB_good b (n + 1) (by omega) hw.1.2 r hr
    · exact rowsP_good ps n hs.tail hn (fun _ => lt) (fun x hx => hh x (List.mem_of_mem_tail hx)) hw.2 r hr
theorem rowsB_good : ∀ (b : List Stm) (n : Nat), n ≤ 8 → wfB n b → ∀ r ∈ rowsB n b, RowG r
  | [], n, _, _, r, hr => by rw [rowsB] at hr; cases hr
  | s :: t, n, hn, hw, r, hr => by
    rw [wfB] at hw
    rw [rowsB] at hr
    rcases List.mem_append.mp hr with hr | hr
    · exact rowsS_good s n hn hw.1 r hr
    · exact rowsB_good t n hn hw.2 r hr
end
theorem rowsF_good {gs : List FT} (h : ∀ g ∈ gs, FTOk g) : ∀ r ∈ rowsF gs, RowG r := by
  intro r hr
  obtain ⟨l, hl, hr⟩ := List.mem_flatten.mp hr
  obtain ⟨g, hg, rfl⟩ := List.mem_map.mp hl
  have o := h g hg
  rcases List.mem_cons.mp hr with rfl | hr
  · refine ⟨0, _, rfl, by omega, by simp, fun w hw => ?_⟩
    rcases List.mem_cons.mp hw with rfl | hw
    · exact wd_function
    · rw [List.mem_singleton.mp hw]; exact o.nm
  · exact rowsB_good g.2 1 (by omega) o.wf r hr
/-- the same statement, numbered -/
def NumS (x y : Stm) : Prop := ∃ c, x = numS c y
def NumP (x y : Stm × Bool) : Prop := NumS x.1 y.1 ∧ x.2 = y.2
theorem isG_setN (c : Nat) : ∀ h : Hd, isG (setN c h) = isG h
  | .sim _ | .one _ _ | .blk _ _ _ | .gua _ | .tr _ _ => rfl
mutual
theorem lsS_num (g : Bool) : ∀ (s : Stm) (c : Nat), A2 NumP (lsS g (numS c s)) (lsS g s)
  | .mk h ps, c => by
    rw [numS, lsS, lsS, isG_setN]
    exact .cons ⟨⟨c, by rw [numS]⟩, rfl⟩ (lsP_num (g || isG h) ps (c + isBk h))
theorem lsP_num (g : Bool) : ∀ (ps : List (List Stm)) (c : Nat), A2 NumP (lsP g (numP c ps)) (lsP g ps)
  | [], c => by rw [numP, lsP]; exact .nil
  | b :: r, c => by
    rw [numP, lsP, lsP]
    exact (lsB_num g b c).app (lsP_num g r _)
theorem lsB_num (g : Bool) : ∀ (b : List Stm) (c : Nat), A2 NumP (lsB g (numB c b)) (lsB g b)
  | [], c => by rw [numB, lsB]; exact .nil
  | s :: r, c => by
    rw [numB, lsB, lsB]
    exact (lsS_num g s c).app (lsB_num g r _)
end
theorem A2.map2 {α β γ δ : Type} {R : α → β → Prop} {S : γ → δ → Prop} {f : α → γ} {f' : β → δ} (h : ∀ x y, R x y → S (f x) (f' y)) : ∀ {xs : List α} {ys : List β}, A2 R xs ys → A2 S (xs.map f) (ys.map f')
  | _, _, .nil => .nil
  | _, _, .cons a r => .cons (h _ _ a) (A2.map2 h r)
theorem allB_num (b : List Stm) (c : Nat) : A2 NumS (allB (numB c b)) (allB b) := by
  rw [← lsB_fst false, ← lsB_fst false]
  exact A2.map2 (fun _ _ h => h.1) (lsB_num false b c)
theorem freeB_num (b : List Stm) (c : Nat) : A2 NumS (freeB (numB c b)) (freeB b) := by
  unfold freeB
  exact A2.map2 (fun _ _ h => h.1) (A2.filt (fun x y h => by rw [h.2]) (lsB_num false b c))
theorem A2.filterMap_eq {α β γ : Type} {R : α → β → Prop} {f : α → Option γ} {f' : β → Option γ} (h : ∀ x y, R x y → f x = f' y) : ∀ {xs : List α} {ys : List β}, A2 R xs ys → xs.filterMap f = ys.filterMap f'
  | _, _, .nil => rfl
  | _, _, .cons a r => by rw [List.filterMap_cons, List.filterMap_cons, h _ _ a, A2.filterMap_eq h r]
theorem A2.map_eq {α β γ : Type} {R : α → β → Prop} {f : α → γ} {f' : β → γ} (h : ∀ x y, R x y → f x = f' y) : ∀ {xs : List α} {ys : List β}, A2 R xs ys → xs.map f = ys.map f'
  | _, _, .nil => rfl
  | _, _, .cons a r => by rw [List.map_cons, List.map_cons, h _ _ a, A2.map_eq h r]
theorem numS_hd (c : Nat) (s : Stm) : (numS c s).hd = setN c s.hd := by
  cases s
  rw [numS]; rfl
theorem nameOf_num (k : Str) {x y : Stm} (h : NumS x y) : nameOf k x = nameOf k y := by
  obtain ⟨c, rfl⟩ := h
  unfold nameOf
  rw [numS_hd]
  cases y.hd <;> rfl
theorem wordsH_num {x y : Stm} (h : NumS x y) : wordsH x.hd = wordsH y.hd := by
  obtain ⟨c, rfl⟩ := h
  rw [numS_hd]
  cases y.hd <;> rfl
theorem callee_num (fs : List Fun) {x y : Stm} (h : NumS x y) : callee fs x = callee fs y := by
  obtain ⟨c, rfl⟩ := h
  unfold callee
  rw [numS_hd]
  cases y.hd <;> rfl
theorem callsB_num (fs : List Fun) (b : List Stm) (c : Nat) : callsB fs (numB c b) = callsB fs b := A2.filterMap_eq (fun _ _ h => callee_num fs h) (freeB_num b c)
theorem wtB_num (fs : List Fun) (n : Nat) (b : List Stm) (c : Nat) : wtB fs n (numB c b) = wtB fs n b := by
  unfold wtB
  exact congrArg List.sum (A2.map_eq (fun x y h => by rw [callee_num fs h]) (freeB_num b c))
theorem numS_ps (c : Nat) (s : Stm) : (numS c s).ps = numP (c + isBk s.hd) s.ps := by
  cases s
  rw [numS]; rfl
theorem heavyS_num (fs : List Fun) {x y : Stm} (h : NumS x y) : heavyS fs x = heavyS fs y := by
  obtain ⟨c, rfl⟩ := h
  unfold heavyS
  rw [numS_hd, isG_setN, numS_ps]
  cases y.ps with
  | nil => rw [numP]
  | cons b r => rw [numP]; simp only [wtB_num]
theorem funsF_names : ∀ (gs : List FT) (i c : Nat), namesF (funsF i c gs) = gs.map (·.1)
  | [], _, _ => by rw [funsF]; rfl
  | g :: r, i, c => by
    rw [funsF]
    show g.1 :: namesF (funsF _ _ r) = _
    rw [funsF_names r]; rfl
theorem funsF_len (gs : List FT) (i c : Nat) : (funsF i c gs).length = gs.length := by
  have := congrArg List.length (funsF_names gs i c)
  unfold namesF at this
  rwa [List.length_map, List.length_map] at this
def allT (gs : List FT) : List Stm := (gs.map fun g => allB g.2).flatten
theorem allF_num : ∀ (gs : List FT) (i c : Nat), A2 NumS (allF (funsF i c gs)) (allT gs)
  | [], _, _ => by rw [funsF]; exact .nil
  | g :: r, i, c => by
    rw [funsF, show ∀ f : Fun, ∀ t, f :: t = [f] ++ t from fun _ _ => rfl, allF_app, allF_one]
    exact (allB_num g.2 c).app (allF_num r _ _)
def recT (gs : List FT) : List Str := (allT gs).filterMap (nameOf "write")
def errT (gs : List FT) : List Str := (["doomed", "missing", "present", "refused", "waits"] : List Str) ++ ((allT gs).map fun s => wordsH s.hd).flatten
def unkT (gs : List FT) : List Str := ((allT gs).filterMap (nameOf "call")).filter fun w => !decide (w ∈ gs.map (·.1))
theorem recN_T (gs : List FT) (i c : Nat) : recN (funsF i c gs) = recT gs := A2.filterMap_eq (fun _ _ h => nameOf_num _ h) (allF_num gs i c)
theorem errN_T (gs : List FT) (i c : Nat) : errN (funsF i c gs) = errT gs := by
  unfold errN errT
  rw [A2.map_eq (fun _ _ h => wordsH_num h) (allF_num gs i c)]
theorem unkN_T (gs : List FT) (i c : Nat) : unkN (funsF i c gs) = unkT gs := by
  unfold unkN unkT
  rw [A2.filterMap_eq (fun _ _ h => nameOf_num _ h) (allF_num gs i c), funsF_names]
theorem pairsF_T (gs : List FT) (i c : Nat) : (pairsF (funsF i c gs)).length = (allT gs).length := by
  have := (allF_num gs i c).len
  rw [← this, ← pairsF_fst, List.length_map]
def bodyT (gs : List FT) (w : Str) : List Stm := ((gs.find? fun g => decide (g.1 = w)).map (·.2)).getD []
theorem bodyOf_T : ∀ (gs : List FT) (i c : Nat) (w : Str), ∃ c', bodyOf (funsF i c gs) w = numB c' (bodyT gs w)
  | [], _, _, w => ⟨0, by rw [funsF]; unfold bodyOf bodyT; rw [numB.eq_def]; rfl⟩
  | g :: r, i, c, w => by
    rw [funsF]
    by_cases e : g.1 = w
    · refine ⟨c, ?_⟩
      unfold bodyOf bodyT
      rw [List.find?_cons, List.find?_cons]
      dsimp only
      rw [decide_eq_true e]
      rfl
    · obtain ⟨c', h⟩ := bodyOf_T r (i + 1 + lnB g.2) (c + nbB g.2) w
      refine ⟨c', ?_⟩
      unfold bodyOf bodyT at *
      rw [List.find?_cons, List.find?_cons]
      dsimp only
      rw [decide_eq_false e]
      exact h
/-- callee, by names alone -/
def calleeN (ns : List Str) (s : Stm) : Option Str := match s.hd with
  | .one k w => if k = "call" ∧ w ∈ ns then some w else none
  | _ => none
theorem callee_T (gs : List FT) (i c : Nat) (s : Stm) : callee (funsF i c gs) s = calleeN (gs.map (·.1)) s := by
  unfold callee calleeN
  rw [funsF_names] <;> rfl
def callsN (ns : List Str) (b : List Stm) : List Str := (freeB b).filterMap (calleeN ns)
theorem callsB_T (gs : List FT) (i c : Nat) (b : List Stm) : callsB (funsF i c gs) b = callsN (gs.map (·.1)) b := by
  unfold callsB callsN
  exact congrArg (fun f => (freeB b).filterMap f) (funext fun s => callee_T gs i c s)
def callsT (gs : List FT) : Calls := gs.map fun g => (g.1, callsN (gs.map (·.1)) g.2)
theorem callsF_T (gs : List FT) (i c : Nat) : callsF (funsF i c gs) = callsT gs := by
  have : ∀ (fs : List Fun) (hs : List FT) (i c : Nat), (funsF i c hs).map (fun f => (f.name, callsB fs f.body)) = hs.map fun g => (g.1, callsB fs g.2) := by
    intro fs hs
    induction hs with
    | nil => intro i c; rw [funsF]; rfl
    | cons g r ih =>
      intro i c
      rw [funsF, List.map_cons, List.map_cons, ih, callsB_num]
  unfold callsF callsT
  rw [this]
  exact List.map_congr_left fun g _ => by rw [callsB_T]
theorem ok_law_draw (T : Txt K mg a d) : FnOk P w K mg base CX0 1 a.law_draw d.law_draw ["_law_pool_here", "_law_many"] spDraw := by
  refine T.law_draw.ok sc_law_draw (fun vs H Q E h => ?_) (fun cdv A outer s H vs Q E hr h => ?_)
  · obtain ⟨p, m, c, o, rfl, _⟩ := h
    rfl
  · obtain ⟨p, m, c, o, rfl, hp, ⟨x, y, n, rfl, hx, hy, hy2, hn, hn2⟩, hm, hm2, hc, k⟩ := h
    have hw : ∀ i : Int, CDivW i m := fun i => wide_div (b := 200) hm (by omega) (by decide) (by decide)
    have e1 : (b2 : Int) → 0 ≤ b2 → b2 < 2 ^ 62 → CPow (b2 + 48611 * (n + 1)) 3 := fun b2 h1 h2 => ⟨by decide, by decide, by omega⟩
    have e2 : (b2 : Int) → 0 ≤ b2 → b2 < 2 ^ 62 → CPow (b2 + 104729 * (n + 1)) 3 := fun b2 h1 h2 => ⟨by decide, by decide, by omega⟩
    have e3 : ∀ i j : Int, -1000000 < i → i < 1000000 → CMul i j := fun i j h1 h2 => .inl ⟨by omega, by omega⟩
    refine ⟨_, (pss_cons (ps_if (pt_cmpR op_gt (pe_ix ix_list (pv 0) pe_int (fun _ _ => rfl)) pe_int (nomark _)) (pss_cons (ps_set (i := 2) sc_law_draw.nd rfl (Or.inl rfl) (pe_op op_mod (pe_callTy call_int1 (by rfl) T.n_int (by decide +kernel) (pa_cons (pe_ix ix_list (pv 0) pe_int (fun _ _ => rfl)) pa_nil)) (pv 1)))
  (pss_cons (ps_asg (pe_op op_fdivW (pe_ix ix_list (pv 0) pe_int (fun _ _ => rfl)) (pv 1)) (pg_sub (pv 0) pe_int set_list))
  (pss_one (ps_ret (pv 2))))) pss_nil)
  (pss_cons (ps_set (i := 3) sc_law_draw.nd rfl (Or.inl rfl) (pe_op op_add (pe_ix ix_list (pv 0) pe_int (fun _ _ => rfl)) pe_int))
  (pss_cons (ps_asg (pv 3) (pg_sub (pv 0) pe_int set_list))
  (pss_cons (ps_set (i := 4) sc_law_draw.nd rfl (Or.inl rfl) (pe_op op_mod (pe_callTy call_int1 (by rfl) T.n_int (by decide +kernel) (pa_cons (pe_op op_add (pe_op op_pow (pe_op op_add (pe_ix ix_list (pv 0) pe_int (fun _ _ => rfl)) (pe_op op_mul pe_int (pv 3))) pe_int) (pe_op op_mul pe_int (pv 3))) pa_nil)) pe_int))
  (pss_cons (ps_set (i := 4) sc_law_draw.nd rfl (Or.inl rfl) (pe_op op_mod (pe_callTy call_int1 (by rfl) T.n_int (by decide +kernel) (pa_cons (pe_op op_pow (pe_op op_add (pv 4) (pe_op op_mul pe_int (pv 3))) pe_int) pa_nil)) pe_int))
  (pss_one (ps_ret (pe_op op_mod (pe_callTy call_int1 (by rfl) T.n_int (by decide +kernel) (pa_cons (pe_op op_fdivW (pv 4) pe_int) pa_nil)) (pv 1))))))))), ?_⟩
    dsimp only [cxOf]
    walk_at "rd"
    refine ite2 (fun c0 => ?_) (fun c0 => ?_)
    · have c1 : 0 < x := of_decide_eq_true c0
      walk_at "rd"
      refine And.intro (hw _) ?_
      walk_at "rd"
      refine k _ _ (Int.emod_nonneg _ (by omega)) (Int.emod_lt_of_pos _ hm) ⟨_, _, _, rfl, Int.ediv_nonneg (by omega) (by omega), hy, hy2, hn, by omega⟩
    · walk_at "rd"
      refine And.intro (e1 _ hy hy2) ?_
      walk_at "rd"
      refine And.intro (e2 _ (Int.emod_nonneg _ (by decide)) (Int.lt_trans (Int.emod_lt_of_pos _ (by decide)) (by decide))) ?_
      walk_at "rd"
      refine k _ _ (Int.emod_nonneg _ (by omega)) (Int.emod_lt_of_pos _ hm) ⟨_, _, _, rfl, hx, hy, hy2, by omega, by omega⟩
theorem ok_law_pool (T : Txt K mg a d) : FnOk P w K mg base CX0 1 a.law_pool d.law_pool ["_law_script", "_law_at"] (spPool K) := by
  refine T.law_pool.ok sc_law_pool (fun vs H Q E h => ?_) (fun cdv A outer s H vs Q E hr h => ?_)
  · obtain ⟨p, ns, i, rfl, _⟩ := h
    rfl
  · obtain ⟨p, ns, i, rfl, hS, hi, k⟩ := h
    have e3 : ∀ i j : Int, -1000000 < i → i < 1000000 → CMul i j := fun i j h1 h2 => .inl ⟨by omega, by omega⟩
    have e4 : ∀ i j : Int, -1000000 < j → j < 1000000 → CMul i j := fun i j h1 h2 => .inr ⟨by omega, by omega⟩
    refine ⟨_, (pss_cons (ps_set (i := 2) sc_law_pool.nd rfl (Or.inl rfl) (pe_ifExp (pt_cmpR op_lt (pv 1) (pe_callB call_len_seq (by rfl) T.n_len PySem.boot_len (pa_cons (pv 0) pa_nil)) (nomark _)) (pe_ix ix_list (pv 0) (pv 1) (fun _ _ => rfl)) pe_int))
  (pss_cons (ps_set (i := 3) sc_law_pool.nd rfl (Or.inl rfl) (pe_callB call_abs (by rfl) T.n_abs (by decide +kernel) (pa_cons (pv 2) pa_nil)))
  (pss_cons (ps_set (i := 4) sc_law_pool.nd rfl (Or.inl rfl) (pe_op op_mod (pe_callTy call_int1 (by rfl) T.n_int (by decide +kernel) (pa_cons (pe_op op_add (pe_op op_add (pe_op op_mul (pv 3) pe_int) (pe_op op_mul pe_int (pv 1))) (pe_callTy call_int1 (by rfl) T.n_int (by decide +kernel) (pa_cons (pe_cmpR op_lt (pv 2) pe_int (nomark _)) pa_nil))) pa_nil)) pe_int))
  (pss_one (ps_ret (pe_lst (pa_cons (pe_ifExp (pt_cmpR op_ge (pv 3) (pe_op op_pow pe_int pe_int) (nomark _)) (pv 3) pe_int) (pa_cons (pe_op op_add (pv 4) pe_int) (pa_cons pe_int pa_nil))))))))), ?_⟩
    dsimp only [cxOf]
    walk_at "rd"
    refine ite2 (fun c0 => ?_) (fun c0 => ?_)
    · have c1 : (i : Int) < ((ns.map V.int).length : Int) := of_decide_eq_true c0
      rw [List.length_map] at c1
      have c2 : i < ns.length := by omega
      have hz : (ns.map V.int)[i]? = some (.int ns[i]) := by
        rw [List.getElem?_map, List.getElem?_eq_getElem c2]; rfl
      walk_at "rd"
      refine And.intro (atI_nat hz) ?_
      walk_at "rd"
      refine ite2 (fun c2 => ?_) (fun c2 => ?_)
      all_goals
        walk_at "rd"
        intro q hq
        exact k q _ hq ⟨_, _, _, rfl, (by first | (split <;> omega) | decide), Int.add_nonneg (Int.emod_nonneg _ (by decide)) (by decide), Int.lt_trans (Int.add_lt_add_right (Int.emod_lt_of_pos _ (by decide)) _) (by decide), Int.le_refl 0, Int.le_refl 0⟩
    · walk_at "rd"
      intro q hq
      exact k q _ hq ⟨_, _, _, rfl, Int.le_refl 0, Int.add_nonneg (Int.emod_nonneg _ (by decide)) (by decide), Int.lt_trans (Int.add_lt_add_right (Int.emod_lt_of_pos _ (by decide)) _) (by decide), Int.le_refl 0, Int.le_refl 0⟩
theorem ok_law_word (T : Txt K mg a d) : FnOk P w K mg base CX0 2 a.law_word d.law_word ["_law_pool_here"] spWord := by
  have G_law_draw : FnOk P w K mg base CX0 1 a.law_draw d.law_draw ["_law_pool_here", "_law_many"] spDraw := ok_law_draw T
  refine T.law_word.ok sc_law_word (fun vs H Q E h => ?_) (fun cdv A outer s H vs Q E hr h => ?_)
  · obtain ⟨p, c, o, rfl, _⟩ := h
    rfl
  · obtain ⟨p, c, o, rfl, hp, hc, hb, k⟩ := h
    refine ⟨_, (pss_cons (ps_set (i := 1) sc_law_word.nd rfl (Or.inr rfl) pe_str)
  (pss_one (ps_ret (pe_join pe_str (pe_lc (own := [("_law_k", 2)]) (tt := tYes) rfl sc_law_word.nd (pi_range1 (by rfl) T.n_range (pa_cons (pe_op op_add pe_int (pe_call G_law_draw (hr.mono (by omega)) (by rfl) T.g_law_draw T.law_draw.kp T.b_law_draw .nil pass0 (pa_cons (pv 0) (pa_cons pe_int pa_nil)))) pa_nil)) (blkOk_by (own := [("_law_k", 2)]) (N := ["_law_pool_here", "_law_letters", "_law_k"]) (sc := defScope s_law_word) (by decide +kernel)) (fun _ _ _ _ _ => (pg_name (i := 2) sc_law_word.nd rfl (Or.inl rfl))) (fun _ _ _ _ _ => pts_nil) (fun _ _ _ _ _ => (pe_ix ix_str (pv 1) (pe_call G_law_draw (hr.mono (by omega)) (by rfl) T.g_law_draw T.law_draw.kp T.b_law_draw .nil pass0 (pa_cons (pv 0) (pa_cons pe_int pa_nil))) (fun _ _ => rfl)))))))), ?_⟩
    dsimp only [cxOf]
    walk_at "rd"
    intro r o1 r0 r1 h1
    walk_at "rd"
    intro D hD
    refine lc_letters (c := c + 1) hD upd_same h1 (by omega) (by omega) rfl rfl (by decide) (by decide) fun H' cs o2 e1 e2 e3 e4 e5 e6 => ?_
    refine ⟨_, _, cs.map chr1, rfl, rfl, Or.inl (SqL.of e6), ?_, ?_⟩
    · rw [sum_chr, e1]
      have : (Str.ofString "").length = 0 := by decide +kernel
      rw [this]; omega
    · rw [join_chr]
      refine k _ o2 _ ⟨?_, ?_, e2⟩ (e5.mono (by omega)) e4 (Kp.refl.set1.trans e3)
      · show 1 ≤ cs.length
        omega
      · show cs.length ≤ 8
        omega
/-! ### words that are all different -/
def stepD (S : List Str) (t : Nat) (w : Str) : Str := if w ∈ S then (if 7 < w.length then ⟨((cps w).drop 1 ++ [97 + t % 26]).toArray⟩ else w ++ "a") else w
def itD (S : List Str) : Nat → Str → Str
  | 0, w => w
  | t + 1, w => stepD S t (itD S t w)
theorem isW {w : Str} (h1 : 1 ≤ w.length) (h2 : w.length ≤ 8) (h3 : ∀ c ∈ cps w, 97 ≤ c ∧ c ≤ 122) : IsWord w := ⟨by rw [len_toList]; exact h1, by rw [len_toList]; exact h2, h3⟩
theorem IsWord.len {w : Str} (h : IsWord w) : 1 ≤ w.length ∧ w.length ≤ 8 := by
  have h1 := h.lo
  have h2 := h.hi
  rw [len_toList] at h1 h2
  exact ⟨h1, h2⟩
theorem a_cps : cps (Str.ofString "a") = [97] := by decide +kernel
theorem str_len (l : List Nat) : (⟨l.toArray⟩ : Str).length = l.length := by simp [Str.length]
theorem stepD_word {S : List Str} {t : Nat} {w : Str} (h : IsWord w) : IsWord (stepD S t w) := by
  obtain ⟨l1, l2⟩ := h.len
  unfold stepD
  split
  · split
    · refine isW ?_ ?_ fun c hc => ?_
      · rw [str_len, List.length_append]; simp
      · rw [str_len, List.length_append, List.length_drop, cps_len]; simp; omega
      · rcases List.mem_append.mp (show c ∈ (cps w).drop 1 ++ [97 + t % 26] from hc) with hc | hc
        · exact h.al c (List.mem_of_mem_drop hc)
        · rw [List.mem_singleton.mp hc]; omega
    · refine isW ?_ ?_ fun c hc => ?_
      · rw [Str.length_append]; omega
      · rw [Str.length_append, ← cps_len (Str.ofString "a"), a_cps]; simp; omega
      · rw [cps_app, a_cps] at hc
        rcases List.mem_append.mp hc with hc | hc
        · exact h.al c hc
        · rw [List.mem_singleton.mp hc]; omega
  · exact h
theorem itD_word {S : List Str} {w : Str} (h : IsWord w) : ∀ t, IsWord (itD S t w)
  | 0 => h
  | t + 1 => stepD_word (itD_word h t)
theorem itD_stay {S : List Str} {w : Str} {t : Nat} (h : itD S t w ∉ S) : ∀ k, itD S (t + k) w = itD S t w
  | 0 => rfl
  | k + 1 => by
    show stepD S (t + k) (itD S (t + k) w) = _
    rw [itD_stay h k]
    exact if_neg h
theorem itD_free {S : List Str} {w : Str} (hS : S.length ≤ 25) (hw : IsWord w) : itD S 40 w ∉ S := by
  intro h
  have al : ∀ t, t ≤ 40 → itD S t w ∈ S := fun t l => Classical.byContradiction fun z => by
    have := itD_stay z (40 - t)
    rw [show t + (40 - t) = 40 by omega] at this
    rw [this] at h
    exact z h
  have st : ∀ t, t < 40 → itD S (t + 1) w = if 7 < (itD S t w).length then ⟨((cps (itD S t w)).drop 1 ++ [97 + t % 26]).toArray⟩ else itD S t w ++ "a" := fun t l => if_pos (al t (by omega))
  have ln : ∀ t, t ≤ 40 → min 8 (1 + t) ≤ (itD S t w).length := by
    intro t
    induction t with
    | zero => intro _; have := hw.len; show min 8 1 ≤ w.length; omega
    | succ t ih =>
      intro l
      have ih := ih (by omega)
      rw [st t (by omega)]
      split
      · rename_i c
        rw [str_len, List.length_append, List.length_drop, cps_len]; simp; omega
      · rw [Str.length_append, ← cps_len (Str.ofString "a"), a_cps]; simp; omega
  have la : ∀ j, j < 26 → (cps (itD S (8 + j) w)).getLast? = some (97 + (7 + j) % 26) := fun j l => by
    rw [show 8 + j = (7 + j) + 1 by omega, st (7 + j) (by omega), if_pos (by have := ln (7 + j) (by omega); omega)]
    show ((cps (itD S (7 + j) w)).drop 1 ++ [97 + (7 + j) % 26]).getLast? = _
    rw [List.getLast?_append]; rfl
  have nd : ((List.range 26).map fun j => itD S (8 + j) w).Nodup := by
    refine List.pairwise_map.mpr (List.Pairwise.imp_of_mem (fun {x y} hx hy lt => ?_) List.pairwise_lt_range)
    intro e
    have h1 := la x (List.mem_range.mp hx)
    have h2 := la y (List.mem_range.mp hy)
    rw [e, h2] at h1
    have hx := List.mem_range.mp hx
    have hy := List.mem_range.mp hy
    have h1 := Option.some.inj h1
    omega
  have := nodup_le nd fun x hx => by
    obtain ⟨j, hj, rfl⟩ := List.mem_map.mp hx
    exact al _ (by have := List.mem_range.mp hj; omega)
  rw [List.length_map, List.length_range] at this
  omega
theorem stepD_cut {w : Str} (h : 7 < w.length) (t : Nat) : cutS w (some 1) none ++ ⟨#[97 + t % 26]⟩ = (⟨((cps w).drop 1 ++ [97 + t % 26]).toArray⟩ : Str) := by
  refine cps_inj ?_
  rw [cps_app]
  show (cutS w (some ((1 : Nat) : Int)) none).cps.toList ++ [97 + t % 26] = (cps w).drop 1 ++ [97 + t % 26]
  congr 1
  unfold cutS
  rw [HT.sIx_nat, HT.sIx_none]
  show ((cps w).drop (min 1 w.length)).take (w.length - min 1 w.length) = _
  rw [Nat.min_eq_left (by omega)]
  exact List.take_of_length_le (by rw [List.length_drop, cps_len]; omega)
theorem inStr (w : Str) (S : List Str) : inV (.str w) (S.map V.str) = decide (w ∈ S) := inV_strL
def spDiff : Sp := fun vs H Q _ => ∃ (p t : Addr) (m : Nat) (S : List Str) (c : Nat) (o : HO), vs = [.ref p, .int (m : Int), .ref t] ∧ H p = some o ∧ PoolO o c ∧ H t = some (.lst (S.map V.str)) ∧ m + S.length ≤ 25 ∧ c < 2 ^ 38 ∧
  ∀ H' l (xs : List Str) o', H l = none → H' l = some (.lst (xs.map V.str)) → xs.length = m → (∀ w ∈ xs, IsWord w) → xs.Nodup → (∀ w ∈ xs, w ∉ S) → PoolO o' (c + 9 * m) → H' p = some o' → Kp (fun b => b = p) H H' → Q (.ref l) H'
theorem PoolO.nostr {o : HO} {c : Nat} {S : List Str} (h : PoolO o c) : o ≠ .lst (S.map V.str) := by
  obtain ⟨x, y, z, rfl, _⟩ := h
  intro e
  injection e with e
  cases S with
  | nil => cases e
  | cons s r => cases e
theorem ok_law_different (T : Txt K mg a d) : FnOk P w K mg base CX0 3 a.law_different d.law_different ["_law_pool_here", "_law_many", "_law_taken"] spDiff := by
  have G_law_word : FnOk P w K mg base CX0 2 a.law_word d.law_word ["_law_pool_here"] spWord := ok_law_word T
  refine T.law_different.ok sc_law_different (fun vs H Q E h => ?_) (fun cdv A outer s H vs Q E hr h => ?_)
  · obtain ⟨p, t, m, S, c, o, rfl, _⟩ := h
    rfl
  · obtain ⟨p, t, m, S, c, o, rfl, hp, hc, ht, hm, hb, k⟩ := h
    have npt : t ≠ p := fun e => by
      rw [e, hp] at ht
      exact hc.nostr (Option.some.inj ht)
    refine ⟨_, (pss_cons (ps_set (i := 3) sc_law_different.nd rfl (Or.inl rfl) (pe_lst pa_nil))
  (pss_cons (ps_for PassesOwn.never rfl (pi_range1 (by rfl) T.n_range (pa_cons (pv 1) pa_nil)) (pg_name (i := 4) sc_law_different.nd rfl (Or.inl rfl))
  (pss_cons (ps_set (i := 5) sc_law_different.nd rfl (Or.inl rfl) (pe_call G_law_word (hr.mono (by omega)) (by rfl) T.g_law_word T.law_word.kp T.b_law_word .nil pass0 (pa_cons (pv 0) pa_nil)))
  (pss_cons (ps_for PassesOwn.never rfl (pi_range1 (by rfl) T.n_range (pa_cons pe_int pa_nil)) (pg_name (i := 6) sc_law_different.nd rfl (Or.inl rfl))
  (pss_one (ps_if (pt_cmpR op_in_seq (pv 5) (pe_op op_cat (pv 3) (pv 2)) (by rfl)) (pss_one (ps_set (i := 5) sc_law_different.nd rfl (Or.inl rfl) (pe_ifExp (pt_cmpR op_gt (pe_callB call_len_str (by rfl) T.n_len PySem.boot_len (pa_cons (pv 5) pa_nil)) pe_int (nomark _)) (pe_op op_add_str (pe_slice sl_str (pv 5) (po_some pe_int) po_none) (pe_ix ix_str pe_str (pe_op op_mod (pv 6) pe_int) (fun _ _ => rfl))) (pe_op op_add_str (pv 5) pe_str)))) pss_nil)))
  (pss_one (ps_expr (pe_bm PySem.F.plainAttrs_list PySem.F.slot_list_append PySem.F.type_list_append mt_append (pv 3) (pa_cons (pv 5) pa_nil)))))))
  (pss_one (ps_ret (pv 3))))), ?_⟩
    dsimp only [cxOf]
    walk_at "rd"
    intro D hD
    have npD : p ≠ D := ne_of_none hp hD
    have ntD : t ≠ D := ne_of_none ht hD
    have k0 : Kp (fun b => b = p) H (upd H D (.lst [])) := Kp.refl.new hD
    have p0 := upd_old (o := .lst []) hp hD
    have d0 := upd_same (H := H) (a := D) (o := .lst [])
    generalize upd H D (.lst []) = H0 at k0 p0 d0 ⊢
    walk_at "rd"
    refine for_range (fun i σ F => ∃ (_ : Unit) (xs : List Str) (o1 : HO) (v4 v5 v6 : Option V), σ = [some (.ref p), some (.int (m : Int)), some (.ref t), some (.ref D), v4, v5, v6] ∧ Kp (fun b => b = p) H F ∧ F p = some o1 ∧ PoolO o1 (c + 9 * i) ∧ F D = some (.lst (xs.map V.str)) ∧ xs.length = i ∧ (∀ w ∈ xs, IsWord w) ∧ xs.Nodup ∧ ∀ w ∈ xs, w ∉ S) ?_ ?_ ?_
    · exact ⟨(), [], o, none, none, none, rfl, k0, p0, hc, d0, rfl, (fun w h => nomatch h), List.nodup_nil, (fun w h => nomatch h)⟩
    · rintro i σ F hi ⟨_, xs, o1, v4, v5, v6, rfl, kF, pF, hc1, dF, lx, wx, nx, dx⟩
      walk_at "rd"
      intro w0 o2 F1 iw hc2 pF1 kF1
      have k1 := kF.trans kF1
      have d1 := kF1 _ _ dF (Ne.symm npD)
      have t1 := k1 _ _ ht npt
      have lS : (xs ++ S).length ≤ 25 := by rw [List.length_append]; omega
      walk_at "rd"
      refine for_range (fun j σ G => ∃ (_ : Unit) (v6 : Option V), σ = [some (.ref p), some (.int (m : Int)), some (.ref t), some (.ref D), some (.int (0 + (i : Int))), some (.str (itD (xs ++ S) j w0)), v6] ∧ Same F1 G) ?_ ?_ ?_
      · exact ⟨(), v6, rfl, Same.refl _⟩
      · rintro j σ G hj ⟨_, v6, rfl, s1⟩
        have dG := s1 _ _ d1
        have tG := s1 _ _ t1
        have iwj := itD_word (S := xs ++ S) iw j
        obtain ⟨l1, l2⟩ := iwj.len
        have hl8 : (itD (xs ++ S) j w0).length ≤ sizeLine := by rw [sizeLine_eq]; omega
        walk_at "rd"
        refine ⟨by rw [List.length_map, List.length_map, sizeLine_eq]; omega, fun q hq => ?_⟩
        have s2 := s1.new (o := .lst (xs.map V.str ++ S.map V.str)) hq
        have eq := upd_same (H := G) (a := q) (o := .lst (xs.map V.str ++ S.map V.str))
        generalize upd G q (.lst (xs.map V.str ++ S.map V.str)) = G2 at s2 eq ⊢
        rw [← List.map_append] at eq
        refine ⟨q, _, rfl, .inl (SqL.of eq), rfl, flat_strs, _, rfl, ?_⟩
        rw [show (if false = true then !inV (V.str (itD (xs ++ S) j w0)) ((xs ++ S).map V.str) else inV (V.str (itD (xs ++ S) j w0)) ((xs ++ S).map V.str)) = decide (itD (xs ++ S) j w0 ∈ xs ++ S) from inStr _ _]
        refine ite2 (fun cm => ?_) (fun cm => ?_)
        · have cm := of_decide_eq_true cm
          walk_at "rd"
          refine ite2 (fun c7 => ?_) (fun c7 => ?_)
          · have c7 : 7 < (itD (xs ++ S) j w0).length := by have := of_decide_eq_true c7; omega
            have ej : ((0 + (j : Int)) % 26).toNat = j % 26 := by omega
            have ha : atI (Str.ofString "abcdefghijklmnopqrstuvwxyz").cps.toList ((0 + (j : Int)) % 26) = some (97 + ((0 + (j : Int)) % 26).toNat) := alpha_at (by omega) (by omega)
            have hal : (Str.ofString "abcdefghijklmnopqrstuvwxyz").length ≤ sizeLine := alpha_len
            have est := stepD_cut c7 j
            have hcl : (cutS (itD (xs ++ S) j w0) (some 1) none).length + (⟨#[97 + ((0 + (j : Int)) % 26).toNat]⟩ : Str).length ≤ sizeLine := by
              rw [ej, ← Str.length_append, est, str_len, List.length_append, List.length_drop, cps_len, sizeLine_eq]; simp; omega
            walk_at "rd"
            refine ⟨(), some (.int (0 + (j : Int))), ?_, s2⟩
            rw [ej, est]
            rw [show itD (xs ++ S) (j + 1) w0 = ⟨((cps (itD (xs ++ S) j w0)).drop 1 ++ [97 + j % 26]).toArray⟩ from (if_pos cm).trans (if_pos c7)]
            rfl
          · have c7 : ¬ 7 < (itD (xs ++ S) j w0).length := fun z => c7 (decide_eq_true (by omega))
            have ha1 : (itD (xs ++ S) j w0).length + (Str.ofString "a").length ≤ sizeLine := by rw [sizeLine_eq, show (Str.ofString "a").length = 1 by decide +kernel]; omega
            walk_at "rd"
            refine ⟨(), some (.int (0 + (j : Int))), ?_, s2⟩
            rw [show itD (xs ++ S) (j + 1) w0 = itD (xs ++ S) j w0 ++ Str.ofString "a" from (if_pos cm).trans (if_neg c7)]
            rfl
        · have cm : itD (xs ++ S) j w0 ∉ xs ++ S := fun z => cm (decide_eq_true z)
          exact ⟨(), _, by rw [show itD (xs ++ S) (j + 1) w0 = itD (xs ++ S) j w0 from if_neg cm]; rfl, s2⟩
      · rintro σ G ⟨_, v6, rfl, s1⟩
        have dG := s1 _ _ d1
        have fr := itD_free (w := w0) lS iw
        have iwj := itD_word (S := xs ++ S) iw 40
        have lxs : (xs.map V.str).length < sizeLine := by rw [List.length_map, sizeLine_eq]; omega
        walk_at "rd"
        refine ⟨(), xs ++ [itD (xs ++ S) 40 w0], o2, _, _, _, rfl, (k1.trans (Kp.of_same s1)).fresh hD, upd_oth npD (s1 _ _ pF1), hc2.mono (by omega), ?_, by rw [List.length_append, lx]; rfl, ?_, ?_, ?_⟩
        · rw [upd_same, List.map_append]; rfl
        · intro z hz
          rcases List.mem_append.mp hz with hz | hz
          · exact wx z hz
          · rw [List.mem_singleton.mp hz]; exact iwj
        · refine List.nodup_append.mpr ⟨nx, by simp, fun x hx y hy => ?_⟩
          rw [List.mem_singleton.mp hy]
          intro e
          exact fr (e ▸ List.mem_append_left _ hx)
        · intro z hz
          rcases List.mem_append.mp hz with hz | hz
          · exact dx z hz
          · rw [List.mem_singleton.mp hz]; exact fun q => fr (List.mem_append_right _ q)
    · rintro σ F ⟨_, xs, o1, v4, v5, v6, rfl, kF, pF, hc1, dF, lx, wx, nx, dx⟩
      walk_at "rd"
      exact k F D xs o1 hD dF lx wx nx dx hc1 pF kF
/-! ### rules within a try: the text's K by name -/
section
open PySem PySem.Spec PyProof.Rows
variable {X : Cx} {K : PySem.W.Frag}
def rJoinK (K : PySem.W.Frag) : V → List V → Hp → VK → Prop := fun x xs H Q => ∃ a p, ∃ ys : List Str, x = .str a ∧ xs = [.ref p] ∧ (SqL K H p (ys.map V.str) ∨ SqT K H p (ys.map V.str)) ∧ (ys.map (·.length)).sum + ys.length * a.length ≤ 16777216 ∧ Q (.str (Txt.join a ys)) H
theorem pe_joinK {apos pos : Pos} {o e : Expr} {to te : TE} (hK : X.K = K) (ho : PE X o to) (he : PE X e te) (hs : starEach [e] X.env = [(false, eval e X.env)] := by rfl) (hbase : attributeBase o "join" X.env (eval o X.env) = eval o X.env := by rfl) (hline : (apos.endLine == pos.line) = true := by rfl) :
    PE X (.Call (.Attribute o "join" apos) [e] [] pos) (tM1 (rJoinK K) to te) := by
  subst hK
  exact pe_join ho he hs hbase hline
theorem cr_sortLSK (hK : X.K = K) : CallR X (.builtin "sorted") (fun vs H Q => ∃ (a : Addr) (xs : List Str), vs = [V.ref a] ∧ SqL K H a (xs.map V.str) ∧ ∀ p, H p = none → Q (.ref p) (upd H p (.lst ((sortT xs).map V.str)))) := hK ▸ cr_sortLS
end
/-! ### library laws: what is common (grown in k23) -/
theorem p_in : (Str.ofString "pass") ∈ (["pass", "doom"] : List Str) := by decide +kernel
theorem d_in : (Str.ofString "doom") ∈ (["pass", "doom"] : List Str) := by decide +kernel
theorem c_in : (Str.ofString "call") ∈ (["write", "raise", "call"] : List Str) := by decide +kernel
theorem r_in : (Str.ofString "raise") ∈ (["write", "raise", "call"] : List Str) := by decide +kernel
theorem m_in : (Str.ofString "maybe") ∈ (["maybe", "repeat"] : List Str) := by decide +kernel
theorem rp_in : (Str.ofString "repeat") ∈ (["maybe", "repeat"] : List Str) := by decide +kernel
theorem wfB_one {n : Nat} {s : Stm} (h : wfS n s) : wfB n [s] := by rw [wfB, wfB]; exact ⟨h, trivial⟩
theorem wfS_leaf {n : Nat} {h : Hd} (w : HdW n 0 h) : wfS n (.mk h []) := by rw [wfS, wfP]; exact ⟨w, trivial⟩
theorem wfS_1 {n : Nat} {h : Hd} {b : List Stm} (w : HdW n 1 h) (hb : wfB (n + 1) b) (ne : b ≠ []) : wfS n (.mk h [b]) := by rw [wfS, wfP, wfP]; exact ⟨w, ⟨ne, hb⟩, trivial⟩
theorem nbB_app : ∀ b c : List Stm, nbB (b ++ c) = nbB b + nbB c
  | [], c => by rw [List.nil_append, nbB.eq_1]; omega
  | s :: r, c => by rw [List.cons_append, nbB, nbB, nbB_app r c]; omega
theorem rowsB_app (n : Nat) : ∀ b c : List Stm, rowsB n (b ++ c) = rowsB n b ++ rowsB n c
  | [], c => by rw [List.nil_append, rowsB.eq_1]; rfl
  | s :: r, c => by rw [List.cons_append, rowsB, rowsB, rowsB_app n r c, List.append_assoc]
theorem wfB_app {n : Nat} : ∀ {b c : List Stm}, wfB n b → wfB n c → wfB n (b ++ c)
  | [], c, _, h => h
  | s :: r, c, h, h2 => by
    rw [wfB] at h
    rw [List.cons_append, wfB]
    exact ⟨h.1, wfB_app h.2 h2⟩
theorem callsN_app (ns : List Str) (b c : List Stm) : callsN ns (b ++ c) = callsN ns b ++ callsN ns c := by
  unfold callsN freeB
  rw [lsB_app, List.filter_append, List.map_append, List.filterMap_append]
theorem freeB_app (b c : List Stm) : freeB (b ++ c) = freeB b ++ freeB c := by
  unfold freeB
  rw [lsB_app, List.filter_append, List.map_append]
theorem sum_le {l : List Nat} {m : Nat} (h : ∀ x ∈ l, x ≤ m) : l.sum ≤ l.length * m := by
  induction l with
  | nil => simp
  | cons x r ih =>
    have := ih fun y hy => h y (List.mem_cons_of_mem _ hy)
    have := h x List.mem_cons_self
    rw [List.sum_cons, List.length_cons, Nat.add_mul]
    omega
theorem getD_nm {names : List Str} {k : Nat} (h : k < names.length) : names.getD k "" ∈ names := by
  rw [List.getD_eq_getElem?_getD, List.getElem?_eq_getElem h]
  exact List.getElem_mem h
theorem wtB_le {fs : List Fun} {n M : Nat} {b : List Stm} (h : ∀ y ∈ callsB fs b, wtF fs n y ≤ M) : wtB fs n b ≤ (freeB b).length + (callsB fs b).length * M := by
  unfold wtB callsB at *
  generalize freeB b = l at h ⊢
  induction l with
  | nil => simp
  | cons s r ih =>
    rw [List.map_cons, List.sum_cons, List.filterMap_cons, List.length_cons]
    cases e : callee fs s with
    | none =>
      rw [List.filterMap_cons, e] at h
      have := ih h
      simp only
      omega
    | some y =>
      rw [List.filterMap_cons, e] at h
      have := ih fun z hz => h z (List.mem_cons_of_mem _ hz)
      have h1 := h y List.mem_cons_self
      simp only [List.length_cons, Nat.add_mul]
      omega
theorem mksF_len : ∀ (gs : List FT) (i : Nat), (mksF i gs).length = (gs.map fun g => nbB g.2).sum
  | [], _ => rfl
  | g :: r, i => by rw [mksF, List.length_append, mksB_len, mksF_len r, List.map_cons, List.sum_cons]
theorem allT_len (gs : List FT) : (allT gs).length = (gs.map fun g => (allB g.2).length).sum := by
  unfold allT
  rw [List.length_flatten, List.map_map]; rfl
def rowW : Row → Nat
  | some (_, ws) => ws.length
  | none => 0
theorem line_le {r : Row} {k : Nat} (g : RowG r) (h : rowW r ≤ k) : (lineR r).length ≤ 16 + 9 * k := by
  obtain ⟨n, ws, rfl, h1, h2, h3⟩ := g.ex
  have e : (lineR (some (n, ws))).length + 1 = _ := line_len h2
  have : ∀ l : List Str, (∀ w ∈ l, IsWord w) → (l.map fun w => w.length + 1).sum ≤ 9 * l.length := by
    intro l
    induction l with
    | nil => intro _; simp
    | cons w r ih =>
      intro h
      have := ih fun x hx => h x (List.mem_cons_of_mem _ hx)
      have := (h w List.mem_cons_self).len
      rw [List.map_cons, List.sum_cons, List.length_cons]
      omega
  have := this ws h3
  have : 9 * ws.length ≤ 9 * k := Nat.mul_le_mul_left 9 h
  omega
theorem rowsF_ne {gs : List FT} (h : gs ≠ []) : rowsF gs ≠ [] := by
  cases gs with
  | nil => exact absurd rfl h
  | cons g r => simp [rowsF]
theorem back_iff {cs : Calls} {x : Str} : backB cs x = true ↔ Rch cs x x := by
  unfold backB
  exact @decide_eq_true_iff (Rch cs x x) (Classical.propDecidable _)
theorem find_congr {α : Type} {p q : α → Bool} : ∀ {l : List α}, (∀ x ∈ l, p x = q x) → l.find? p = l.find? q
  | [], _ => rfl
  | x :: r, h => by rw [List.find?_cons, List.find?_cons, h x List.mem_cons_self, find_congr fun y hy => h y (List.mem_cons_of_mem _ hy)]
theorem textR_join {rows : List Row} (h : rows ≠ []) : ((rows.map lineR).map fun x => x.length).sum + (rows.map lineR).length * (Str.ofString "\n").length = (textR rows).length + 1 := by
  rw [textR_len h, show (Str.ofString "\n").length = 1 by decide +kernel, List.map_map, List.length_map, Nat.mul_one]
  clear h
  induction rows with
  | nil => rfl
  | cons r t ih =>
    simp only [List.map_cons, List.sum_cons, List.length_cons, Function.comp] at ih ⊢
    omega
theorem rowsF_snoc (gs : List FT) (g : FT) : rowsF (gs ++ [g]) = rowsF gs ++ (some (0, [Str.ofString "function", g.1]) :: rowsB 1 g.2) := by
  unfold rowsF
  rw [List.map_append, List.flatten_append]
  simp
theorem fun_line (x : Str) : Str.ofString "function " ++ x = lineS 0 ["function", x] := by
  refine cps_inj ?_
  rw [lineS_cps, cps_app]
  show _ = cps (Str.ofString "function") ++ 32 :: cps x
  rw [show cps (Str.ofString "function ") = cps (Str.ofString "function") ++ [32] by decide +kernel]
  simp
theorem ne_strsD {K : PySem.W.Frag} {H : Hp} {a b : Addr} {xs ys : List Str} {Q : VK} (h1 : H a = some (.lst (xs.map V.str))) (h2 : H b = some (.lst (ys.map V.str))) (ax : ∀ z ∈ xs, asc z) (ay : ∀ z ∈ ys, asc z) (q : Q (.bl (!decide (xs = ys))) H) : rNeD K (.ref a) (.ref b) H Q :=
  ⟨_, _, .lst (SqL.of h1) (dp_strs _), .lst (SqL.of h2) (dp_strs _), shaped_strs ax, shaped_strs ay, by
    rw [show PyData.eqv (.list (xs.map PyData.str)) (.list (ys.map PyData.str)) = decide (xs = ys) from eqv_strsL xs ys]
    exact q⟩
theorem bd1_li0 (T : Txt K mg a d) : ∃ ds, Vals [V.int 6000] ds ∧ Binds K d.LibraryU_initU ["self", "text", "longest"] ds :=
  T.LibraryU_initU.binds1 (ps := ["self", "text", "longest"]) 2 0 (by simp) rfl (fun D kV doc pm an cdv ct us its hu hi => match us, hu, its, hi with | [_, _], _, [_], _ => ⟨_, rfl, rfl⟩)
theorem PoolO.tupk {F : Hp} {p : Addr} {o o' : HO} {c : Nat} (h : PoolO o c) (e : F p = some o) : TupK F (upd F p o') := by
  obtain ⟨x, y, z, rfl, _⟩ := h
  exact TupK.set e
theorem call_line {n : Nat} {s x : Str} (h : s = spc (2 * n)) : s ++ (Str.ofString "call " ++ x) = lineS n ["call", x] := by
  refine cps_inj ?_
  rw [lineS_cps, cps_app, cps_app, h, spc_cps]
  show _ = List.replicate (2 * n) 32 ++ (cps (Str.ofString "call") ++ 32 :: cps x)
  rw [show cps (Str.ofString "call ") = cps (Str.ofString "call") ++ [32] by decide +kernel]
  simp
abbrev linesB (n : Nat) (b : List Stm) : List Str := (rowsB n b).map lineR
abbrev strsR (rows : List Row) : List V := (rows.map lineR).map V.str
theorem inV_int (i : Int) (l : List Int) : inV (.int i) (l.map V.int) = decide (i ∈ l) := by
  unfold inV
  rw [List.any_map, Bool.eq_iff_iff, decide_eq_true_eq, List.any_eq_true]
  constructor
  · rintro ⟨y, hy, e⟩
    have e : eqV (.int y) (.int i) = true := e
    have : y = i := by simpa [eqV] using e
    exact this ▸ hy
  · intro h
    exact ⟨i, h, by simp [eqV]⟩
theorem flat_ints {l : List Int} : (l.map V.int).all flatV = true := by
  rw [List.all_map, List.all_eq_true]
  intro x _
  rfl
/-! ### bodies that the laws draw: what is in them, and how many -/
structure Wds where
  R : List Str
  E : List Str
  N : List Str
def gH (W : Wds) (C : List Str) : Hd → Prop
  | .sim _ => True
  | .one k w => (k = "write" → w ∈ W.R) ∧ (k = "raise" → w ∈ W.E) ∧ (k = "call" → w ∈ C)
  | .blk _ _ ks => (∀ w ∈ ks, w ∈ W.E) ∧ ks.length ≤ 2
  | .gua _ => True
  | .tr ws _ => ∀ l, some l ∈ ws → (∀ w ∈ l, w ∈ W.E) ∧ l.length ≤ 2
mutual
def gS (W : Wds) (C : List Str) : Stm → Prop
  | .mk h ps => gH W C h ∧ gP W (if isG h = true then C ++ W.N else C) ps
def gP (W : Wds) (C : List Str) : List (List Stm) → Prop
  | [] => True
  | b :: r => gB W C b ∧ gP W C r
def gB (W : Wds) (C : List Str) : List Stm → Prop
  | [] => True
  | s :: r => gS W C s ∧ gB W C r
end
theorem gB_app {W : Wds} {C : List Str} : ∀ {b c : List Stm}, gB W C b → gB W C c → gB W C (b ++ c)
  | [], c, _, h => h
  | s :: r, c, h, h2 => by
    rw [gB] at h
    rw [List.cons_append, gB]
    exact ⟨h.1, gB_app h.2 h2⟩
theorem gP_app {W : Wds} {C : List Str} : ∀ {b c : List (List Stm)}, gP W C b → gP W C c → gP W C (b ++ c)
  | [], c, _, h => h
  | s :: r, c, h, h2 => by
    rw [gP] at h
    rw [List.cons_append, gP]
    exact ⟨h.1, gP_app h.2 h2⟩
/-- what each statement has -/
structure StG (W : Wds) (C : List Str) (s : Stm) : Prop where
  wr : ∀ w, nameOf "write" s = some w → w ∈ W.R
  cl : ∀ w, nameOf "call" s = some w → w ∈ C ∨ w ∈ W.N
  wd : ∀ w ∈ wordsH s.hd, w ∈ W.E
theorem gH_st {W : Wds} {C : List Str} {h : Hd} {ps : List (List Stm)} (g : gH W C h) : StG W C (.mk h ps) := by
  cases h with
  | sim w => exact ⟨fun w h => (nomatch h), fun w h => (nomatch h), fun w h => (nomatch h)⟩
  | one k w =>
    refine ⟨fun x h => ?_, fun x h => ?_, fun x h => ?_⟩
    · rw [nameOf_one] at h
      split at h
      · rename_i e; cases h; exact g.1 e
      · cases h
    · rw [nameOf_one] at h
      split at h
      · rename_i e; cases h; exact .inl (g.2.2 e)
      · cases h
    · have h : x ∈ (if k = "raise" then [w] else []) := h
      split at h
      · rename_i e; rw [List.mem_singleton.mp h]; exact g.2.1 e
      · cases h
  | blk n m ks => exact ⟨fun w h => (nomatch h), fun w h => (nomatch h), fun w h => g.1 w h⟩
  | gua k => exact ⟨fun w h => (nomatch h), fun w h => (nomatch h), fun w h => (nomatch h)⟩
  | tr ws fin =>
    refine ⟨fun w h => (nomatch h), fun w h => (nomatch h), fun w h => ?_⟩
    obtain ⟨l, hl, hw⟩ := List.mem_flatten.mp h
    obtain ⟨o, ho, rfl⟩ := List.mem_map.mp hl
    cases o with
    | none => cases hw
    | some l => exact (g l ho).1 w hw
theorem StG.mono {W : Wds} {C D : List Str} {s : Stm} (h : StG W C s) (hc : ∀ w ∈ C, w ∈ D ∨ w ∈ W.N) : StG W D s := ⟨h.wr, fun w e => (h.cl w e).elim (hc w) .inr, h.wd⟩
mutual
theorem gS_all {W : Wds} : ∀ (s : Stm) (C : List Str), gS W C s → ∀ t ∈ allS s, StG W C t
  | .mk h ps, C, g, t, ht => by
    rw [gS] at g
    rw [allS] at ht
    rcases List.mem_cons.mp ht with rfl | ht
    · exact gH_st g.1
    · refine (gP_all ps _ g.2 t ht).mono fun w hw => ?_
      split at hw
      · exact List.mem_append.mp hw
      · exact .inl hw
theorem gP_all {W : Wds} : ∀ (ps : List (List Stm)) (C : List Str), gP W C ps → ∀ t ∈ allP ps, StG W C t
  | [], C, _, t, ht => by rw [allP] at ht; cases ht
  | b :: r, C, g, t, ht => by
    rw [gP] at g
    rw [allP] at ht
    rcases List.mem_append.mp ht with ht | ht
    · exact gB_all b C g.1 t ht
    · exact gP_all r C g.2 t ht
theorem gB_all {W : Wds} : ∀ (b : List Stm) (C : List Str), gB W C b → ∀ t ∈ allB b, StG W C t
  | [], C, _, t, ht => by rw [allB] at ht; cases ht
  | s :: r, C, g, t, ht => by
    rw [gB] at g
    rw [allB] at ht
    rcases List.mem_append.mp ht with ht | ht
    · exact gS_all s C g.1 t ht
    · exact gB_all r C g.2 t ht
end
mutual
theorem gS_free {W : Wds} {C : List Str} : ∀ (s : Stm), gS W C s → ∀ x ∈ lsS false s, x.2 = false → ∀ w, nameOf "call" x.1 = some w → w ∈ C
  | .mk h ps, g, x, hx, hf, w, hw => by
    rw [gS] at g
    rw [lsS] at hx
    rcases List.mem_cons.mp hx with rfl | hx
    · cases h with
      | one k v =>
        rw [nameOf_one] at hw
        split at hw
        · rename_i e; cases hw; exact g.1.2.2 e
        · cases hw
      | _ => cases hw
    · cases e : isG h with
      | false =>
        rw [e] at hx
        rw [e, if_neg (by simp)] at g
        exact gP_free ps g.2 x hx hf w hw
      | true =>
        rw [e] at hx
        exact absurd hf (by rw [lsP_g ps x hx]; simp)
theorem gP_free {W : Wds} {C : List Str} : ∀ (ps : List (List Stm)), gP W C ps → ∀ x ∈ lsP false ps, x.2 = false → ∀ w, nameOf "call" x.1 = some w → w ∈ C
  | [], _, x, hx, _, _, _ => by rw [lsP] at hx; cases hx
  | b :: r, g, x, hx, hf, w, hw => by
    rw [gP] at g
    rw [lsP] at hx
    rcases List.mem_append.mp hx with hx | hx
    · exact gB_free b g.1 x hx hf w hw
    · exact gP_free r g.2 x hx hf w hw
theorem gB_free {W : Wds} {C : List Str} : ∀ (b : List Stm), gB W C b → ∀ x ∈ lsB false b, x.2 = false → ∀ w, nameOf "call" x.1 = some w → w ∈ C
  | [], _, x, hx, _, _, _ => by rw [lsB] at hx; cases hx
  | s :: r, g, x, hx, hf, w, hw => by
    rw [gB] at g
    rw [lsB] at hx
    rcases List.mem_append.mp hx with hx | hx
    · exact gS_free s g.1 x hx hf w hw
    · exact gB_free r g.2 x hx hf w hw
theorem lsS_g : ∀ (s : Stm), ∀ x ∈ lsS true s, x.2 = true
  | .mk h ps, x, hx => by
    rw [lsS] at hx
    rcases List.mem_cons.mp hx with rfl | hx
    · rfl
    · exact lsP_g ps x hx
theorem lsP_g : ∀ (ps : List (List Stm)), ∀ x ∈ lsP true ps, x.2 = true
  | [], x, hx => by rw [lsP] at hx; cases hx
  | b :: r, x, hx => by
    rw [lsP] at hx
    rcases List.mem_append.mp hx with hx | hx
    · exact lsB_g b x hx
    · exact lsP_g r x hx
theorem lsB_g : ∀ (b : List Stm), ∀ x ∈ lsB true b, x.2 = true
  | [], x, hx => by rw [lsB] at hx; cases hx
  | s :: r, x, hx => by
    rw [lsB] at hx
    rcases List.mem_append.mp hx with hx | hx
    · exact lsS_g s x hx
    · exact lsB_g r x hx
end
/-- no calls of one's own outside of maybe and repeat -/
theorem gB_calls {W : Wds} {C ns : List Str} {b : List Stm} (g : gB W C b) (h : ∀ w ∈ C, w ∉ ns) : callsN ns b = [] := by
  unfold callsN freeB
  rw [List.filterMap_eq_nil_iff]
  intro s hs
  obtain ⟨x, hx, rfl⟩ := List.mem_map.mp hs
  obtain ⟨hx, hf⟩ := List.mem_filter.mp hx
  have hf : x.2 = false := by simpa using hf
  have key := gB_free b g x hx hf
  obtain ⟨⟨hd, ps⟩, gg⟩ := x
  unfold calleeN
  cases hd with
  | one k v =>
    show (if k = "call" ∧ v ∈ ns then some v else none) = none
    rw [if_neg]
    rintro ⟨e, m⟩
    exact h v (key v (by show nameOf "call" (.mk (.one k v) ps) = some v; rw [nameOf_one, if_pos e])) m
  | _ => rfl
def ownN (ns : List Str) (l : List Stm) : Nat := (l.filterMap (calleeN ns)).length
theorem ownN_app (ns : List Str) (l m : List Stm) : ownN ns (l ++ m) = ownN ns l + ownN ns m := by unfold ownN; rw [List.filterMap_append, List.length_append]
theorem ownN_sub {ns : List Str} {l m : List Stm} (h : l.Sublist m) : ownN ns l ≤ ownN ns m := (h.filterMap _).length_le
mutual
theorem subS_l {b : List Stm} {t : Stm} : ∀ {s : Stm}, t ∈ allS s → b ∈ t.ps → (allB b).Sublist (allS s)
  | .mk h ps, ht, hb => by
    rw [allS] at ht ⊢
    rcases List.mem_cons.mp ht with rfl | ht
    · exact (subP1_l (ps := ps) hb).cons _
    · exact (subP_l (ps := ps) ht hb).cons _
theorem subP1_l {b : List Stm} : ∀ {ps : List (List Stm)}, b ∈ ps → (allB b).Sublist (allP ps)
  | c :: r, hb => by
    rw [allP]
    rcases List.mem_cons.mp hb with rfl | hb
    · exact List.sublist_append_left _ _
    · exact (subP1_l hb).trans (List.sublist_append_right _ _)
theorem subP_l {b : List Stm} {t : Stm} : ∀ {ps : List (List Stm)}, t ∈ allP ps → b ∈ t.ps → (allB b).Sublist (allP ps)
  | c :: r, ht, hb => by
    rw [allP] at ht ⊢
    rcases List.mem_append.mp ht with ht | ht
    · exact (subB_l (c := c) ht hb).trans (List.sublist_append_left _ _)
    · exact (subP_l (ps := r) ht hb).trans (List.sublist_append_right _ _)
theorem subB_l {b : List Stm} {t : Stm} : ∀ {c : List Stm}, t ∈ allB c → b ∈ t.ps → (allB b).Sublist (allB c)
  | s :: r, ht, hb => by
    rw [allB] at ht ⊢
    rcases List.mem_append.mp ht with ht | ht
    · exact (subS_l (s := s) ht hb).trans (List.sublist_append_left _ _)
    · exact (subB_l (c := r) ht hb).trans (List.sublist_append_right _ _)
end
/-! how many statements, blocks and lines; a, b is the room ahead, a', b' behind -/
structure GSt (W : Wds) (C : List Str) (n : Nat) (a b a' b' : Int) (s : Stm) : Prop where
  wf : wfS n s
  g : gS W C s
  cn : ((allS s).length : Int) = a - a'
  c6 : (allS s).length + (if 0 < a then 2 else 0) + 6 * a'.toNat ≤ 6 * a.toNat + 1
  nb : nbS s + a'.toNat ≤ a.toNat
  ln : lnS s + 3 * a'.toNat ≤ (allS s).length + 3 * a.toNat
  ow : ownN W.N (allS s) + b'.toNat ≤ b.toNat
  le : b' ≤ b
structure GP_ (W : Wds) (C : List Str) (n : Nat) (t : Nat) (a b a' b' : Int) (c : List Stm) : Prop where
  wf : wfB n c
  g : gB W C c
  ne : t ≠ 0 → c ≠ []
  zr : t = 0 → c = []
  cn : ((allB c).length : Int) = a - a'
  c6 : (allB c).length + (if 0 < a ∧ 0 < t then 2 else 0) + 6 * a'.toNat ≤ 6 * a.toNat + t
  nb : nbB c + a'.toNat ≤ a.toNat
  ln : lnB c + 3 * a'.toNat ≤ (allB c).length + 3 * a.toNat
  ow : ownN W.N (allB c) + b'.toNat ≤ b.toNat
  le : b' ≤ b
structure GBd (W : Wds) (C : List Str) (n : Nat) (a b a' b' : Int) (c : List Stm) : Prop where
  wf : wfB n c
  g : gB W C c
  ne : c ≠ []
  cn : ((allB c).length : Int) = a - a'
  c6 : (allB c).length + 6 * a'.toNat ≤ 6 * a.toNat + 1
  nb : nbB c + a'.toNat ≤ a.toNat
  ln : lnB c + 3 * a'.toNat ≤ (allB c).length + 3 * a.toNat
  ow : ownN W.N (allB c) + b'.toNat ≤ b.toNat
  le : b' ≤ b
/-- the parts of a try behind its body -/
structure GH (W : Wds) (C : List Str) (n : Nat) (a b a' b' : Int) (ps : List (List Stm)) : Prop where
  wf : wfP n ps
  g : gP W C ps
  cn : ((allP ps).length : Int) = a - a'
  c6 : (allP ps).length + 6 * a'.toNat ≤ 6 * a.toNat + ps.length
  nb : nbP ps + a'.toNat ≤ a.toNat
  ln : lnP ps + 3 * a'.toNat ≤ (allP ps).length + ps.length + 3 * a.toNat
  ow : ownN W.N (allP ps) + b'.toNat ≤ b.toNat
  le : b' ≤ b
section
variable {W : Wds} {C : List Str} {n : Nat} {a b a' b' a'' b'' : Int}
theorem lnB_app : ∀ b c : List Stm, lnB (b ++ c) = lnB b + lnB c
  | [], c => by rw [List.nil_append, lnB.eq_1]; omega
  | s :: r, c => by rw [List.cons_append, lnB, lnB, lnB_app r c]; omega
theorem lnP_app : ∀ b c : List (List Stm), lnP (b ++ c) = lnP b + lnP c
  | [], c => by rw [List.nil_append, lnP.eq_1]; omega
  | s :: r, c => by rw [List.cons_append, lnP, lnP, lnP_app r c]; omega
theorem nbP_app : ∀ b c : List (List Stm), nbP (b ++ c) = nbP b + nbP c
  | [], c => by rw [List.nil_append, nbP.eq_1]; omega
  | s :: r, c => by rw [List.cons_append, nbP, nbP, nbP_app r c]; omega
theorem wfP_app {n : Nat} : ∀ {b c : List (List Stm)}, wfP n b → wfP n c → wfP n (b ++ c)
  | [], c, _, h => h
  | s :: r, c, h, h2 => by
    rw [wfP] at h
    rw [List.cons_append, wfP]
    exact ⟨h.1, wfP_app h.2 h2⟩
theorem GP_.nil (W : Wds) (C : List Str) (n : Nat) (a b : Int) : GP_ W C n 0 a b a b [] :=
  ⟨by rw [wfB]; trivial, by rw [gB]; trivial, fun h => absurd rfl h, fun _ => rfl, by rw [allB]; simp, by rw [allB]; simp, by rw [nbB]; omega, by rw [lnB, allB]; simp, by rw [allB]; show 0 + _ ≤ _; omega, Int.le_refl _⟩
theorem GP_.snoc {t : Nat} {c : List Stm} {s : Stm} (P : GP_ W C n t a b a' b' c) (S : GSt W C n a' b' a'' b'' s) : GP_ W C n (t + 1) a b a'' b'' (c ++ [s]) := by
  have e1 : allB [s] = allS s := allB_one s
  have e2 : lnB [s] = lnS s := by rw [lnB, lnB]; omega
  have e3 : nbB [s] = nbS s := by rw [nbB, nbB]; omega
  have h1 := P.cn
  have h2 := P.c6
  have h3 := P.nb
  have h4 := P.ln
  have h5 := P.ow
  have h6 := P.le
  have k1 := S.cn
  have k2 := S.c6
  have k3 := S.nb
  have k4 := S.ln
  have k5 := S.ow
  have k6 := S.le
  refine ⟨wfB_app P.wf (wfB_one S.wf), gB_app P.g (by rw [gB, gB]; exact ⟨S.g, trivial⟩), fun _ => by simp, fun z => by omega, ?_, ?_, ?_, ?_, ?_, by omega⟩
  · rw [allB_app, e1, List.length_append]; omega
  · rw [allB_app, e1, List.length_append]
    by_cases p : 0 < a
    · by_cases q : 0 < t
      · rw [if_pos ⟨p, q⟩] at h2
        rw [if_pos ⟨p, by omega⟩]
        split at k2 <;> omega
      · have : t = 0 := by omega
        subst this
        rw [if_neg (by omega)] at h2
        rw [if_pos ⟨p, by omega⟩]
        have : (allB c).length = 0 := by rw [P.zr rfl, allB]; rfl
        have : a' = a := by omega
        subst this
        rw [if_pos p] at k2
        omega
    · rw [if_neg (fun z => p z.1)] at h2 ⊢
      rw [if_neg (by omega)] at k2
      omega
  · rw [nbB_app, e3]; omega
  · rw [lnB_app, allB_app, e1, e2, List.length_append]; omega
  · rw [allB_app, e1, ownN_app]; omega
theorem GP_.done {t : Nat} {c : List Stm} (P : GP_ W C n t a b a' b' c) (h1 : 1 ≤ t) (h3 : t ≤ if 0 < a then 3 else 1) : GBd W C n a b a' b' c := by
  refine ⟨P.wf, P.g, P.ne (by omega), P.cn, ?_, P.nb, P.ln, P.ow, P.le⟩
  have h2 := P.c6
  by_cases p : 0 < a
  · rw [if_pos ⟨p, by omega⟩] at h2
    rw [if_pos p] at h3
    omega
  · rw [if_neg (fun z => p z.1)] at h2
    rw [if_neg p] at h3
    omega
theorem GH.nil (W : Wds) (C : List Str) (n : Nat) (a b : Int) : GH W C n a b a b [] :=
  ⟨by rw [wfP]; trivial, by rw [gP]; trivial, by rw [allP]; simp, by rw [allP]; simp, by rw [nbP]; omega, by rw [lnP, allP]; simp, by rw [allP]; show 0 + _ ≤ _; omega, Int.le_refl _⟩
theorem GH.snoc {ps : List (List Stm)} {c : List Stm} (P : GH W C n a b a' b' ps) (B : GBd W C n a' b' a'' b'' c) : GH W C n a b a'' b'' (ps ++ [c]) := by
  have e1 : allP [c] = allB c := allP_one c
  have e2 : lnP [c] = 1 + lnB c := by rw [lnP, lnP]; omega
  have e3 : nbP [c] = nbB c := by rw [nbP, nbP]; omega
  have h1 := P.cn
  have h2 := P.c6
  have h3 := P.nb
  have h4 := P.ln
  have h5 := P.ow
  have h6 := P.le
  have k1 := B.cn
  have k2 := B.c6
  have k3 := B.nb
  have k4 := B.ln
  have k5 := B.ow
  have k6 := B.le
  refine ⟨wfP_app P.wf (by rw [wfP, wfP]; exact ⟨⟨B.ne, B.wf⟩, trivial⟩), gP_app P.g (by rw [gP, gP]; exact ⟨B.g, trivial⟩), ?_, ?_, ?_, ?_, ?_, by omega⟩
  · rw [allP_app, e1, List.length_append]; omega
  · rw [allP_app, e1, List.length_append, List.length_append]; simp only [List.length_cons, List.length_nil]; omega
  · rw [nbP_app, e3]; omega
  · rw [lnP_app, allP_app, e1, e2, List.length_append, List.length_append]; simp only [List.length_cons, List.length_nil]; omega
  · rw [allP_app, e1, ownN_app]; omega
theorem callee_no {ns : List Str} {h : Hd} {ps : List (List Stm)} (hk : kdS h ≠ "call") : calleeN ns (.mk h ps) = none := by
  cases h with
  | one k w => exact if_neg fun z => hk z.1
  | _ => rfl
/-- a leaf -/
theorem GSt.leaf {h : Hd} (w : HdW n 0 h) (g : gH W C h) (k : (if (calleeN W.N (.mk h [])).isSome = true then 1 else 0) + b'.toNat ≤ b.toNat) (l : b' ≤ b) : GSt W C n a b (a - 1) b' (.mk h []) := by
  have e : allS (.mk h []) = [.mk h []] := by rw [allS, allP]
  have nb0 : isBk h = 0 := by
    cases h with
    | blk => exact absurd w.2.2.1 (by decide)
    | _ => rfl
  refine ⟨wfS_leaf w, by rw [gS, gP]; exact ⟨g, trivial⟩, by rw [e]; simp only [List.length_cons, List.length_nil]; omega, ?_, by rw [nbS, nbP, nb0]; omega, ?_, ?_, l⟩
  · rw [e]; simp only [List.length_cons, List.length_nil]; split <;> omega
  · rw [e, lnS, lnP]; simp only [List.length_cons, List.length_nil]; omega
  · rw [e]
    unfold ownN
    rw [List.filterMap_cons]
    cases q : calleeN W.N (.mk h []) with
    | none => rw [q] at k; simpa using k
    | some x => rw [q] at k; simpa using k
/-- a statement with parts -/
theorem GSt.mk_ {h : Hd} {ps : List (List Stm)} (w : HdW n ps.length h) (g : gH W C h) (hk : kdS h ≠ "call") (np : ps ≠ []) (n4 : ps.length ≤ 4) (pa : 0 < a) (P : GH W (if isG h = true then C ++ W.N else C) (n + 1) (a - 1) b a' b' ps) : GSt W C n a b a' b' (.mk h ps) := by
  have h1 := P.cn
  have h2 := P.c6
  have h3 := P.nb
  have h4 := P.ln
  have h5 := P.ow
  have e : allS (.mk h ps) = .mk h ps :: allP ps := by rw [allS]
  have i1 : isBk h ≤ 1 := by cases h <;> simp [isBk]
  have lp : 1 ≤ ps.length := by cases ps with | nil => exact absurd rfl np | cons => simp
  refine ⟨by rw [wfS]; exact ⟨w, P.wf⟩, by rw [gS]; exact ⟨g, P.g⟩, by rw [e, List.length_cons]; omega, ?_, by rw [nbS]; omega, ?_, ?_, P.le⟩
  · rw [e, List.length_cons, if_pos pa]; omega
  · rw [e, lnS, List.length_cons]; omega
  · rw [e]
    unfold ownN at *
    rw [List.filterMap_cons, callee_no hk]
    exact h5
end
/-! ### the drawing defs: _law_pick, _law_row -/
theorem mul_sp : ∀ n : Nat, Txt.mul (Str.ofString "  ") (n : Int) = spc (2 * n) := by
  have two : (Str.ofString "  ") = ⟨#[32, 32]⟩ := by decide +kernel
  have fold : ∀ (n : Nat) (acc : Array Nat), ((List.replicate n (#[32, 32] : Array Nat)).foldl (· ++ ·) acc).toList = acc.toList ++ List.replicate (2 * n) 32 := by
    intro n
    induction n with
    | zero => intro acc; simp
    | succ n ih =>
      intro acc
      rw [List.replicate_succ, List.foldl_cons, ih, Array.toList_append, List.append_assoc, show 2 * (n + 1) = 2 + 2 * n by omega]
      show acc.toList ++ (List.replicate 2 32 ++ List.replicate (2 * n) 32) = _
      rw [List.replicate_append_replicate]
  intro n
  rw [two]
  unfold Txt.mul
  by_cases h0 : (n : Int) < 1
  · have : n = 0 := by omega
    subst this
    rw [if_pos h0]; rfl
  · rw [if_neg h0]
    by_cases h1 : n = 1
    · subst h1
      rw [if_pos (by decide)]; rfl
    · rw [if_neg (by
        rw [Bool.or_eq_true]
        rintro (c | c)
        · exact h1 (by have := eq_of_beq c; omega)
        · revert c; decide)]
      refine cps_inj ?_
      show ((List.replicate ((n : Int).toNat) (#[32, 32] : Array Nat)).foldl (· ++ ·) #[]).toList = List.replicate (2 * n) 32
      rw [fold]
      simp
def spRow : Sp := fun vs H Q _ => ∃ (n : Nat) (l : Addr) (ws : List Str), vs = [.int (n : Int), .ref l] ∧ n ≤ 8 ∧ H l = some (.lst (ws.map V.str)) ∧ ws.length ≤ 10 ∧ (∀ w ∈ ws, IsWord w) ∧ Q (.str (lineS n ws)) H
theorem words_sum : ∀ {ws : List Str}, (∀ w ∈ ws, IsWord w) → (ws.map (·.length)).sum ≤ 8 * ws.length
  | [], _ => Nat.zero_le _
  | w :: r, h => by
    have := words_sum fun x hx => h x (List.mem_cons_of_mem _ hx)
    have l := (h w List.mem_cons_self).len
    rw [List.map_cons, List.sum_cons, List.length_cons]
    omega
theorem join_le {ws : List Str} (h : ∀ w ∈ ws, IsWord w) : (Str.join " " ws).length ≤ 9 * ws.length := by
  cases ws with
  | nil => exact Nat.zero_le _
  | cons w r =>
    have e : (lineS 0 (w :: r)).length + 1 = _ := line_len (n := 0) (List.cons_ne_nil w r)
    have e2 : (lineS 0 (w :: r)).length = (Str.join " " (w :: r)).length := by
      unfold lineS
      rw [Str.length_append, show (spc (2 * 0)).length = 0 from rfl, Nat.zero_add]
    have : ∀ l : List Str, (∀ w ∈ l, IsWord w) → (l.map fun w => w.length + 1).sum ≤ 9 * l.length := by
      intro l
      induction l with
      | nil => intro _; simp
      | cons w r ih =>
        intro h
        have := ih fun x hx => h x (List.mem_cons_of_mem _ hx)
        have := (h w List.mem_cons_self).len
        rw [List.map_cons, List.sum_cons, List.length_cons]
        omega
    have := this (w :: r) h
    omega
theorem ok_law_row (T : Txt K mg a d) : FnOk P w K mg base CX0 1 a.law_row d.law_row ["_law_nesting", "_law_words"] spRow := by
  refine T.law_row.ok sc_law_row (fun vs H Q E h => ?_) (fun cdv A outer s H vs Q E hr h => ?_)
  · obtain ⟨n, l, ws, rfl, _⟩ := h
    rfl
  · obtain ⟨n, l, ws, rfl, hn, hl, lw, hw, q⟩ := h
    refine ⟨_, (pss_one (ps_ret (pe_op op_add_str (pe_op op_mul_str pe_str (pv 0)) (pe_join pe_str (pv 1))))), ?_⟩
    try dsimp only [cxOf]
    have e2 : (Str.ofString "  ").length ≤ 16 := by decide +kernel
    have n3 : n ≤ 1000 := by omega
    have ms := mul_sp n
    have sum := words_sum hw
    have s1 : (Str.ofString " ").length = 1 := by decide +kernel
    have jl := join_le hw
    have sl : (spc (2 * n)).length = 2 * n := by rw [← cps_len, spc_cps, List.length_replicate]
    walk_at "rd"
    refine ⟨by rw [s1]; omega, ?_⟩
    rw [join_S, ms]
    refine ⟨_, _, rfl, rfl, by rw [sl, sizeLine_eq]; show 2 * n + (Str.join " " ws).length ≤ _; omega, ?_⟩
    exact q
def spPick : Sp := fun vs H Q _ => ∃ (p l : Addr) (ws : List Str) (c : Nat) (o : HO), vs = [.ref p, .ref l] ∧ H p = some o ∧ PoolO o c ∧ c < 2 ^ 40 ∧ H l = some (.lst (ws.map V.str)) ∧ ws ≠ [] ∧ ws.length ≤ 1000 ∧
  ∀ w o', w ∈ ws → PoolO o' (c + 1) → Q (.str w) (upd H p o')
theorem ok_law_pick (T : Txt K mg a d) : FnOk P w K mg base CX0 2 a.law_pick d.law_pick ["_law_pool_here", "_law_some"] spPick := by
  have G_law_draw : FnOk P w K mg base CX0 1 a.law_draw d.law_draw ["_law_pool_here", "_law_many"] spDraw := ok_law_draw T
  refine T.law_pick.ok sc_law_pick (fun vs H Q E h => ?_) (fun cdv A outer s H vs Q E hr h => ?_)
  · obtain ⟨p, l, ws, c, o, rfl, _⟩ := h
    rfl
  · obtain ⟨p, l, ws, c, o, rfl, hp, ho, hc, hl, hn, lw, q⟩ := h
    refine ⟨_, (pss_one (ps_ret (pe_ix ix_list (pv 1) (pe_call G_law_draw (hr.mono (by omega)) (by rfl) T.g_law_draw T.law_draw.kp T.b_law_draw .nil pass0 (pa_cons (pv 0) (pa_cons (pe_callB call_len_seq (by rfl) T.n_len PySem.boot_len (pa_cons (pv 1) pa_nil)) pa_nil))) (fun _ _ => rfl)))), ?_⟩
    try dsimp only [cxOf]
    have npl : l ≠ p := fun e => by rw [e, hp] at hl; exact ho.nostr (Option.some.inj hl)
    have l1 : 1 ≤ ws.length := by cases ws with | nil => exact absurd rfl hn | cons => simp
    walk_at "rd"
    rw [List.length_map]
    refine ⟨by omega, by omega, hc, fun r1 o1 r10 r11 ho1 => ?_⟩
    obtain ⟨j, rfl⟩ := Int.eq_ofNat_of_zero_le r10
    have hj : j < ws.length := by omega
    have hl1 := upd_oth (o := o1) npl hl
    have hat : atI (ws.map V.str) (j : Int) = some (.str (ws.getD j "")) := atI_nat (by rw [List.getElem?_map, List.getElem?_eq_getElem hj, getD_at hj]; rfl)
    walk_at "rd"
    exact q _ _ (getD_mem hj) ho1
/-! ### the drawing defs: what they know, _law_statement -/
structure WA where
  q : Addr
  r : Addr
  e : Addr
  c : Addr
  m : Addr
structure WdAt (H : Hp) (L : WA) (W : Wds) (C : List Str) : Prop where
  q_ : H L.q = some (.lst [.ref L.r, .ref L.e, .ref L.c, .ref L.m])
  r_ : H L.r = some (.lst (W.R.map V.str))
  e_ : H L.e = some (.lst (W.E.map V.str))
  c_ : H L.c = some (.lst (C.map V.str))
  m_ : H L.m = some (.lst (W.N.map V.str))
structure WdOk (W : Wds) (C : List Str) : Prop where
  rw_ : ∀ w ∈ W.R, IsWord w
  ew : ∀ w ∈ W.E, IsWord w
  cw : ∀ w ∈ C, IsWord w
  nw : ∀ w ∈ W.N, IsWord w
  rn : W.R ≠ [] ∧ W.R.length ≤ 20
  en : W.E ≠ [] ∧ W.E.length ≤ 20
  cn : C ≠ [] ∧ C.length ≤ 20 + 20 * 10
  nn : W.N.length ≤ 20
def PR (p rm : Addr) : Addr → Prop := fun x => x = p ∨ x = rm
structure GI (H0 H : Hp) (p rm : Addr) (L : WA) (W : Wds) (C : List Str) (a b : Int) (c : Nat) : Prop where
  k : Kp (PR p rm) H0 H
  po : ∃ o, H p = some o ∧ PoolO o c
  wd : WdAt H L W C
  rm_ : H rm = some (.lst [.int a, .int b])
section
variable {H0 H H' : Hp} {p rm x : Addr} {L : WA} {W : Wds} {C : List Str} {a b a' b' : Int} {c c' : Nat} {o o' : HO}
theorem PoolO.no2 {o : HO} {c : Nat} (h : PoolO o c) : ∀ {x y : V}, o ≠ .lst [x, y] := by
  obtain ⟨x, y, z, rfl, _⟩ := h
  intro _ _ e
  injection e with e
  cases e
theorem PoolO.noref {o : HO} {c : Nat} (h : PoolO o c) {x : Addr} {l : List V} : o ≠ .lst (.ref x :: l) := by
  obtain ⟨u, y, z, rfl, _⟩ := h
  intro e
  injection e with e
  cases e
theorem no2str {S : List Str} {i j : Int} : (.lst (S.map V.str) : HO) ≠ .lst [.int i, .int j] := by
  intro e
  injection e with e
  cases S with
  | nil => cases e
  | cons s r => cases e
/-- what is no pool and no room stands -/
theorem GI.ne (I : GI H0 H p rm L W C a b c) {o : HO} (h : H x = some o) (h1 : ∀ o' c, PoolO o' c → o ≠ o') (h2 : ∀ i j, o ≠ .lst [.int i, .int j]) : ¬ PR p rm x := by
  obtain ⟨o1, e1, e2⟩ := I.po
  rintro (rfl | rfl)
  · rw [e1] at h; cases h; exact h1 _ _ e2 rfl
  · rw [I.rm_] at h; cases h; exact h2 _ _ rfl
theorem GI.pr (I : GI H0 H p rm L W C a b c) : p ≠ rm := fun e => by
  obtain ⟨o1, e1, e2⟩ := I.po
  rw [e, I.rm_] at e1
  cases e1
  exact e2.no2 rfl
theorem GI.nes (I : GI H0 H p rm L W C a b c) {S : List Str} (h : H x = some (.lst (S.map V.str))) : ¬ PR p rm x := I.ne h (fun _ _ h e => h.nostr e.symm) fun _ _ => no2str
theorem GI.neq (I : GI H0 H p rm L W C a b c) : ¬ PR p rm L.q := I.ne I.wd.q_ (fun _ _ h e => h.noref e.symm) fun _ _ e => by injection e with e; cases e
theorem WdAt.keep (h : WdAt H L W C) (k : ∀ x u, H x = some u → (x = L.q ∨ x = L.r ∨ x = L.e ∨ x = L.c ∨ x = L.m) → H' x = some u) : WdAt H' L W C :=
  ⟨k _ _ h.q_ (.inl rfl), k _ _ h.r_ (.inr (.inl rfl)), k _ _ h.e_ (.inr (.inr (.inl rfl))), k _ _ h.c_ (.inr (.inr (.inr (.inl rfl)))), k _ _ h.m_ (.inr (.inr (.inr (.inr rfl))))⟩
theorem GI.wno (I : GI H0 H p rm L W C a b c) : ∀ x, (x = L.q ∨ x = L.r ∨ x = L.e ∨ x = L.c ∨ x = L.m) → ¬ PR p rm x := by
  rintro x (rfl | rfl | rfl | rfl | rfl)
  · exact I.neq
  · exact I.nes I.wd.r_
  · exact I.nes I.wd.e_
  · exact I.nes I.wd.c_
  · exact I.nes I.wd.m_
/-- a further frame -/
theorem GI.kp (I : GI H0 H p rm L W C a b c) (k : Kp (PR p rm) H H') (h1 : H' p = some o') (h2 : PoolO o' c') (h3 : H' rm = some (.lst [.int a', .int b'])) : GI H0 H' p rm L W C a' b' c' :=
  ⟨I.k.trans k, ⟨o', h1, h2⟩, I.wd.keep fun x u e hx => k x u e (I.wno x hx), h3⟩
theorem GI.same (I : GI H0 H p rm L W C a b c) (s : Same H H') : GI H0 H' p rm L W C a b c := by
  obtain ⟨o1, e1, e2⟩ := I.po
  exact I.kp (Kp.of_same s) (s _ _ e1) e2 (s _ _ I.rm_)
theorem GI.new (I : GI H0 H p rm L W C a b c) (h : H x = none) : GI H0 (upd H x o) p rm L W C a b c := I.same ((Same.refl H).new h)
theorem GI.draw (I : GI H0 H p rm L W C a b c) (h : PoolO o' c') : GI H0 (upd H p o') p rm L W C a b c' :=
  I.kp (Kp.refl.set (.inl rfl)) upd_same h (upd_oth (Ne.symm I.pr) I.rm_)
theorem GI.room (I : GI H0 H p rm L W C a b c) : GI H0 (upd H rm (.lst [.int a', .int b'])) p rm L W C a' b' c := by
  obtain ⟨o1, e1, e2⟩ := I.po
  exact I.kp (Kp.refl.set (.inr rfl)) (upd_oth I.pr e1) e2 upd_same
/-- other words -/
theorem GI.words (I : GI H0 H p rm L W C a b c) {L' : WA} {C' : List Str} (h : WdAt H L' W C') : GI H0 H p rm L' W C' a b c := ⟨I.k, I.po, h, I.rm_⟩
/-- of the heap in between -/
theorem GI.here_ (I : GI H0 H p rm L W C a b c) : GI H H p rm L W C a b c := ⟨Kp.refl, I.po, I.wd, I.rm_⟩
end
/-- what the three give back -/
def spGBd (r : Nat) : Sp := fun vs H Q _ => ∃ (_ : Unit) (p rm : Addr) (L : WA) (n : Nat) (W : Wds) (C : List Str) (a b : Int) (c : Nat), vs = [.ref p, .int (n : Int), .ref L.q, .ref rm] ∧ n + r = 9 ∧ 1 ≤ n ∧ n ≤ 8 ∧ GI H H p rm L W C a b c ∧ WdOk W C ∧ C.length ≤ 20 + 20 * n ∧ c + 1000 * a.toNat ≤ 2 ^ 38 + 1000 * n ∧ a ≤ 1000 ∧
  ∀ H' l bd a' b' c', GI H H' p rm L W C a' b' c' → c' + 1000 * a'.toNat ≤ c + 1000 * a.toNat + 100 → H l = none → H' l = some (.lst (strsR (rowsB n bd))) → GBd W C n a b a' b' bd → Q (.ref l) H'
def spGSt (r : Nat) : Sp := fun vs H Q _ => ∃ (_ : Unit) (p rm : Addr) (L : WA) (n : Nat) (W : Wds) (C : List Str) (a b : Int) (c : Nat), vs = [.ref p, .int (n : Int), .ref L.q, .ref rm] ∧ n + r = 9 ∧ 1 ≤ n ∧ n ≤ 8 ∧ GI H H p rm L W C a b c ∧ WdOk W C ∧ C.length ≤ 20 + 20 * n ∧ c + 1000 * a.toNat ≤ 2 ^ 38 + 1000 * n + 100 ∧ a ≤ 1000 ∧
  ∀ H' l s a' b' c', GI H H' p rm L W C a' b' c' → c' + 1000 * a'.toNat ≤ c + 1000 * a.toNat + 20 → H l = none → H' l = some (.lst (strsR (rowsS n s))) → GSt W C n a b a' b' s → Q (.ref l) H'
def spGTr (r : Nat) : Sp := fun vs H Q _ => ∃ (_ : Unit) (p rm : Addr) (L : WA) (n : Nat) (W : Wds) (C : List Str) (a b : Int) (c : Nat), vs = [.ref p, .int (n : Int), .ref L.q, .ref rm] ∧ n + 1 + r = 9 ∧ 1 ≤ n ∧ n ≤ 7 ∧ GI H H p rm L W C a b c ∧ WdOk W C ∧ C.length ≤ 20 + 20 * n ∧ c + 1000 * a.toNat ≤ 2 ^ 38 + 1000 * n + 110 ∧ a ≤ 1000 ∧
  ∀ H' l ws fin ps a' b' c', GI H H' p rm L W C a' b' c' → c' + 1000 * a'.toNat ≤ c + 1000 * a.toNat + 500 → H l = none → H' l = some (.lst (strsR (rowsP n (hdrs (.tr ws fin)) ps))) → HdW n ps.length (.tr ws fin) → gH W C (.tr ws fin) → GH W C (n + 1) a b a' b' ps → ps.length ≤ 4 → Q (.ref l) H'
/-! ### _law_statement -/
theorem GI.free {H0 H : Hp} {p rm x : Addr} {L : WA} {W : Wds} {C : List Str} {ra rb : Int} {c : Nat} (I : GI H0 H p rm L W C ra rb c) (h : H x = none) : H0 x = none := by
  obtain ⟨o1, e1, e2⟩ := I.po
  refine Kp.none I.k ?_ h
  rintro (rfl | rfl)
  · rw [e1] at h; cases h
  · rw [I.rm_] at h; cases h
theorem GI.back {H0 H H' : Hp} {p rm : Addr} {L L' : WA} {W W' : Wds} {C C' : List Str} {ra rb ra' rb' : Int} {c c' : Nat} (I : GI H0 H p rm L W C ra rb c) (J : GI H H' p rm L' W' C' ra' rb' c') : GI H0 H' p rm L W C ra' rb' c' := by
  obtain ⟨o1, e1, e2⟩ := J.po
  exact I.kp J.k e1 e2 J.rm_
theorem GI.own {H0 H : Hp} {p rm x : Addr} {L : WA} {W : Wds} {C : List Str} {ra rb ra0 rb0 : Int} {c c0 : Nat} {o : HO} (B : GI H0 H0 p rm L W C ra0 rb0 c0) (I : GI H0 H p rm L W C ra rb c) (h : H0 x = none) : GI H0 (upd H x o) p rm L W C ra rb c := by
  obtain ⟨o0, e0, _⟩ := B.po
  obtain ⟨o1, e1, e2⟩ := I.po
  have hq := ne_of_none B.wd.q_ h
  have hr := ne_of_none B.wd.r_ h
  have he := ne_of_none B.wd.e_ h
  have hc := ne_of_none B.wd.c_ h
  have hm := ne_of_none B.wd.m_ h
  exact ⟨I.k.fresh h, ⟨o1, upd_oth (ne_of_none e0 h) e1, e2⟩, ⟨upd_oth hq I.wd.q_, upd_oth hr I.wd.r_, upd_oth he I.wd.e_, upd_oth hc I.wd.c_, upd_oth hm I.wd.m_⟩, upd_oth (ne_of_none B.rm_ h) I.rm_⟩
theorem line_one {n : Nat} {h : Hd} {ws : List Str} {bd : List Stm} (e : hdrs h = [ws]) : strsR (rowsS n (.mk h [bd])) = V.str (lineS n ws) :: strsR (rowsB (n + 1) bd) := by
  unfold strsR
  rw [rowsS, rowsP, rowsP, e]
  simp [topR, lineR]
theorem GBd.len {W : Wds} {C : List Str} {n : Nat} {ra rb ra' rb' : Int} {bd : List Stm} (B : GBd W C n ra rb ra' rb' bd) (h : ra ≤ 1000) (m : Nat) : (rowsB m bd).length ≤ 10000 := by
  have h1 := B.c6
  have h2 := B.ln
  rw [rowsB_len n m bd B.wf]
  omega
theorem line_leaf {n : Nat} {h : Hd} {ws : List Str} (e : hdrs h = [ws]) : strsR (rowsS n (.mk h [])) = [V.str (lineS n ws)] := by
  unfold strsR
  rw [rowsS, rowsP, e]; rfl
theorem wr_in : (Str.ofString "write") ∈ (["write", "raise", "call"] : List Str) := by decide +kernel
theorem gua_nc {w : Str} (h : w ∈ (["maybe", "repeat"] : List Str)) : ¬ (w = Str.ofString "call") := by
  rcases inG h with rfl | rfl <;> decide +kernel
theorem a4_0 {u v x y : V} : atI [u, v, x, y] 0 = some u := (atI_nat rfl : atI [u, v, x, y] ((0 : Nat) : Int) = _)
theorem a4_1 {u v x y : V} : atI [u, v, x, y] 1 = some v := (atI_nat rfl : atI [u, v, x, y] ((1 : Nat) : Int) = _)
theorem a4_2 {u v x y : V} : atI [u, v, x, y] 2 = some x := (atI_nat rfl : atI [u, v, x, y] ((2 : Nat) : Int) = _)
theorem a4_3 {u v x y : V} : atI [u, v, x, y] 3 = some y := (atI_nat rfl : atI [u, v, x, y] ((3 : Nat) : Int) = _)
theorem a2_0 {u v : V} : atI [u, v] 0 = some u := (atI_nat rfl : atI [u, v] ((0 : Nat) : Int) = _)
theorem a2_1 {u v : V} : atI [u, v] 1 = some v := (atI_nat rfl : atI [u, v] ((1 : Nat) : Int) = _)
theorem ok_law_statement (T : Txt K mg a d) (r : Nat) (G_law_body : FnOk P w K mg base CX0 (4 * r + 4) a.law_body d.law_body ["_law_pool_here", "_law_nesting", "_law_words", "_law_room"] (spGBd r)) (G_law_try : FnOk P w K mg base CX0 (4 * r + 5) a.law_try d.law_try ["_law_pool_here", "_law_nesting", "_law_words", "_law_room"] (spGTr r)) : FnOk P w K mg base CX0 (4 * r + 6) a.law_statement d.law_statement ["_law_pool_here", "_law_nesting", "_law_words", "_law_room"] (spGSt (r + 1)) := by
  have G_law_draw : FnOk P w K mg base CX0 1 a.law_draw d.law_draw ["_law_pool_here", "_law_many"] spDraw := ok_law_draw T
  have G_law_pick : FnOk P w K mg base CX0 2 a.law_pick d.law_pick ["_law_pool_here", "_law_some"] spPick := ok_law_pick T
  have G_law_row : FnOk P w K mg base CX0 1 a.law_row d.law_row ["_law_nesting", "_law_words"] spRow := ok_law_row T
  refine T.law_statement.ok sc_law_statement (fun vs H Q E h => ?_) (fun cdv A outer s H vs Q E hr h => ?_)
  · obtain ⟨_, p, rm, L, n, W, C, ra, rb, c, rfl, _⟩ := h
    rfl
  · obtain ⟨_, p, rm, L, n, W, C, ra, rb, c, rfl, hr9, n1, n8, I, wk, lC, hc, ha, k⟩ := h
    obtain ⟨o, po, ho⟩ := I.po
    refine ⟨_, (C8.pss_cut (ps_set (i := 4) sc_law_statement.nd rfl (Or.inl rfl) (pe_call G_law_draw (hr.mono (by omega)) (by rfl) T.g_law_draw T.law_draw.kp T.b_law_draw .nil pass0 (pa_cons (pv 0) (pa_cons (pe_ifExp (PW.pt (pw_and (pt_cmpR op_lt (pv 1) pe_int (nomark _)) (pw_and1 (pt_cmpR op_gt (pe_ix ix_list (pv 3) pe_int (fun _ _ => rfl)) pe_int (nomark _))))) pe_int pe_int) pa_nil))))
  (pss_cons (ps_asg (pe_op op_sub (pe_ix ix_list (pv 3) pe_int (fun _ _ => rfl)) pe_int) (pg_sub (pv 3) pe_int set_list))
  (pss_cons (ps_if (pt_cmpR op_eq (pv 4) pe_int (nomark _)) (pss_one (ps_ret (pe_lst (pa_cons (pe_call G_law_row (hr.mono (by omega)) (by rfl) T.g_law_row T.law_row.kp T.b_law_row .nil pass0 (pa_cons (pv 1) (pa_cons (pe_lst (pa_cons (pe_ix ix_list (pe_lst (pa_cons pe_str (pa_cons pe_str pa_nil))) (pe_call G_law_draw (hr.mono (by omega)) (by rfl) T.g_law_draw T.law_draw.kp T.b_law_draw .nil pass0 (pa_cons (pv 0) (pa_cons pe_int pa_nil))) (fun _ _ => rfl)) pa_nil)) pa_nil))) pa_nil)))) pss_nil)
  (pss_cons (ps_if (pt_cmpR op_lt (pv 4) pe_int (nomark _)) (pss_one (ps_ret (pe_lst (pa_cons (pe_call G_law_row (hr.mono (by omega)) (by rfl) T.g_law_row T.law_row.kp T.b_law_row .nil pass0 (pa_cons (pv 1) (pa_cons (pe_lst (pa_cons pe_str (pa_cons (pe_call G_law_pick (hr.mono (by omega)) (by rfl) T.g_law_pick T.law_pick.kp T.b_law_pick .nil pass0 (pa_cons (pv 0) (pa_cons (pe_ix ix_list (pv 2) pe_int (fun _ _ => rfl)) pa_nil))) pa_nil))) pa_nil))) pa_nil)))) pss_nil)
  (pss_cons (ps_if (pt_cmpR op_eq (pv 4) pe_int (nomark _)) (pss_one (ps_ret (pe_lst (pa_cons (pe_call G_law_row (hr.mono (by omega)) (by rfl) T.g_law_row T.law_row.kp T.b_law_row .nil pass0 (pa_cons (pv 1) (pa_cons (pe_lst (pa_cons pe_str (pa_cons (pe_call G_law_pick (hr.mono (by omega)) (by rfl) T.g_law_pick T.law_pick.kp T.b_law_pick .nil pass0 (pa_cons (pv 0) (pa_cons (pe_ix ix_list (pv 2) pe_int (fun _ _ => rfl)) pa_nil))) pa_nil))) pa_nil))) pa_nil)))) pss_nil)
  (pss_cons (ps_if (pt_cmpR op_lt (pv 4) pe_int (nomark _)) (pss_cons (ps_set (i := 5) sc_law_statement.nd rfl (Or.inl rfl) (pe_call G_law_pick (hr.mono (by omega)) (by rfl) T.g_law_pick T.law_pick.kp T.b_law_pick .nil pass0 (pa_cons (pv 0) (pa_cons (pe_ix ix_list (pv 2) pe_int (fun _ _ => rfl)) pa_nil))))
  (pss_cons (ps_if (pt_cmpR op_in_seq (pv 5) (pe_ix ix_list (pv 2) pe_int (fun _ _ => rfl)) (by rfl)) (pss_cons (ps_asg (pe_op op_sub (pe_ix ix_list (pv 3) pe_int (fun _ _ => rfl)) pe_int) (pg_sub (pv 3) pe_int set_list))
  (pss_one (ps_if (pt_cmpR op_lt (pe_ix ix_list (pv 3) pe_int (fun _ _ => rfl)) pe_int (nomark _)) (pss_one (ps_ret (pe_lst (pa_cons (pe_call G_law_row (hr.mono (by omega)) (by rfl) T.g_law_row T.law_row.kp T.b_law_row .nil pass0 (pa_cons (pv 1) (pa_cons (pe_lst (pa_cons pe_str (pa_cons (pe_call G_law_pick (hr.mono (by omega)) (by rfl) T.g_law_pick T.law_pick.kp T.b_law_pick .nil pass0 (pa_cons (pv 0) (pa_cons (pe_ix ix_list (pv 2) pe_int (fun _ _ => rfl)) pa_nil))) pa_nil))) pa_nil))) pa_nil)))) pss_nil))) pss_nil)
  (pss_one (ps_ret (pe_lst (pa_cons (pe_call G_law_row (hr.mono (by omega)) (by rfl) T.g_law_row T.law_row.kp T.b_law_row .nil pass0 (pa_cons (pv 1) (pa_cons (pe_lst (pa_cons pe_str (pa_cons (pv 5) pa_nil))) pa_nil))) pa_nil)))))) pss_nil)
  (pss_cons (ps_if (pt_cmpR op_lt (pv 4) pe_int (nomark _)) (pss_cons (ps_set (i := 6) sc_law_statement.nd rfl (Or.inl rfl) (pe_call G_law_pick (hr.mono (by omega)) (by rfl) T.g_law_pick T.law_pick.kp T.b_law_pick .nil pass0 (pa_cons (pv 0) (pa_cons (pe_lst (pa_cons pe_str (pa_cons pe_str (pa_cons pe_str (pa_cons pe_str (pa_cons pe_str (pa_cons pe_str (pa_cons pe_str (pa_cons pe_str pa_nil))))))))) pa_nil))))
  (pss_cons (ps_setLc (i := 7) (own := [("_law_k", 10)]) (tt := tYes) rfl sc_law_statement.nd rfl rfl (sw_true rfl rfl rfl (by decide +kernel)) (pi_range1 (by rfl) T.n_range (pa_cons (pe_call G_law_draw (hr.mono (by omega)) (by rfl) T.g_law_draw T.law_draw.kp T.b_law_draw .nil pass0 (pa_cons (pv 0) (pa_cons pe_int pa_nil))) pa_nil)) (blkOk_by (own := [("_law_k", 10)]) (N := ["_law_pool_here", "_law_nesting", "_law_words", "_law_room", "_law_sort", "_law_name", "_law_mode", "_law_listed", "_law_guarded", "_law_rows", "_law_k"]) (sc := defScope s_law_statement) (by decide +kernel)) (fun _ _ _ _ _ => (pg_name (i := 10) sc_law_statement.nd rfl (Or.inl rfl))) (fun _ _ _ _ _ => pts_nil) (fun _ _ _ _ _ => (pe_call G_law_pick (hr.mono (by omega)) (by rfl) T.g_law_pick T.law_pick.kp T.b_law_pick .nil pass0 (pa_cons (pv 0) (pa_cons (pe_ix (ix_listK (K := K) rfl) (pv 2) pe_int (fun _ _ => rfl)) pa_nil)))))
  (C8.pss_cut (ps_set (i := 7) sc_law_statement.nd rfl (Or.inl rfl) (pe_ifExp (pt_cmpR (op_neNil (hu_of hr)) (pv 7) (pe_lst pa_nil) (nomark _)) (pe_op op_cat (pe_lst (pa_cons pe_str pa_nil)) (pv 7)) (pe_lst pa_nil)))
  (pss_one (ps_ret (pe_op op_cat (pe_lst (pa_cons (pe_call G_law_row (hr.mono (by omega)) (by rfl) T.g_law_row T.law_row.kp T.b_law_row .nil pass0 (pa_cons (pv 1) (pa_cons (pe_op op_cat (pe_lst (pa_cons pe_str (pa_cons (pv 6) pa_nil))) (pv 7)) pa_nil))) pa_nil)) (pe_call G_law_body (hr.mono (by omega)) (by rfl) T.g_law_body T.law_body.kp T.b_law_body .nil pass0 (pa_cons (pv 0) (pa_cons (pe_op op_add (pv 1) pe_int) (pa_cons (pv 2) (pa_cons (pv 3) pa_nil))))))))))) pss_nil)
  (pss_cons (ps_if (pt_cmpR op_lt (pv 4) pe_int (nomark _)) (pss_cons (ps_set (i := 8) sc_law_statement.nd rfl (Or.inl rfl) (pe_lst (pa_cons (pe_ix ix_list (pv 2) pe_int (fun _ _ => rfl)) (pa_cons (pe_ix ix_list (pv 2) pe_int (fun _ _ => rfl)) (pa_cons (pe_op op_cat (pe_ix ix_list (pv 2) pe_int (fun _ _ => rfl)) (pe_ix ix_list (pv 2) pe_int (fun _ _ => rfl))) (pa_cons (pe_ix ix_list (pv 2) pe_int (fun _ _ => rfl)) pa_nil))))))
  (pss_cons (ps_set (i := 9) sc_law_statement.nd rfl (Or.inl rfl) (pe_call G_law_body (hr.mono (by omega)) (by rfl) T.g_law_body T.law_body.kp T.b_law_body .nil pass0 (pa_cons (pv 0) (pa_cons (pe_op op_add (pv 1) pe_int) (pa_cons (pv 8) (pa_cons (pv 3) pa_nil))))))
  (pss_one (ps_ret (pe_op op_cat (pe_lst (pa_cons (pe_call G_law_row (hr.mono (by omega)) (by rfl) T.g_law_row T.law_row.kp T.b_law_row .nil pass0 (pa_cons (pv 1) (pa_cons (pe_lst (pa_cons (pe_ix ix_list (pe_lst (pa_cons pe_str (pa_cons pe_str pa_nil))) (pe_op op_sub (pv 4) pe_int) (fun _ _ => rfl)) pa_nil)) pa_nil))) pa_nil)) (pv 9)))))) pss_nil)
  (pss_one (ps_ret (pe_call G_law_try (hr.mono (by omega)) (by rfl) T.g_law_try T.law_try.kp T.b_law_try .nil pass0 (pa_cons (pv 0) (pa_cons (pv 1) (pa_cons (pv 2) (pa_cons (pv 3) pa_nil))))))))))))))), ?_⟩
    try dsimp only [cxOf]
    have hrm := I.rm_
    have c40 : c < 2 ^ 40 := by omega
    have b0 := a2_0 (u := .int ra) (v := .int rb)
    refine ⟨fun σ' G => ∃ (_ : Unit) (s1 : Nat), σ' = [some (.ref p), some (.int (n : Int)), some (.ref L.q), some (.ref rm), some (.int (s1 : Int)), none, none, none, none, none, none] ∧ s1 < 11 ∧ (6 ≤ s1 → n < 8 ∧ 0 < ra) ∧ GI H G p rm L W C ra rb (c + 1), ?_, ?_⟩
    · have go : ∀ m : Int, (m = 6 ∨ (m = 11 ∧ n < 8 ∧ 0 < ra)) → ∀ r1 o1, 0 ≤ r1 → r1 < m → PoolO o1 (c + 1) → ∃ (_ : Unit) (s1 : Nat), [some (.ref p), some (.int (n : Int)), some (.ref L.q), some (.ref rm), some (.int r1), none, none, none, none, none, none] = ([some (.ref p), some (.int (n : Int)), some (.ref L.q), some (.ref rm), some (.int (s1 : Int)), none, none, none, none, none, none] : L2.St) ∧ s1 < 11 ∧ (6 ≤ s1 → n < 8 ∧ 0 < ra) ∧ GI H (upd H p o1) p rm L W C ra rb (c + 1) := fun m hm r1 o1 h0 h1 ho1 => by
        obtain ⟨j, rfl⟩ := Int.eq_ofNat_of_zero_le h0
        refine ⟨(), j, rfl, by omega, fun h => ?_, I.draw ho1⟩
        rcases hm with rfl | ⟨rfl, h2, h3⟩
        · omega
        · exact ⟨h2, h3⟩
      walk_at "rd"
      refine ite2 (fun c0 => ?_) (fun c0 => ?_)
      · walk_at "rd"
        refine ite2 (fun c1 => ?_) (fun c1 => ?_)
        · walk_at "rd"
          exact go 11 (.inr ⟨rfl, by have := of_decide_eq_true c0; omega, of_decide_eq_true c1⟩)
        · walk_at "rd"
          exact go 6 (.inl rfl)
      · walk_at "rd"
        exact go 6 (.inl rfl)
    · rintro σ' G ⟨_, s1, rfl, h11, h6, I1⟩
      have rG := I1.rm_
      have I2 := I1.room (a' := ra - 1) (b' := rb)
      have wr := I2.wd.r_
      have wq := I2.wd.q_
      obtain ⟨o2, po2, ho2⟩ := I2.po
      have c41 : c + 1 < 2 ^ 40 := by omega
      have c42 : c + 2 < 2 ^ 40 := by omega
      have q0 := a4_0 (u := .ref L.r) (v := .ref L.e) (x := .ref L.c) (y := .ref L.m)
      have q1 := a4_1 (u := .ref L.r) (v := .ref L.e) (x := .ref L.c) (y := .ref L.m)
      have q2 := a4_2 (u := .ref L.r) (v := .ref L.e) (x := .ref L.c) (y := .ref L.m)
      have q3 := a4_3 (u := .ref L.r) (v := .ref L.e) (x := .ref L.c) (y := .ref L.m)
      walk_at "rd"
      rw [show [V.int ra, V.int rb].set (Int.toNat 0) ((fun i j => V.int (i - j)) ra 1) = [V.int (ra - 1), V.int rb] from rfl]
      generalize upd G rm (.lst [.int (ra - 1), .int rb]) = G1 at I2 wr wq po2 ⊢
      have fin : ∀ (h : Hd) (ws : List Str) (F : Hp) (l : Addr) (b' : Int) (c' : Nat), GI H F p rm L W C (ra - 1) b' c' → c' ≤ c + 4 → F l = none → hdrs h = [ws] → HdW n 0 h → gH W C h → ((if (calleeN W.N (.mk h [])).isSome = true then 1 else 0) + b'.toNat ≤ rb.toNat) → b' ≤ rb → Q (.ref l) (upd F l (.lst [.str (lineS n ws)])) :=
        fun h ws F l b' c' J hc' hl eh hw hg ho hb => k _ l (.mk h []) (ra - 1) b' c' (J.new hl) (by omega) (J.free hl) (by rw [upd_same, line_leaf eh]) (.leaf hw hg ho hb)
      refine ite2 (fun c0 => ?_) (fun c0 => ?_)
      · walk_at "rd"
        intro l0 hl0
        have I3 := I2.new (o := .lst [.str "pass", .str "doom"]) hl0
        have e3 := upd_same (H := G1) (a := l0) (o := .lst [.str "pass", .str "doom"])
        generalize upd G1 l0 (.lst [.str "pass", .str "doom"]) = G2 at I3 e3 ⊢
        obtain ⟨o3, po3, ho3⟩ := I3.po
        walk_at "rd"
        intro r4 o4 r40 r41 ho4
        have I4 := I3.draw ho4
        have e4 : (upd G2 p o4) l0 = some (.lst [.str "pass", .str "doom"]) := upd_oth (fun e => by rw [e, po3] at e3; cases e3; exact ho3.no2 rfl) e3
        generalize upd G2 p o4 = G3 at I4 e4 ⊢
        obtain ⟨w4, hw4, at4⟩ : ∃ w4 : Str, w4 ∈ (["pass", "doom"] : List Str) ∧ atI [V.str "pass", .str "doom"] r4 = some (.str w4) := by
          rcases (show r4 = 0 ∨ r4 = 1 by omega) with rfl | rfl
          · exact ⟨_, p_in, a2_0⟩
          · exact ⟨_, d_in, a2_1⟩
        walk_at "rd"
        intro l1 hl1
        have J := I4.new (o := .lst [.str w4]) hl1
        have ej := upd_same (H := G3) (a := l1) (o := .lst [.str w4])
        generalize upd G3 l1 (.lst [.str w4]) = F1 at J ej ⊢
        refine ⟨n, l1, [w4], rfl, n8, ej, by simp, (fun z hz => by rw [List.mem_singleton.mp hz]; exact two_word hw4), ?_⟩
        walk_at "rd"
        intro l hl
        exact fin (.sim w4) [w4] F1 l rb _ J (by omega) hl rfl ⟨hw4, rfl⟩ trivial (Nat.le_of_eq (Nat.zero_add _)) (Int.le_refl _)
      · walk_at "rd"
        refine ite2 (fun c1 => ?_) (fun c1 => ?_)
        · walk_at "rd"
          refine ⟨wk.rn.1, by have := wk.rn.2; omega, fun w5 o5 hw5 ho5 => ?_⟩
          have I5 := I2.draw ho5
          have iw5 := wk.rw_ _ hw5
          generalize upd G1 p o5 = G5 at I5 ⊢
          walk_at "rd"
          intro l1 hl1
          have J := I5.new (o := .lst [.str "write", .str w5]) hl1
          have ej := upd_same (H := G5) (a := l1) (o := .lst [.str "write", .str w5])
          generalize upd G5 l1 (.lst [.str "write", .str w5]) = F1 at J ej ⊢
          refine ⟨n, l1, ["write", w5], rfl, n8, ej, by simp, (fun z hz => by
                      rcases List.mem_cons.mp hz with rfl | hz
                      · exact three_word wr_in
                      · rw [List.mem_singleton.mp hz]; exact iw5), ?_⟩
          walk_at "rd"
          intro l hl
          exact fin (.one "write" w5) ["write", w5] F1 l rb _ J (by omega) hl rfl ⟨wr_in, iw5, rfl⟩ ⟨fun _ => hw5, fun e => absurd e (by decide +kernel), fun e => absurd e (by decide +kernel)⟩ (by rw [callee_no (by show ¬ (Str.ofString _ = Str.ofString "call"); decide +kernel)]; simp) (Int.le_refl _)
        · walk_at "rd"
          have we := I2.wd.e_
          refine ite2 (fun c2 => ?_) (fun c2 => ?_)
          · walk_at "rd"
            refine ⟨wk.en.1, by have := wk.en.2; omega, fun w5 o5 hw5 ho5 => ?_⟩
            have I5 := I2.draw ho5
            have iw5 := wk.ew _ hw5
            generalize upd G1 p o5 = G5 at I5 ⊢
            walk_at "rd"
            intro l1 hl1
            have J := I5.new (o := .lst [.str "raise", .str w5]) hl1
            have ej := upd_same (H := G5) (a := l1) (o := .lst [.str "raise", .str w5])
            generalize upd G5 l1 (.lst [.str "raise", .str w5]) = F1 at J ej ⊢
            refine ⟨n, l1, ["raise", w5], rfl, n8, ej, by simp, (fun z hz => by
                          rcases List.mem_cons.mp hz with rfl | hz
                          · exact three_word r_in
                          · rw [List.mem_singleton.mp hz]; exact iw5), ?_⟩
            walk_at "rd"
            intro l hl
            exact fin (.one "raise" w5) ["raise", w5] F1 l rb _ J (by omega) hl rfl ⟨r_in, iw5, rfl⟩ ⟨fun e => absurd e (by decide +kernel), fun _ => hw5, fun e => absurd e (by decide +kernel)⟩ (by rw [callee_no (by show ¬ (Str.ofString _ = Str.ofString "call"); decide +kernel)]; simp) (Int.le_refl _)
          · have e3 : s1 ≠ 3 := fun e => c2 (decide_eq_true (by rw [e]; rfl))
            walk_at "rd"
            have wc := I2.wd.c_
            have wm := I2.wd.m_
            refine ite2 (fun c3 => ?_) (fun c3 => ?_)
            · walk_at "rd"
              refine ⟨wk.cn.1, by have := wk.cn.2; omega, fun w5 o5 hw5 ho5 => ?_⟩
              have I5 := I2.draw ho5
              have iw5 := wk.cw _ hw5
              have wm5 := I5.wd.m_
              have wq5 := I5.wd.q_
              have rm5 := I5.rm_
              generalize upd G1 p o5 = G5 at I5 wm5 wq5 rm5 ⊢
              walk_at "rd"
              refine ⟨flat_strs, _, rfl, ?_⟩
              rw [show (if false = true then !inV (V.str w5) (W.N.map V.str) else inV (V.str w5) (W.N.map V.str)) = decide (w5 ∈ W.N) from inStr _ _]
              refine ite2 (fun c4 => ?_) (fun c4 => ?_)
              · have c4 := of_decide_eq_true c4
                have I6 := I5.room (a' := ra - 1) (b' := rb - 1)
                have b1 := a2_1 (u := .int (ra - 1)) (v := .int rb)
                have b2 := a2_1 (u := .int (ra - 1)) (v := .int (rb - 1))
                have rm6 := I6.rm_
                have wr6 := I6.wd.r_
                have wq6 := I6.wd.q_
                obtain ⟨o6, po6, ho6⟩ := I6.po
                have c43 : c + 1 + 1 < 2 ^ 40 := by omega
                walk_at "rd"
                rw [show [V.int (ra - 1), V.int rb].set (Int.toNat 1) ((fun i j => V.int (i - j)) rb 1) = [V.int (ra - 1), V.int (rb - 1)] from rfl]
                generalize upd G5 rm (.lst [.int (ra - 1), .int (rb - 1)]) = G6 at I6 rm6 wr6 wq6 po6 ⊢
                walk_at "rd"
                refine ite2 (fun c5 => ?_) (fun c5 => ?_)
                · walk_at "rd"
                  refine ⟨wk.rn.1, by have := wk.rn.2; omega, fun w7 o7 hw7 ho7 => ?_⟩
                  have I7 := I6.draw ho7
                  have iw7 := wk.rw_ _ hw7
                  generalize upd G6 p o7 = G7 at I7 ⊢
                  walk_at "rd"
                  intro l1 hl1
                  have J := I7.new (o := .lst [.str "write", .str w7]) hl1
                  have ej := upd_same (H := G7) (a := l1) (o := .lst [.str "write", .str w7])
                  generalize upd G7 l1 (.lst [.str "write", .str w7]) = F1 at J ej ⊢
                  refine ⟨n, l1, ["write", w7], rfl, n8, ej, by simp, (fun z hz => by
                                      rcases List.mem_cons.mp hz with rfl | hz
                                      · exact three_word wr_in
                                      · rw [List.mem_singleton.mp hz]; exact iw7), ?_⟩
                  walk_at "rd"
                  intro l hl
                  exact fin (.one "write" w7) ["write", w7] F1 l (rb - 1) _ J (by omega) hl rfl ⟨wr_in, iw7, rfl⟩ ⟨fun _ => hw7, fun e => absurd e (by decide +kernel), fun e => absurd e (by decide +kernel)⟩ (by rw [callee_no (by show ¬ (Str.ofString _ = Str.ofString "call"); decide +kernel)]; show 0 + (rb - 1).toNat ≤ rb.toNat; omega) (by omega)
                · have p5 : ¬ (rb - 1 < 0) := fun z => c5 (decide_eq_true z)
                  walk_at "rd"
                  intro l1 hl1
                  have J := I6.new (o := .lst [.str "call", .str w5]) hl1
                  have ej := upd_same (H := G6) (a := l1) (o := .lst [.str "call", .str w5])
                  generalize upd G6 l1 (.lst [.str "call", .str w5]) = F1 at J ej ⊢
                  refine ⟨n, l1, ["call", w5], rfl, n8, ej, by simp, (fun z hz => by
                                      rcases List.mem_cons.mp hz with rfl | hz
                                      · exact three_word c_in
                                      · rw [List.mem_singleton.mp hz]; exact iw5), ?_⟩
                  walk_at "rd"
                  intro l hl
                  exact fin (.one "call" w5) ["call", w5] F1 l (rb - 1) _ J (by omega) hl rfl ⟨c_in, iw5, rfl⟩ ⟨fun e => absurd e (by decide +kernel), fun e => absurd e (by decide +kernel), fun _ => hw5⟩ (by split <;> omega) (by omega)
              · have c4 : w5 ∉ W.N := fun z => c4 (decide_eq_true z)
                walk_at "rd"
                intro l1 hl1
                have J := I5.new (o := .lst [.str "call", .str w5]) hl1
                have ej := upd_same (H := G5) (a := l1) (o := .lst [.str "call", .str w5])
                generalize upd G5 l1 (.lst [.str "call", .str w5]) = F1 at J ej ⊢
                refine ⟨n, l1, ["call", w5], rfl, n8, ej, by simp, (fun z hz => by
                                  rcases List.mem_cons.mp hz with rfl | hz
                                  · exact three_word c_in
                                  · rw [List.mem_singleton.mp hz]; exact iw5), ?_⟩
                walk_at "rd"
                intro l hl
                exact fin (.one "call" w5) ["call", w5] F1 l rb _ J (by omega) hl rfl ⟨c_in, iw5, rfl⟩ ⟨fun e => absurd e (by decide +kernel), fun e => absurd e (by decide +kernel), fun _ => hw5⟩ (by rw [show calleeN W.N (.mk (.one "call" w5) []) = none from if_neg fun z => c4 z.2]; simp) (Int.le_refl _)
            · have p6 : ¬ ((s1 : Int) < 6) := fun z => c3 (decide_eq_true z)
              have e6 : 6 ≤ s1 := by omega
              obtain ⟨lt8, pa⟩ := h6 e6
              walk_at "rd"
              have lv : ∀ {S : List Str} {F : Hp} {x : Addr}, S.length ≤ 1000 → (S.map V.str).length < sizeLine := fun {S F x} h => by rw [List.length_map, sizeLine_eq]; omega
              refine ite2 (fun c4 => ?_) (fun c4 => ?_)
              · walk_at "rd"
                intro l0 hl0
                have I3 := I2.new (o := .lst [.str "join", .str "inner", .str "apart", .str "must", .str "either", .str "never", .str "outside", .str "alone"]) hl0
                have e3 : (upd G1 l0 (.lst [.str "join", .str "inner", .str "apart", .str "must", .str "either", .str "never", .str "outside", .str "alone"])) l0 = some (.lst ((["join", "inner", "apart", "must", "either", "never", "outside", "alone"] : List Str).map V.str)) := upd_same
                generalize upd G1 l0 (.lst [.str "join", .str "inner", .str "apart", .str "must", .str "either", .str "never", .str "outside", .str "alone"]) = G2 at I3 e3 ⊢
                obtain ⟨o3, po3, ho3⟩ := I3.po
                walk_at "rd"
                intro m4 o4 hm4 ho4
                have im4 : modeS m4 = true := decide_eq_true hm4
                have I4 := I3.draw ho4
                generalize upd G2 p o4 = G4 at I4 ⊢
                obtain ⟨o4', po4, ho4'⟩ := I4.po
                have c43 : c + 1 + 1 < 2 ^ 40 := by omega
                walk_at "rd"
                intro r6 o6 r60 r61 ho6
                obtain ⟨m6, rfl⟩ := Int.eq_ofNat_of_zero_le r60
                have I6 := I4.draw ho6
                generalize upd G4 p o6 = G6 at I6 ⊢
                walk_at "rd"
                intro D hD
                refine lc_range (fun j F => ∃ (ks : List Str), ks.length = j ∧ (∀ z ∈ ks, z ∈ W.E) ∧ GI G6 F p rm L W C (ra - 1) rb (c + 1 + 1 + 1 + j) ∧ F D = some (.lst (ks.map V.str))) ?_ ?_ ?_
                · exact ⟨[], rfl, (fun z hz => nomatch hz), (I6.here_).new hD, upd_same⟩
                · rintro j F hj ⟨ks, lk, hk, IF, hF⟩
                  have hj : j < m6 := hj
                  refine ⟨rfl, ?_⟩
                  obtain ⟨oF, poF, hoF⟩ := IF.po
                  have wqF := IF.wd.q_
                  have weF := IF.wd.e_
                  have cF : c + 1 + 1 + 1 + j < 2 ^ 40 := by omega
                  walk_at "rd"
                  refine ⟨wk.en.1, by have := wk.en.2; omega, fun w7 o7 hw7 ho7 => ?_⟩
                  have nD : D ≠ p := fun e => IF.nes hF (.inl e)
                  refine ⟨_, upd_oth nD hF, by rw [List.length_map, sizeLine_eq]; omega, ks ++ [w7], by rw [List.length_append, lk]; rfl, ?_, (I6.here_).own ((IF.draw ho7)) hD, by rw [upd_same, List.map_append]; rfl⟩
                  intro z hz
                  rcases List.mem_append.mp hz with hz | hz
                  · exact hk z hz
                  · rw [List.mem_singleton.mp hz]; exact hw7
                · rintro F ⟨ks, lk, hk, IF, hF⟩
                  have lk : ks.length = m6 := lk
                  have IF := I6.back IF
                  refine ⟨fun σ' G' => ∃ (_ : Unit) (l9 : Addr), σ' = [some (.ref p), some (.int (n : Int)), some (.ref L.q), some (.ref rm), some (.int (s1 : Int)), none, some (.str m4), some (.ref l9), none, none, none] ∧ GI H G' p rm L W C (ra - 1) rb (c + 1 + 1 + 1 + m6) ∧ G' l9 = some (.lst ((if ks = [] then [] else (Str.ofString "keep") :: ks).map V.str)), ?_, ?_⟩
                  · walk_at "rd"
                    intro l8 hl8
                    have IG := IF.new (o := .lst []) hl8
                    have hG := upd_old (o := .lst []) hF hl8
                    have h8 := upd_same (H := F) (a := l8) (o := .lst [])
                    generalize upd F l8 (.lst []) = F2 at IG hG h8 ⊢
                    refine ⟨D, l8, ks.map V.str, rfl, rfl, SqL.of hG, SqL.of h8, _, rfl, ?_⟩
                    refine ite2 (fun c5 => ?_) (fun c5 => ?_)
                    · have nk : ks ≠ [] := fun e => by rw [e] at c5; cases c5
                      walk_at "rd"
                      intro l9 hl9
                      have IH := IG.new (o := .lst [.str "keep"]) hl9
                      have hH := upd_old (o := .lst [.str "keep"]) hG hl9
                      have h9 := upd_same (H := F2) (a := l9) (o := .lst [.str "keep"])
                      generalize upd F2 l9 (.lst [.str "keep"]) = F3 at IH hH h9 ⊢
                      walk_at "rd"
                      refine ⟨by rw [List.length_map, sizeLine_eq]; simp only [List.length_cons, List.length_nil]; omega, fun l10 hl10 => ?_⟩
                      exact ⟨(), l10, rfl, IH.new hl10, by rw [upd_same, if_neg nk]; rfl⟩
                    · have nk : ks = [] := by
                        cases ks with
                        | nil => rfl
                        | cons => exact absurd rfl c5
                      walk_at "rd"
                      intro l10 hl10
                      exact ⟨(), l10, rfl, IG.new hl10, by rw [upd_same, if_pos nk]; rfl⟩
                  · rintro σ' G' ⟨_, l9, rfl, J9, h9⟩
                    have ikw : ∀ z ∈ (if ks = [] then [] else (Str.ofString "keep") :: ks), IsWord z := fun z hz => by
                      split at hz
                      · cases hz
                      · rcases List.mem_cons.mp hz with rfl | hz
                        · exact wd_keep
                        · exact wk.ew z (hk z hz)
                    have lkw : (if ks = [] then [] else (Str.ofString "keep") :: ks).length ≤ 3 := by
                      split
                      · exact Nat.zero_le _
                      · rw [List.length_cons]; omega
                    have hdr : hdrs (.blk 0 m4 ks) = [(Str.ofString "block") :: m4 :: (if ks = [] then [] else (Str.ofString "keep") :: ks)] := rfl
                    generalize hkw : (if ks = [] then [] else (Str.ofString "keep") :: ks) = kw at h9 ikw lkw hdr
                    walk_at "rd"
                    intro l11 hl11
                    have J11 := J9.new (o := .lst [.str "block", .str m4]) hl11
                    have h11' := upd_old (o := .lst [.str "block", .str m4]) h9 hl11
                    have e11 := upd_same (H := G') (a := l11) (o := .lst [.str "block", .str m4])
                    generalize upd G' l11 (.lst [.str "block", .str m4]) = G11 at J11 h11' e11 ⊢
                    walk_at "rd"
                    refine ⟨by rw [List.length_map, sizeLine_eq]; simp only [List.length_cons, List.length_nil]; omega, fun l12 hl12 => ?_⟩
                    have J12 := J11.new (o := .lst ([.str "block", .str m4] ++ kw.map V.str)) hl12
                    have e12 : (upd G11 l12 (.lst ([.str "block", .str m4] ++ kw.map V.str))) l12 = some (.lst (((Str.ofString "block") :: m4 :: kw).map V.str)) := upd_same
                    generalize upd G11 l12 (.lst ([.str "block", .str m4] ++ kw.map V.str)) = G12 at J12 e12 ⊢
                    refine ⟨n, l12, (Str.ofString "block") :: m4 :: kw, rfl, n8, e12, by simp only [List.length_cons]; omega, fun z hz => ?_, ?_⟩
                    · rcases List.mem_cons.mp hz with rfl | hz
                      · exact wd_block
                      rcases List.mem_cons.mp hz with rfl | hz
                      · exact mode_word im4
                      · exact ikw z hz
                    · walk_at "rd"
                      intro l13 hl13
                      have J13 := J12.new (o := .lst [.str (lineS n ((Str.ofString "block") :: m4 :: kw))]) hl13
                      have e13 := upd_same (H := G12) (a := l13) (o := .lst [.str (lineS n ((Str.ofString "block") :: m4 :: kw))])
                      generalize upd G12 l13 (.lst [.str (lineS n ((Str.ofString "block") :: m4 :: kw))]) = G13 at J13 e13 ⊢
                      walk_at "rd"
                      refine ⟨(), p, rm, L, n + 1, W, C, ra - 1, rb, c + 1 + 1 + 1 + m6, rfl, by omega, by omega, by omega, J13.here_, wk, by omega, by omega, by omega, fun H' l bd a' b' c' J hc' hl hrw B => ?_⟩
                      have I7 := J13.back J
                      have e14 := J.k _ _ e13 (J13.nes (S := [_]) e13)
                      have lB := B.len (by omega) (n + 1)
                      walk_at "rd"
                      refine ⟨by unfold strsR; rw [List.length_map, List.length_map, sizeLine_eq]; simp only [List.length_cons, List.length_nil]; omega, fun l14 hl14 => ?_⟩
                      exact k _ l14 (.mk (.blk 0 m4 ks) [bd]) a' b' c' (I7.new hl14) (by omega) (I7.free hl14) (by rw [upd_same, line_one hdr]; rfl) (.mk_ ⟨im4, fun z hz => wk.ew z (hk z hz), rfl, lt8⟩ ⟨hk, by omega⟩ (by show ¬ (Str.ofString _ = Str.ofString "call"); decide +kernel) (by simp) (by simp) pa ((GH.nil W C (n + 1) (ra - 1) rb).snoc B))
              · walk_at "rd"
                refine ite2 (fun c5 => ?_) (fun c5 => ?_)
                · walk_at "rd"
                  refine ⟨by rw [List.length_map, List.length_map, sizeLine_eq]; have := wk.nn; omega, fun l1 hl1 => ?_⟩
                  have I3 := I2.new (o := .lst (C.map V.str ++ W.N.map V.str)) hl1
                  have e3 := upd_same (H := G1) (a := l1) (o := .lst (C.map V.str ++ W.N.map V.str))
                  generalize upd G1 l1 (.lst (C.map V.str ++ W.N.map V.str)) = G2 at I3 e3 ⊢
                  rw [← List.map_append] at e3
                  have wq3 := I3.wd.q_
                  walk_at "rd"
                  intro l2 hl2
                  have I4 := I3.new (o := .lst [.ref L.r, .ref L.e, .ref l1, .ref L.m]) hl2
                  have e4 := upd_old (o := .lst [.ref L.r, .ref L.e, .ref l1, .ref L.m]) e3 hl2
                  have q4 := upd_same (H := G2) (a := l2) (o := .lst [.ref L.r, .ref L.e, .ref l1, .ref L.m])
                  generalize upd G2 l2 (.lst [.ref L.r, .ref L.e, .ref l1, .ref L.m]) = G3 at I4 e4 q4 ⊢
                  have I5 : GI G3 G3 p rm ⟨l2, L.r, L.e, l1, L.m⟩ W (C ++ W.N) (ra - 1) rb (c + 1) := I4.here_.words ⟨q4, I4.wd.r_, I4.wd.e_, e4, I4.wd.m_⟩
                  have lCN : (C ++ W.N).length ≤ 20 + 20 * (n + 1) := by rw [List.length_append]; have := wk.nn; omega
                  have wk5 : WdOk W (C ++ W.N) := ⟨wk.rw_, wk.ew, fun z hz => (List.mem_append.mp hz).elim (wk.cw z) (wk.nw z), wk.nw, wk.rn, wk.en, ⟨fun e => wk.cn.1 (List.append_eq_nil_iff.mp e).1, by omega⟩, wk.nn⟩
                  walk_at "rd"
                  refine ⟨(), p, rm, ⟨l2, L.r, L.e, l1, L.m⟩, n + 1, W, C ++ W.N, ra - 1, rb, c + 1, rfl, by omega, by omega, by omega, I5, wk5, lCN, by omega, by omega, fun H' l bd a' b' c' J hc' hl hrw B => ?_⟩
                  have I6 := I4.back J
                  have lB := B.len (by omega) (n + 1)
                  walk_at "rd"
                  intro l3 hl3
                  have I7 := I6.new (o := .lst [.str "maybe", .str "repeat"]) hl3
                  have h7 := upd_old (o := .lst [.str "maybe", .str "repeat"]) hrw hl3
                  have e7 := upd_same (H := H') (a := l3) (o := .lst [.str "maybe", .str "repeat"])
                  generalize upd H' l3 (.lst [.str "maybe", .str "repeat"]) = F7 at I7 h7 e7 ⊢
                  have ge8 : ¬ ((s1 : Int) < 8) := fun z => c4 (decide_eq_true z)
                  have lt10 : (s1 : Int) < 10 := of_decide_eq_true c5
                  obtain ⟨w8, hw8, at8⟩ : ∃ w8 : Str, w8 ∈ (["maybe", "repeat"] : List Str) ∧ atI [V.str "maybe", .str "repeat"] ((s1 : Int) - 8) = some (.str w8) := by
                    rcases (show (s1 : Int) - 8 = 0 ∨ (s1 : Int) - 8 = 1 by omega) with e | e
                    · rw [e]; exact ⟨_, m_in, a2_0⟩
                    · rw [e]; exact ⟨_, rp_in, a2_1⟩
                  walk_at "rd"
                  intro l4 hl4
                  have I8 := I7.new (o := .lst [.str w8]) hl4
                  have h8 := upd_old (o := .lst [.str w8]) h7 hl4
                  have e8 := upd_same (H := F7) (a := l4) (o := .lst [.str w8])
                  generalize upd F7 l4 (.lst [.str w8]) = F8 at I8 h8 e8 ⊢
                  refine ⟨n, l4, [w8], rfl, n8, e8, by simp, (fun z hz => by rw [List.mem_singleton.mp hz]; exact gua_word hw8), ?_⟩
                  walk_at "rd"
                  intro l5 hl5
                  have I9 := I8.new (o := .lst [.str (lineS n [w8])]) hl5
                  have h9 := upd_old (o := .lst [.str (lineS n [w8])]) h8 hl5
                  have e9 := upd_same (H := F8) (a := l5) (o := .lst [.str (lineS n [w8])])
                  generalize upd F8 l5 (.lst [.str (lineS n [w8])]) = F9 at I9 h9 e9 ⊢
                  walk_at "rd"
                  refine ⟨by unfold strsR; rw [List.length_map, List.length_map, sizeLine_eq]; simp only [List.length_cons, List.length_nil]; omega, fun l14 hl14 => ?_⟩
                  exact k _ l14 (.mk (.gua w8) [bd]) a' b' c' (I9.new hl14) (by omega) (I9.free hl14) (by rw [upd_same, line_one (ws := [w8]) rfl]; rfl) (.mk_ ⟨hw8, rfl, lt8⟩ trivial (gua_nc hw8) (by simp) (by simp) pa ((GH.nil W (C ++ W.N) (n + 1) (ra - 1) rb).snoc B))
                · walk_at "rd"
                  refine ⟨(), p, rm, L, n, W, C, ra - 1, rb, c + 1, rfl, by omega, n1, by omega, I2.here_, wk, lC, by omega, by omega, fun H' l ws fin ps a' b' c' J hc' hl hrw hw hg G n4 => ?_⟩
                  have np : ps ≠ [] := fun e => by rw [e] at hw; have := hw.2.1; simp at this; omega
                  exact k H' l (.mk (.tr ws fin) ps) a' b' c' (I2.back J) (by omega) (I2.free hl) (by rw [rowsS]; exact hrw) (.mk_ hw hg (by show ¬ (Str.ofString _ = Str.ofString "call"); decide +kernel) np n4 pa G)
/-! ### _law_try -/
def hdrE (w : Option (List Str)) : List Str := (Str.ofString "except") :: w.getD []
theorem rowsP_snoc {n : Nat} {h : List Str} {b : List Stm} : ∀ {hs : List (List Str)} {ps : List (List Stm)}, hs.length = ps.length → rowsP n (hs ++ [h]) (ps ++ [b]) = rowsP n hs ps ++ (some (n, h) :: rowsB (n + 1) b)
  | [], [], _ => by
    show rowsP n [h] [b] = rowsP n [] [] ++ _
    simp [rowsP, topR]
  | x :: hs, [], e => by cases e
  | [], c :: ps, e => by cases e
  | x :: hs, c :: ps, e => by
    rw [List.cons_append, List.cons_append, rowsP, rowsP]
    simp only [List.tail_cons, topR, List.append_assoc]
    rw [rowsP_snoc (by simpa using e)]
theorem rowsP_cons {n : Nat} {x : List Str} {hs : List (List Str)} {c : List Stm} {ps : List (List Stm)} : rowsP n (x :: hs) (c :: ps) = some (n, x) :: (rowsB (n + 1) c ++ rowsP n hs ps) := by
  rw [rowsP]; simp [topR]
theorem hdrs_tr (ws : List (Option (List Str))) (fin : Bool) : hdrs (.tr ws fin) = [(Str.ofString "try")] :: (ws.map hdrE ++ (if fin = true then [[(Str.ofString "finally")]] else [])) := rfl
/-- the handlers so far; many in all -/
structure HdI (W : Wds) (many : Nat) (ws : List (Option (List Str))) : Prop where
  ba : ∀ i, ws[i]? = some none → i + 1 = many
  wd : ∀ l, some l ∈ ws → l ≠ [] ∧ (∀ w ∈ l, w ∈ W.E) ∧ l.length ≤ 2
theorem HdI.snoc {W : Wds} {many : Nat} {ws : List (Option (List Str))} {o : Option (List Str)} (h : HdI W many ws) (h1 : o = none → ws.length + 1 = many) (h2 : ∀ l, o = some l → l ≠ [] ∧ (∀ w ∈ l, w ∈ W.E) ∧ l.length ≤ 2) : HdI W many (ws ++ [o]) := by
  refine ⟨fun i e => ?_, fun l hl => ?_⟩
  · rw [List.getElem?_append] at e
    split at e
    · exact h.ba i e
    · rename_i c
      cases q : i - ws.length with
      | zero =>
        rw [q] at e
        cases e
        have := h1 rfl
        omega
      | succ j => rw [q] at e; simp at e
  · rcases List.mem_append.mp hl with hl | hl
    · exact h.wd l hl
    · exact h2 l (List.mem_singleton.mp hl).symm
theorem GH.len {W : Wds} {C : List Str} {n : Nat} {ra rb ra' rb' : Int} {ps : List (List Stm)} (P : GH W C n ra rb ra' rb' ps) (h : ra ≤ 1000) (l : ps.length ≤ 4) (hs : List (List Str)) (e : hs.length = ps.length) (m : Nat) : (rowsP m hs ps).length ≤ 20000 := by
  have h1 := P.c6
  have h2 := P.ln
  rw [rowsP_len n m hs ps P.wf e]
  omega
theorem ok_law_try (T : Txt K mg a d) (r : Nat) (G_law_body : FnOk P w K mg base CX0 (4 * r + 4) a.law_body d.law_body ["_law_pool_here", "_law_nesting", "_law_words", "_law_room"] (spGBd r)) : FnOk P w K mg base CX0 (4 * r + 5) a.law_try d.law_try ["_law_pool_here", "_law_nesting", "_law_words", "_law_room"] (spGTr r) := by
  have G_law_draw : FnOk P w K mg base CX0 1 a.law_draw d.law_draw ["_law_pool_here", "_law_many"] spDraw := ok_law_draw T
  have G_law_pick : FnOk P w K mg base CX0 2 a.law_pick d.law_pick ["_law_pool_here", "_law_some"] spPick := ok_law_pick T
  have G_law_row : FnOk P w K mg base CX0 1 a.law_row d.law_row ["_law_nesting", "_law_words"] spRow := ok_law_row T
  refine T.law_try.ok sc_law_try (fun vs H Q E h => ?_) (fun cdv A outer s H vs Q E hr h => ?_)
  · obtain ⟨_, p, rm, L, n, W, C, ra, rb, c, rfl, _⟩ := h
    rfl
  · obtain ⟨_, p, rm, L, n, W, C, ra, rb, c, rfl, hr9, n1, n7, I, wk, lC, hc, ha, k⟩ := h
    refine ⟨_, (C8.pss_cut (ps_set (i := 4) sc_law_try.nd rfl (Or.inl rfl) (pe_op op_cat (pe_lst (pa_cons (pe_call G_law_row (hr.mono (by omega)) (by rfl) T.g_law_row T.law_row.kp T.b_law_row .nil pass0 (pa_cons (pv 1) (pa_cons (pe_lst (pa_cons pe_str pa_nil)) pa_nil))) pa_nil)) (pe_call G_law_body (hr.mono (by omega)) (by rfl) T.g_law_body T.law_body.kp T.b_law_body .nil pass0 (pa_cons (pv 0) (pa_cons (pe_op op_add (pv 1) pe_int) (pa_cons (pv 2) (pa_cons (pv 3) pa_nil)))))))
  (pss_cons (ps_par (i := 5) (j := 6) rfl sc_law_try.nd rfl rfl (by decide) rfl rfl (pa_cons (pe_call G_law_draw (hr.mono (by omega)) (by rfl) T.g_law_draw T.law_draw.kp T.b_law_draw .nil pass0 (pa_cons (pv 0) (pa_cons pe_int pa_nil))) (pa_cons (pe_cmpR op_eq (pe_call G_law_draw (hr.mono (by omega)) (by rfl) T.g_law_draw T.law_draw.kp T.b_law_draw .nil pass0 (pa_cons (pv 0) (pa_cons pe_int pa_nil))) pe_int (nomark _)) pa_nil)) (by rfl))
  (C8.pss_cut (ps_for PassesOwn.never rfl (pi_range1 (by rfl) T.n_range (pa_cons (pv 5) pa_nil)) (pg_name (i := 7) sc_law_try.nd rfl (Or.inl rfl))
  (pss_cons (ps_setLc (i := 8) (own := [("_law_more", 9)]) (tt := tYes) rfl sc_law_try.nd rfl rfl (sw_true rfl rfl rfl (by decide +kernel)) (pi_range1 (by rfl) T.n_range (pa_cons (pe_op op_add pe_int (pe_call G_law_draw (hr.mono (by omega)) (by rfl) T.g_law_draw T.law_draw.kp T.b_law_draw .nil pass0 (pa_cons (pv 0) (pa_cons pe_int pa_nil)))) pa_nil)) (blkOk_by (own := [("_law_more", 9)]) (N := ["_law_pool_here", "_law_nesting", "_law_words", "_law_room", "_law_rows", "_law_many", "_law_is_final", "_law_k", "_law_listed", "_law_more"]) (sc := defScope s_law_try) (by decide +kernel)) (fun _ _ _ _ _ => (pg_name (i := 9) sc_law_try.nd rfl (Or.inl rfl))) (fun _ _ _ _ _ => pts_nil) (fun _ _ _ _ _ => (pe_call G_law_pick (hr.mono (by omega)) (by rfl) T.g_law_pick T.law_pick.kp T.b_law_pick .nil pass0 (pa_cons (pv 0) (pa_cons (pe_ix (ix_listK (K := K) rfl) (pv 2) pe_int (fun _ _ => rfl)) pa_nil)))))
  (C8.pss_cut (ps_if (PW.pt (pw_and (pt_cmpR op_eq (pv 7) (pe_op op_sub (pv 5) pe_int) (nomark _)) (pw_and1 (pt_cmpR op_eq (pe_call G_law_draw (hr.mono (by omega)) (by rfl) T.g_law_draw T.law_draw.kp T.b_law_draw .nil pass0 (pa_cons (pv 0) (pa_cons pe_int pa_nil))) pe_int (nomark _))))) (pss_one (ps_set (i := 8) sc_law_try.nd rfl (Or.inl rfl) (pe_lst pa_nil))) pss_nil)
  (pss_one (ps_set (i := 4) sc_law_try.nd rfl (Or.inl rfl) (pe_op op_cat (pe_op op_cat (pv 4) (pe_lst (pa_cons (pe_call G_law_row (hr.mono (by omega)) (by rfl) T.g_law_row T.law_row.kp T.b_law_row .nil pass0 (pa_cons (pv 1) (pa_cons (pe_op op_cat (pe_lst (pa_cons pe_str pa_nil)) (pv 8)) pa_nil))) pa_nil))) (pe_call G_law_body (hr.mono (by omega)) (by rfl) T.g_law_body T.law_body.kp T.b_law_body .nil pass0 (pa_cons (pv 0) (pa_cons (pe_op op_add (pv 1) pe_int) (pa_cons (pv 2) (pa_cons (pv 3) pa_nil)))))))))))
  (pss_cons (ps_if (PW.pt (pw_or (pt_cmpR op_eq (pv 5) pe_int (nomark _)) (pw_or1 (pt_val (pv 6))))) (pss_one (ps_set (i := 4) sc_law_try.nd rfl (Or.inl rfl) (pe_op op_cat (pe_op op_cat (pv 4) (pe_lst (pa_cons (pe_call G_law_row (hr.mono (by omega)) (by rfl) T.g_law_row T.law_row.kp T.b_law_row .nil pass0 (pa_cons (pv 1) (pa_cons (pe_lst (pa_cons pe_str pa_nil)) pa_nil))) pa_nil))) (pe_call G_law_body (hr.mono (by omega)) (by rfl) T.g_law_body T.law_body.kp T.b_law_body .nil pass0 (pa_cons (pv 0) (pa_cons (pe_op op_add (pv 1) pe_int) (pa_cons (pv 2) (pa_cons (pv 3) pa_nil)))))))) pss_nil)
  (pss_one (ps_ret (pv 4))))))), ?_⟩
    try dsimp only [cxOf]
    have q1 := a4_1 (u := .ref L.r) (v := .ref L.e) (x := .ref L.c) (y := .ref L.m)
    refine ⟨fun σ' G => ∃ (_ : Unit) (l : Addr) (bd : List Stm) (a' b' : Int) (c' : Nat), σ' = [some (.ref p), some (.int (n : Int)), some (.ref L.q), some (.ref rm), some (.ref l), none, none, none, none, none] ∧ GI H G p rm L W C a' b' c' ∧ c' + 1000 * a'.toNat ≤ c + 1000 * ra.toNat + 100 ∧
      G l = some (.lst (strsR (some (n, [(Str.ofString "try")]) :: rowsB (n + 1) bd))) ∧ GBd W C (n + 1) ra rb a' b' bd ∧ H l = none, ?_, ?_⟩
    · walk_at "rd"
      intro l1 hl1
      have I1 := I.new (o := .lst [.str "try"]) hl1
      have e1 := upd_same (H := H) (a := l1) (o := .lst [.str "try"])
      generalize upd H l1 (.lst [.str "try"]) = G1 at I1 e1 ⊢
      refine ⟨n, l1, ["try"], rfl, by omega, e1, by simp, (fun z hz => by rw [List.mem_singleton.mp hz]; exact wd_try), ?_⟩
      walk_at "rd"
      intro l2 hl2
      have I2 := I1.new (o := .lst [.str (lineS n ["try"])]) hl2
      have e2 := upd_same (H := G1) (a := l2) (o := .lst [.str (lineS n ["try"])])
      generalize upd G1 l2 (.lst [.str (lineS n ["try"])]) = G2 at I2 e2 ⊢
      walk_at "rd"
      refine ⟨(), p, rm, L, n + 1, W, C, ra, rb, c, rfl, by omega, by omega, by omega, I2.here_, wk, by omega, by omega, by omega, fun H' l bd a' b' c' J hc' hl hrw B => ?_⟩
      have I3 := I2.back J
      have e3 := J.k _ _ e2 (I2.nes (S := [_]) e2)
      have lB := B.len (by omega) (n + 1)
      walk_at "rd"
      refine ⟨by unfold strsR; rw [List.length_map, List.length_map, sizeLine_eq]; simp only [List.length_cons, List.length_nil]; omega, fun l4 hl4 => ?_⟩
      exact ⟨(), l4, bd, a', b', c', rfl, I3.new hl4, by omega, by rw [upd_same]; rfl, B, I3.free hl4⟩
    · rintro σ' G ⟨_, l, bd, a1, b1, c1, rfl, I1, hc1, hl, B, hfr⟩
      obtain ⟨o1, po1, ho1⟩ := I1.po
      have c40 : c1 < 2 ^ 40 := by omega
      walk_at "rd"
      intro r2 o2 r20 r21 ho2
      obtain ⟨m2, rfl⟩ := Int.eq_ofNat_of_zero_le r20
      have I2 := I1.draw ho2
      have nlp : l ≠ p := fun e => by have := hl; rw [e, po1] at this; exact ho1.nostr (Option.some.inj this)
      have hl2 := upd_oth (o := o2) nlp hl
      generalize upd G p o2 = G2 at I2 hl2 ⊢
      obtain ⟨o2', po2, ho2'⟩ := I2.po
      have c41 : c1 + 1 < 2 ^ 40 := by omega
      walk_at "rd"
      intro r3 o3 r30 r31 ho3
      have I3 := I2.draw ho3
      have hl3 := upd_oth (o := o3) nlp hl2
      generalize upd G2 p o3 = G3 at I3 hl3 ⊢
      walk_at "rd"
      generalize decide (V.int r3 = V.int 0) = fb
      have lB := B.len (by omega) (n + 1)
      refine ⟨fun σ' G => ∃ (_ : Unit) (l : Addr) (ws : List (Option (List Str))) (hb : List (List Stm)) (a' b' : Int) (c' : Nat) (v7 v8 : Option V), σ' = [some (.ref p), some (.int (n : Int)), some (.ref L.q), some (.ref rm), some (.ref l), some (.int (m2 : Int)), some (.bl fb), v7, v8, none] ∧ GI H G p rm L W C a' b' c' ∧ c' + 1000 * a'.toNat ≤ c + 1000 * ra.toNat + 102 + 105 * m2 ∧
        ws.length = m2 ∧ hb.length = m2 ∧ HdI W m2 ws ∧ G l = some (.lst (strsR (some (n, [(Str.ofString "try")]) :: (rowsB (n + 1) bd ++ rowsP n (ws.map hdrE) hb)))) ∧ GH W C (n + 1) ra rb a' b' (bd :: hb) ∧ H l = none, ?_, ?_⟩
      · walk_at "rd"
        refine for_range (fun j σ G => ∃ (_ : Unit) (l : Addr) (ws : List (Option (List Str))) (hb : List (List Stm)) (a' b' : Int) (c' : Nat) (v7 v8 : Option V), σ = [some (.ref p), some (.int (n : Int)), some (.ref L.q), some (.ref rm), some (.ref l), some (.int (m2 : Int)), some (.bl fb), v7, v8, none] ∧ GI H G p rm L W C a' b' c' ∧ c' + 1000 * a'.toNat ≤ c + 1000 * ra.toNat + 102 + 105 * j ∧
          ws.length = j ∧ hb.length = j ∧ HdI W m2 ws ∧ G l = some (.lst (strsR (some (n, [(Str.ofString "try")]) :: (rowsB (n + 1) bd ++ rowsP n (ws.map hdrE) hb)))) ∧ GH W C (n + 1) ra rb a' b' (bd :: hb) ∧ H l = none) ?_ ?_ ?_
        · exact ⟨(), l, [], [], a1, b1, c1 + 1 + 1, none, none, rfl, I3, by omega, rfl, rfl, ⟨fun i e => by simp at e, fun l h => nomatch h⟩, by rw [hl3, List.map_nil, rowsP, List.map_nil, List.append_nil], (GH.nil W C (n + 1) ra rb).snoc B, hfr⟩
        · rintro j σ F hj ⟨_, l, ws, hb, a4, b4, c4, v7, v8, rfl, I4, hc4, lw, lh, hI, hlF, P, hfl⟩
          have hj : j < m2 := hj
          obtain ⟨o4, po4, ho4⟩ := I4.po
          have c44 : c4 < 2 ^ 40 := by omega
          have nl4 : l ≠ p := fun e => I4.nes hlF (.inl e)
          walk_at "rd"
          intro r5 o5 r50 r51 ho5
          obtain ⟨m5, rfl⟩ := Int.eq_ofNat_of_zero_le r50
          have I5 := I4.draw ho5
          have hl5 := upd_oth (o := o5) nl4 hlF
          generalize upd F p o5 = F5 at I5 hl5 ⊢
          walk_at "rd"
          intro D hD
          refine lc_range (fun i G => ∃ (ks : List Str), ks.length = i ∧ (∀ z ∈ ks, z ∈ W.E) ∧ GI F5 G p rm L W C a4 b4 (c4 + 1 + i) ∧ G D = some (.lst (ks.map V.str))) ?_ ?_ ?_
          · exact ⟨[], rfl, (fun z hz => nomatch hz), (I5.here_).new hD, upd_same⟩
          · rintro i G hi ⟨ks, lk, hk, IG, hG⟩
            have hi : (i : Int) < 1 + (m5 : Int) := by have : i < (1 + (m5 : Int)).toNat := hi; omega
            refine ⟨rfl, ?_⟩
            obtain ⟨oG, poG, hoG⟩ := IG.po
            have wqG := IG.wd.q_
            have weG := IG.wd.e_
            have cG : c4 + 1 + i < 2 ^ 40 := by omega
            walk_at "rd"
            refine ⟨wk.en.1, by have := wk.en.2; omega, fun w7 o7 hw7 ho7 => ?_⟩
            have nD : D ≠ p := fun e => IG.nes hG (.inl e)
            refine ⟨_, upd_oth nD hG, by rw [List.length_map, sizeLine_eq]; omega, ks ++ [w7], by rw [List.length_append, lk]; rfl, ?_, (I5.here_).own ((IG.draw ho7)) hD, by rw [upd_same, List.map_append]; rfl⟩
            intro z hz
            rcases List.mem_append.mp hz with hz | hz
            · exact hk z hz
            · rw [List.mem_singleton.mp hz]; exact hw7
          · rintro G ⟨ks, lk, hk, IG, hG⟩
            have lk : ks.length = (1 + (m5 : Int)).toNat := lk
            have lk1 : 1 ≤ ks.length ∧ ks.length ≤ 2 := by omega
            have lkc : (1 + (m5 : Int)).toNat ≤ 2 := by omega
            have kne : ks ≠ [] := fun e => by rw [e] at lk1; simp at lk1
            have hl6 := IG.k _ _ hl5 (I5.nes hl5)
            have I6 := I5.back IG
            clear lk
            generalize (1 + (m5 : Int)).toNat = m6 at I6 lkc
            obtain ⟨o6, po6, ho6⟩ := I6.po
            have c66 : c4 + 1 + m6 < 2 ^ 40 := by omega
            refine ⟨fun σ' G' => ∃ (_ : Unit) (l8 : Addr) (o8 : Option (List Str)) (c8 : Nat), σ' = [some (.ref p), some (.int (n : Int)), some (.ref L.q), some (.ref rm), some (.ref l), some (.int (m2 : Int)), some (.bl fb), some (.int (0 + (j : Int))), some (.ref l8), none] ∧ GI H G' p rm L W C a4 b4 c8 ∧ c8 ≤ c4 + 4 ∧
              G' l8 = some (.lst ((o8.getD []).map V.str)) ∧ G' l = some (.lst (strsR (some (n, [(Str.ofString "try")]) :: (rowsB (n + 1) bd ++ rowsP n (ws.map hdrE) hb)))) ∧ (o8 = none → j + 1 = m2) ∧ ∀ l, o8 = some l → l ≠ [] ∧ (∀ w ∈ l, w ∈ W.E) ∧ l.length ≤ 2, ?_, ?_⟩
            · have fin : ∀ c8, GI H G p rm L W C a4 b4 c8 → c8 ≤ c4 + 4 → ∃ (_ : Unit) (l8 : Addr) (o8 : Option (List Str)) (c8 : Nat), ([some (.ref p), some (.int (n : Int)), some (.ref L.q), some (.ref rm), some (.ref l), some (.int (m2 : Int)), some (.bl fb), some (.int (0 + (j : Int))), some (.ref D), none] : L2.St) = [some (.ref p), some (.int (n : Int)), some (.ref L.q), some (.ref rm), some (.ref l), some (.int (m2 : Int)), some (.bl fb), some (.int (0 + (j : Int))), some (.ref l8), none] ∧ GI H G p rm L W C a4 b4 c8 ∧ c8 ≤ c4 + 4 ∧
                  G l8 = some (.lst ((o8.getD []).map V.str)) ∧ G l = some (.lst (strsR (some (n, [(Str.ofString "try")]) :: (rowsB (n + 1) bd ++ rowsP n (ws.map hdrE) hb)))) ∧ (o8 = none → j + 1 = m2) ∧ ∀ l, o8 = some l → l ≠ [] ∧ (∀ w ∈ l, w ∈ W.E) ∧ l.length ≤ 2 :=
                fun c8 J hc8 => ⟨(), D, some ks, c8, rfl, J, hc8, hG, hl6, (fun e => by cases e), fun l e => by cases e; exact ⟨kne, hk, lk1.2⟩⟩
              have nD : D ≠ p := fun e => I6.nes hG (.inl e)
              have nl : l ≠ p := fun e => I6.nes hl6 (.inl e)
              walk_at "rd"
              refine ite2 (fun c0 => ?_) (fun c0 => ?_)
              · have e0 : (0 : Int) + (j : Int) = (m2 : Int) - 1 := V.int.inj (of_decide_eq_true c0)
                walk_at "rd"
                intro r7 o7 r70 r71 ho7
                have I7 := I6.draw ho7
                have hG7 := upd_oth (o := o7) nD hG
                have hl7 := upd_oth (o := o7) nl hl6
                generalize upd G p o7 = G7 at I7 hG7 hl7 ⊢
                walk_at "rd"
                refine ite2 (fun c1 => ?_) (fun c1 => ?_)
                · walk_at "rd"
                  intro l8 hl8
                  exact ⟨(), l8, none, _, rfl, I7.new hl8, by omega, upd_same, upd_old hl7 hl8, (fun _ => by omega), (fun l e => by cases e)⟩
                · walk_at "rd"
                  exact ⟨(), D, some ks, _, rfl, I7, by omega, hG7, hl7, (fun e => by cases e), fun l e => by cases e; exact ⟨kne, hk, lk1.2⟩⟩
              · walk_at "rd"
                exact fin _ I6 (by omega)
            · rintro σ' G' ⟨_, l8, o8, c8, rfl, I8, hc8, h8, hl8, ho1_, ho2_⟩
              have il8 : ∀ z ∈ o8.getD [], IsWord z := fun z hz => by
                cases o8 with
                | none => cases hz
                | some l => exact wk.ew z ((ho2_ l rfl).2.1 z hz)
              have ll8 : (o8.getD []).length ≤ 2 := by
                cases o8 with
                | none => exact Nat.zero_le _
                | some l => exact (ho2_ l rfl).2.2
              walk_at "rd"
              intro l9 hl9
              have I9 := I8.new (o := .lst [.str "except"]) hl9
              have h9 := upd_old (o := .lst [.str "except"]) h8 hl9
              have hl9' := upd_old (o := .lst [.str "except"]) hl8 hl9
              have e9 := upd_same (H := G') (a := l9) (o := .lst [.str "except"])
              generalize upd G' l9 (.lst [.str "except"]) = G9 at I9 h9 hl9' e9 ⊢
              walk_at "rd"
              refine ⟨by rw [List.length_map, sizeLine_eq]; simp only [List.length_cons, List.length_nil]; omega, fun l10 hl10 => ?_⟩
              have I10 := I9.new (o := .lst ([.str "except"] ++ (o8.getD []).map V.str)) hl10
              have e10 : (upd G9 l10 (.lst ([.str "except"] ++ (o8.getD []).map V.str))) l10 = some (.lst ((hdrE o8).map V.str)) := upd_same
              have hl10' := upd_old (o := .lst ([.str "except"] ++ (o8.getD []).map V.str)) hl9' hl10
              generalize upd G9 l10 (.lst ([.str "except"] ++ (o8.getD []).map V.str)) = G10 at I10 e10 hl10' ⊢
              refine ⟨n, l10, hdrE o8, rfl, by omega, e10, by unfold hdrE; rw [List.length_cons]; omega, fun z hz => ?_, ?_⟩
              · rcases List.mem_cons.mp hz with rfl | hz
                · exact wd_except
                · exact il8 z hz
              · walk_at "rd"
                intro l11 hl11
                have I11 := I10.new (o := .lst [.str (lineS n (hdrE o8))]) hl11
                have hl11' := upd_old (o := .lst [.str (lineS n (hdrE o8))]) hl10' hl11
                have e11 := upd_same (H := G10) (a := l11) (o := .lst [.str (lineS n (hdrE o8))])
                generalize upd G10 l11 (.lst [.str (lineS n (hdrE o8))]) = G11 at I11 hl11' e11 ⊢
                have lP := P.len (by omega) (by simp only [List.length_cons]; omega) ([(Str.ofString "try")] :: ws.map hdrE) (by simp only [List.length_cons, List.length_map]; omega) n
                have lrw : (strsR (some (n, [(Str.ofString "try")]) :: (rowsB (n + 1) bd ++ rowsP n (ws.map hdrE) hb))).length ≤ 20000 := by
                  rw [← rowsP_cons]
                  unfold strsR
                  rw [List.length_map, List.length_map]; exact lP
                walk_at "rd"
                refine ⟨by rw [sizeLine_eq]; simp only [List.length_cons, List.length_nil] at *; omega, fun l12 hl12 => ?_⟩
                have I12 := I11.new (o := .lst (strsR (some (n, [(Str.ofString "try")]) :: (rowsB (n + 1) bd ++ rowsP n (ws.map hdrE) hb)) ++ [.str (lineS n (hdrE o8))])) hl12
                have e12 : (upd G11 l12 (.lst (strsR (some (n, [(Str.ofString "try")]) :: (rowsB (n + 1) bd ++ rowsP n (ws.map hdrE) hb)) ++ [.str (lineS n (hdrE o8))]))) l12 = some (.lst (strsR ((some (n, [(Str.ofString "try")]) :: (rowsB (n + 1) bd ++ rowsP n (ws.map hdrE) hb)) ++ [some (n, hdrE o8)]))) := by
                  rw [upd_same]; unfold strsR; rw [List.map_append, List.map_append]; rfl
                generalize upd G11 l12 (.lst (strsR (some (n, [(Str.ofString "try")]) :: (rowsB (n + 1) bd ++ rowsP n (ws.map hdrE) hb)) ++ [.str (lineS n (hdrE o8))])) = G12 at I12 e12 ⊢
                walk_at "rd"
                refine ⟨(), p, rm, L, n + 1, W, C, a4, b4, c8, rfl, by omega, by omega, by omega, I12.here_, wk, by omega, by omega, by have := P.cn; omega, fun H' l13 b13 a' b' c' J hc' hl13 hrw B13 => ?_⟩
                have I13 := I12.back J
                have e13 := J.k _ _ e12 (I12.nes e12)
                have lB13 := B13.len (by have := P.cn; omega) (n + 1)
                have er : strsR ((some (n, [(Str.ofString "try")]) :: (rowsB (n + 1) bd ++ rowsP n (ws.map hdrE) hb)) ++ [some (n, hdrE o8)]) ++ strsR (rowsB (n + 1) b13) = strsR (some (n, [(Str.ofString "try")]) :: (rowsB (n + 1) bd ++ rowsP n ((ws ++ [o8]).map hdrE) (hb ++ [b13]))) := by
                  rw [List.map_append, show ([o8].map hdrE) = [hdrE o8] from rfl, rowsP_snoc (by rw [List.length_map]; omega)]
                  simp [strsR]
                have l12s : (strsR ((some (n, [(Str.ofString "try")]) :: (rowsB (n + 1) bd ++ rowsP n (ws.map hdrE) hb)) ++ [some (n, hdrE o8)])).length ≤ 20001 := by
                  unfold strsR at lrw ⊢
                  rw [List.length_map, List.length_map] at lrw
                  rw [List.length_map, List.length_map, List.length_append]
                  simp only [List.length_cons, List.length_nil] at *
                  omega
                have l13s : (strsR (rowsB (n + 1) b13)).length ≤ 10000 := by unfold strsR; rw [List.length_map, List.length_map]; exact lB13
                walk_at "rd"
                refine ⟨by rw [sizeLine_eq]; omega, fun l14 hl14 => ?_⟩
                refine ⟨(), l14, ws ++ [o8], hb ++ [b13], a', b', c', _, _, rfl, I13.new hl14, by omega, by rw [List.length_append, lw]; rfl, by rw [List.length_append, lh]; rfl, hI.snoc (fun e => by rw [lw]; exact ho1_ e) ho2_, by rw [upd_same]; exact congrArg (fun z => some (HO.lst z)) er, ?_, I13.free hl14⟩
                exact P.snoc B13
        · rintro σ F ⟨_, l, ws, hb, a4, b4, c4, v7, v8, rfl, I4, hc4, lw, lh, hI, hlF, P, hfl⟩
          exact ⟨(), l, ws, hb, a4, b4, c4, v7, v8, rfl, I4, hc4, lw, lh, hI, hlF, P, hfl⟩
      · rintro σ' F ⟨_, l, ws, hb, a4, b4, c4, v7, v8, rfl, I4, hc4, lw, lh, hI, hlF, P, hfl⟩
        have m22 : m2 < 3 := by omega
        have eqP : ∀ ws' hb', strsR (some (n, [(Str.ofString "try")]) :: (rowsB (n + 1) bd ++ rowsP n ws' hb')) = strsR (rowsP n ([(Str.ofString "try")] :: ws') (bd :: hb')) := fun ws' hb' => by rw [rowsP_cons]
        have hw2 : ∀ {fin : Bool}, (ws = [] → fin = true) → TryW ws fin := fun h => ⟨h, fun i e => by have := hI.ba i e; omega, fun l hl => ⟨(hI.wd l hl).1, fun w hw => wk.ew w ((hI.wd l hl).2.1 w hw)⟩⟩
        have hg2 : gH W C (.tr ws true) := fun l hl => (hI.wd l hl).2
        have lP := P.len (by omega) (by simp only [List.length_cons]; omega) ([(Str.ofString "try")] :: ws.map hdrE) (by simp only [List.length_cons, List.length_map]; omega) n
        have lrw : (strsR (some (n, [(Str.ofString "try")]) :: (rowsB (n + 1) bd ++ rowsP n (ws.map hdrE) hb))).length ≤ 20000 := by
          rw [← rowsP_cons]
          unfold strsR
          rw [List.length_map, List.length_map]; exact lP
        walk_at "rd"
        refine ite2 (fun c0 => ?_) (fun c0 => ?_)
        · refine iteT ?_
          walk_at "rd"
          intro l9 hl9
          have I9 := I4.new (o := .lst [.str "finally"]) hl9
          have hl9' := upd_old (o := .lst [.str "finally"]) hlF hl9
          have e9 := upd_same (H := F) (a := l9) (o := .lst [.str "finally"])
          generalize upd F l9 (.lst [.str "finally"]) = G9 at I9 hl9' e9 ⊢
          refine ⟨n, l9, ["finally"], rfl, by omega, e9, by simp, (fun z hz => by rw [List.mem_singleton.mp hz]; exact wd_finally), ?_⟩
          walk_at "rd"
          intro l11 hl11
          have I11 := I9.new (o := .lst [.str (lineS n ["finally"])]) hl11
          have hl11' := upd_old (o := .lst [.str (lineS n ["finally"])]) hl9' hl11
          have e11 := upd_same (H := G9) (a := l11) (o := .lst [.str (lineS n ["finally"])])
          generalize upd G9 l11 (.lst [.str (lineS n ["finally"])]) = G11 at I11 hl11' e11 ⊢
          walk_at "rd"
          refine ⟨by rw [sizeLine_eq]; simp only [List.length_cons, List.length_nil] at *; omega, fun l12 hl12 => ?_⟩
          have I12 := I11.new (o := .lst (strsR (some (n, [(Str.ofString "try")]) :: (rowsB (n + 1) bd ++ rowsP n (ws.map hdrE) hb)) ++ [.str (lineS n ["finally"])])) hl12
          have e12 : (upd G11 l12 (.lst (strsR (some (n, [(Str.ofString "try")]) :: (rowsB (n + 1) bd ++ rowsP n (ws.map hdrE) hb)) ++ [.str (lineS n ["finally"])]))) l12 = some (.lst (strsR ((some (n, [(Str.ofString "try")]) :: (rowsB (n + 1) bd ++ rowsP n (ws.map hdrE) hb)) ++ [some (n, [(Str.ofString "finally")])]))) := by
            rw [upd_same]; unfold strsR; rw [List.map_append, List.map_append]; rfl
          generalize upd G11 l12 (.lst (strsR (some (n, [(Str.ofString "try")]) :: (rowsB (n + 1) bd ++ rowsP n (ws.map hdrE) hb)) ++ [.str (lineS n ["finally"])])) = G12 at I12 e12 ⊢
          walk_at "rd"
          refine ⟨(), p, rm, L, n + 1, W, C, a4, b4, c4, rfl, by omega, by omega, by omega, I12.here_, wk, by omega, by omega, by have := P.cn; omega, fun H' l13 b13 a' b' c' J hc' hl13 hrw B13 => ?_⟩
          have I13 := I12.back J
          have e13 := J.k _ _ e12 (I12.nes e12)
          have lB13 := B13.len (by have := P.cn; omega) (n + 1)
          have er : strsR ((some (n, [(Str.ofString "try")]) :: (rowsB (n + 1) bd ++ rowsP n (ws.map hdrE) hb)) ++ [some (n, [(Str.ofString "finally")])]) ++ strsR (rowsB (n + 1) b13) = strsR (rowsP n (hdrs (.tr ws true)) (bd :: (hb ++ [b13]))) := by
            rw [hdrs_tr, if_pos rfl, rowsP_cons, rowsP_snoc (by rw [List.length_map]; omega)]
            simp [strsR]
          have l12s : (strsR ((some (n, [(Str.ofString "try")]) :: (rowsB (n + 1) bd ++ rowsP n (ws.map hdrE) hb)) ++ [some (n, [(Str.ofString "finally")])])).length ≤ 20001 := by
            unfold strsR at lrw ⊢
            rw [List.length_map, List.length_map] at lrw
            rw [List.length_map, List.length_map, List.length_append]
            simp only [List.length_cons, List.length_nil] at *
            omega
          have l13s : (strsR (rowsB (n + 1) b13)).length ≤ 10000 := by unfold strsR; rw [List.length_map, List.length_map]; exact lB13
          walk_at "rd"
          refine ⟨by rw [sizeLine_eq]; omega, fun l14 hl14 => ?_⟩
          rw [er]
          walk_at "rd"
          have lps : (bd :: (hb ++ [b13])).length = 1 + ws.length + 1 := by rw [List.length_cons, List.length_append, lh, lw]; simp only [List.length_cons, List.length_nil]; omega
          exact k _ l14 ws true (bd :: (hb ++ [b13])) a' b' c' (I13.new hl14) (by omega) (I13.free hl14) upd_same ⟨hw2 fun _ => rfl, lps, by omega⟩ hg2 (P.snoc B13) (by rw [lps]; omega)
        · have m0 : m2 ≠ 0 := fun e => c0 (decide_eq_true (by rw [e]; rfl))
          walk_at "rd"
          refine ite2 (fun c1 => ?_) (fun c1 => ?_)
          · walk_at "rd"
            intro l9 hl9
            have I9 := I4.new (o := .lst [.str "finally"]) hl9
            have hl9' := upd_old (o := .lst [.str "finally"]) hlF hl9
            have e9 := upd_same (H := F) (a := l9) (o := .lst [.str "finally"])
            generalize upd F l9 (.lst [.str "finally"]) = G9 at I9 hl9' e9 ⊢
            refine ⟨n, l9, ["finally"], rfl, by omega, e9, by simp, (fun z hz => by rw [List.mem_singleton.mp hz]; exact wd_finally), ?_⟩
            walk_at "rd"
            intro l11 hl11
            have I11 := I9.new (o := .lst [.str (lineS n ["finally"])]) hl11
            have hl11' := upd_old (o := .lst [.str (lineS n ["finally"])]) hl9' hl11
            have e11 := upd_same (H := G9) (a := l11) (o := .lst [.str (lineS n ["finally"])])
            generalize upd G9 l11 (.lst [.str (lineS n ["finally"])]) = G11 at I11 hl11' e11 ⊢
            walk_at "rd"
            refine ⟨by rw [sizeLine_eq]; simp only [List.length_cons, List.length_nil] at *; omega, fun l12 hl12 => ?_⟩
            have I12 := I11.new (o := .lst (strsR (some (n, [(Str.ofString "try")]) :: (rowsB (n + 1) bd ++ rowsP n (ws.map hdrE) hb)) ++ [.str (lineS n ["finally"])])) hl12
            have e12 : (upd G11 l12 (.lst (strsR (some (n, [(Str.ofString "try")]) :: (rowsB (n + 1) bd ++ rowsP n (ws.map hdrE) hb)) ++ [.str (lineS n ["finally"])]))) l12 = some (.lst (strsR ((some (n, [(Str.ofString "try")]) :: (rowsB (n + 1) bd ++ rowsP n (ws.map hdrE) hb)) ++ [some (n, [(Str.ofString "finally")])]))) := by
              rw [upd_same]; unfold strsR; rw [List.map_append, List.map_append]; rfl
            generalize upd G11 l12 (.lst (strsR (some (n, [(Str.ofString "try")]) :: (rowsB (n + 1) bd ++ rowsP n (ws.map hdrE) hb)) ++ [.str (lineS n ["finally"])])) = G12 at I12 e12 ⊢
            walk_at "rd"
            refine ⟨(), p, rm, L, n + 1, W, C, a4, b4, c4, rfl, by omega, by omega, by omega, I12.here_, wk, by omega, by omega, by have := P.cn; omega, fun H' l13 b13 a' b' c' J hc' hl13 hrw B13 => ?_⟩
            have I13 := I12.back J
            have e13 := J.k _ _ e12 (I12.nes e12)
            have lB13 := B13.len (by have := P.cn; omega) (n + 1)
            have er : strsR ((some (n, [(Str.ofString "try")]) :: (rowsB (n + 1) bd ++ rowsP n (ws.map hdrE) hb)) ++ [some (n, [(Str.ofString "finally")])]) ++ strsR (rowsB (n + 1) b13) = strsR (rowsP n (hdrs (.tr ws true)) (bd :: (hb ++ [b13]))) := by
              rw [hdrs_tr, if_pos rfl, rowsP_cons, rowsP_snoc (by rw [List.length_map]; omega)]
              simp [strsR]
            have l12s : (strsR ((some (n, [(Str.ofString "try")]) :: (rowsB (n + 1) bd ++ rowsP n (ws.map hdrE) hb)) ++ [some (n, [(Str.ofString "finally")])])).length ≤ 20001 := by
              unfold strsR at lrw ⊢
              rw [List.length_map, List.length_map] at lrw
              rw [List.length_map, List.length_map, List.length_append]
              simp only [List.length_cons, List.length_nil] at *
              omega
            have l13s : (strsR (rowsB (n + 1) b13)).length ≤ 10000 := by unfold strsR; rw [List.length_map, List.length_map]; exact lB13
            walk_at "rd"
            refine ⟨by rw [sizeLine_eq]; omega, fun l14 hl14 => ?_⟩
            rw [er]
            walk_at "rd"
            have lps : (bd :: (hb ++ [b13])).length = 1 + ws.length + 1 := by rw [List.length_cons, List.length_append, lh, lw]; simp only [List.length_cons, List.length_nil]; omega
            exact k _ l14 ws true (bd :: (hb ++ [b13])) a' b' c' (I13.new hl14) (by omega) (I13.free hl14) upd_same ⟨hw2 fun _ => rfl, lps, by omega⟩ hg2 (P.snoc B13) (by rw [lps]; omega)
          · walk_at "rd"
            have nws : ws ≠ [] := fun e => by rw [e] at lw; exact m0 lw.symm
            have lps : (bd :: hb).length = 1 + ws.length + 0 := by rw [List.length_cons, lh, lw]; omega
            exact k _ l ws false (bd :: hb) a4 b4 c4 I4 (by omega) hfl (by rw [hlF, hdrs_tr, if_neg (by simp), List.append_nil, rowsP_cons]) ⟨hw2 fun e => absurd e nws, lps, by omega⟩ hg2 P (by rw [lps]; omega)
/-! ### _law_body, for every nesting -/
theorem ok_gbody_succ (T : Txt K mg a d) (r : Nat) (G_law_statement : FnOk P w K mg base CX0 (4 * r + 6) a.law_statement d.law_statement ["_law_pool_here", "_law_nesting", "_law_words", "_law_room"] (spGSt (r + 1))) : FnOk P w K mg base CX0 (4 * (r + 1) + 4) a.law_body d.law_body ["_law_pool_here", "_law_nesting", "_law_words", "_law_room"] (spGBd (r + 1)) := by
  have G_law_draw : FnOk P w K mg base CX0 1 a.law_draw d.law_draw ["_law_pool_here", "_law_many"] spDraw := ok_law_draw T
  refine T.law_body.ok sc_law_body (fun vs H Q E h => ?_) (fun cdv A outer s H vs Q E hr h => ?_)
  · obtain ⟨_, p, rm, L, n, W, C, ra, rb, c, rfl, _⟩ := h
    rfl
  · obtain ⟨_, p, rm, L, n, W, C, ra, rb, c, rfl, hr9, n1, n8, I, wk, lC, hc, ha, k⟩ := h
    refine ⟨_, (pss_cons (ps_set (i := 4) sc_law_body.nd rfl (Or.inl rfl) (pe_lst pa_nil))
  (pss_cons (ps_for PassesOwn.never rfl (pi_range1 (by rfl) T.n_range (pa_cons (pe_op op_add pe_int (pe_op op_mul (pe_call G_law_draw (hr.mono (by omega)) (by rfl) T.g_law_draw T.law_draw.kp T.b_law_draw .nil pass0 (pa_cons (pv 0) (pa_cons pe_int pa_nil))) (pe_callTy call_int1 (by rfl) T.n_int (by decide +kernel) (pa_cons (pe_cmpR op_gt (pe_ix ix_list (pv 3) pe_int (fun _ _ => rfl)) pe_int (nomark _)) pa_nil)))) pa_nil)) (pg_name (i := 5) sc_law_body.nd rfl (Or.inl rfl))
  (pss_one (ps_set (i := 4) sc_law_body.nd rfl (Or.inl rfl) (pe_op op_cat (pv 4) (pe_call G_law_statement (hr.mono (by omega)) (by rfl) T.g_law_statement T.law_statement.kp T.b_law_statement .nil pass0 (pa_cons (pv 0) (pa_cons (pv 1) (pa_cons (pv 2) (pa_cons (pv 3) pa_nil)))))))))
  (pss_one (ps_ret (pv 4))))), ?_⟩
    try dsimp only [cxOf]
    walk_at "rd"
    intro D hD
    have I1 := I.new (o := .lst []) hD
    have d1 := upd_same (H := H) (a := D) (o := .lst [])
    generalize upd H D (.lst []) = G1 at I1 d1 ⊢
    obtain ⟨o1, po1, ho1⟩ := I1.po
    have c40 : c < 2 ^ 40 := by omega
    walk_at "rd"
    intro r2 o2 r20 r21 ho2
    obtain ⟨m2, rfl⟩ := Int.eq_ofNat_of_zero_le r20
    have I2 := I1.draw ho2
    have d2 := upd_oth (o := o2) (fun e : D = p => by have := d1; rw [e, po1] at this; exact ho1.nostr (S := []) (Option.some.inj this)) d1
    generalize upd G1 p o2 = G2 at I2 d2 ⊢
    have rm2 := I2.rm_
    have b0 := a2_0 (u := .int ra) (v := .int rb)
    have cm : ∀ i j : Int, -1000000 < i → i < 1000000 → CMul i j := fun i j h1 h2 => .inl ⟨by omega, by omega⟩
    have cm2 : ∀ j : Int, CMul (m2 : Int) j := fun j => cm _ _ (by omega) (by omega)
    walk_at "rd"
    refine ⟨cm2 _, ?_⟩
    have turns : ∃ t : Nat, (1 + (m2 : Int) * (if decide (0 < ra) = true then 1 else 0)) = (t : Int) ∧ 1 ≤ t ∧ t ≤ if 0 < ra then 3 else 1 := by
      by_cases pa : 0 < ra
      · refine ⟨1 + m2, ?_, by omega, ?_⟩
        · rw [decide_eq_true pa, if_pos rfl]; omega
        · rw [if_pos pa]; omega
      · refine ⟨1, ?_, by omega, ?_⟩
        · rw [decide_eq_false pa, if_neg (by simp)]; omega
        · rw [if_neg pa]; exact Nat.le_refl 1
    obtain ⟨t, et, t1, t3⟩ := turns
    have t9 : t ≤ 3 := by split at t3 <;> omega
    walk_at "rd"
    have toN : ((1 + (m2 : Int) * (if decide (0 < ra) = true then 1 else 0)) : Int).toNat = t := by rw [et]; rfl
    refine for_range (fun j σ F => ∃ (_ : Unit) (l : Addr) (bd : List Stm) (a' b' : Int) (c' : Nat) (v5 : Option V), σ = [some (.ref p), some (.int (n : Int)), some (.ref L.q), some (.ref rm), some (.ref l), v5] ∧ GI H F p rm L W C a' b' c' ∧ c' + 1000 * a'.toNat ≤ c + 1000 * ra.toNat + 1 + 20 * j ∧ F l = some (.lst (strsR (rowsB n bd))) ∧ GP_ W C n j ra rb a' b' bd ∧ H l = none) ?_ ?_ ?_
    · exact ⟨(), D, [], ra, rb, c + 1, none, rfl, I2, by omega, by rw [d2, rowsB]; rfl, GP_.nil W C n ra rb, hD⟩
    · rintro j σ F hj ⟨_, l, bd, a4, b4, c4, v5, rfl, I4, hc4, hl4, P, hfl⟩
      have hj : j < t := toN ▸ hj
      walk_at "rd"
      refine ⟨(), p, rm, L, n, W, C, a4, b4, c4, rfl, by omega, n1, n8, I4.here_, wk, lC, by omega, by have := P.cn; omega, fun H' l5 s5 a5 b5 c5 J hc5 hl5 hrw S => ?_⟩
      have I5 := I4.back J
      have e5 := J.k _ _ hl4 (I4.nes hl4)
      have P5 := P.snoc S
      have lb : (rowsB n bd).length ≤ 20000 := by
        have := P.ln
        have := P.c6
        rw [rowsB_len n n bd P.wf]
        omega
      have ls : (rowsS n s5).length ≤ 20000 := by
        have := S.ln
        have := S.c6
        have := P.cn
        rw [rowsS_len n n s5 S.wf]
        omega
      walk_at "rd"
      refine ⟨by unfold strsR; rw [List.length_map, List.length_map, List.length_map, List.length_map, sizeLine_eq]; omega, fun l6 hl6 => ?_⟩
      refine ⟨(), l6, bd ++ [s5], a5, b5, c5, _, rfl, I5.new hl6, by omega, ?_, P5, I5.free hl6⟩
      rw [upd_same, rowsB_app, show rowsB n [s5] = rowsS n s5 from by rw [rowsB, rowsB, List.append_nil]]
      unfold strsR
      rw [List.map_append, List.map_append]
    · rintro σ F ⟨_, l, bd, a4, b4, c4, v5, rfl, I4, hc4, hl4, P, hfl⟩
      rw [show (1 + (m2 : Int) * (if decide (0 < ra) = true then 1 else 0)).toNat = t from toN] at hc4 P
      walk_at "rd"
      exact k F l bd a4 b4 c4 I4 (by omega) hfl hl4 (P.done t1 t3)
theorem ok_gbody (T : Txt K mg a d) : ∀ r, FnOk P w K mg base CX0 (4 * r + 4) a.law_body d.law_body ["_law_pool_here", "_law_nesting", "_law_words", "_law_room"] (spGBd r)
  | 0 => fn_noneX (fun vs H Q E h => by
      obtain ⟨_, p, rm, L, n, W, C, ra, rb, c, _, h1, h2, h3, _⟩ := h
      omega)
  | r + 1 => ok_gbody_succ T r (ok_law_statement T r (ok_gbody T r) (ok_law_try T r (ok_gbody T r)))
/-! ### _law_library: a drawn library -/
structure GJ (H0 H : Hp) (p rm : Addr) (ra rb : Int) (c : Nat) : Prop where
  k : Kp (PR p rm) H0 H
  po : ∃ o, H p = some o ∧ PoolO o c
  rm_ : H rm = some (.lst [.int ra, .int rb])
section
variable {H0 H H' : Hp} {p rm x : Addr} {ra rb : Int} {c c' : Nat} {o o' : HO}
theorem GJ.pr (I : GJ H0 H p rm ra rb c) : p ≠ rm := fun e => by
  obtain ⟨o1, e1, e2⟩ := I.po
  rw [e, I.rm_] at e1
  cases e1
  exact e2.no2 rfl
theorem GJ.nes (I : GJ H0 H p rm ra rb c) {S : List Str} (h : H x = some (.lst (S.map V.str))) : ¬ PR p rm x := by
  obtain ⟨o1, e1, e2⟩ := I.po
  rintro (rfl | rfl)
  · rw [e1] at h; cases h; exact e2.nostr rfl
  · rw [I.rm_] at h; injection h with h; exact no2str h.symm
theorem GJ.same (I : GJ H0 H p rm ra rb c) (s : Same H H') : GJ H0 H' p rm ra rb c := by
  obtain ⟨o1, e1, e2⟩ := I.po
  exact ⟨I.k.trans (Kp.of_same s), ⟨o1, s _ _ e1, e2⟩, s _ _ I.rm_⟩
theorem GJ.new (I : GJ H0 H p rm ra rb c) (h : H x = none) : GJ H0 (upd H x o) p rm ra rb c := I.same ((Same.refl H).new h)
theorem GJ.drawn (I : GJ H0 H p rm ra rb c) (k : Kp (fun b => b = p) H H') (h1 : H' p = some o') (h2 : PoolO o' c') : GJ H0 H' p rm ra rb c' :=
  ⟨I.k.trans (k.mono fun b e => .inl e), ⟨o', h1, h2⟩, k _ _ I.rm_ (Ne.symm I.pr)⟩
theorem GJ.draw (I : GJ H0 H p rm ra rb c) (h : PoolO o' c') : GJ H0 (upd H p o') p rm ra rb c' := I.drawn (Kp.refl.set rfl) upd_same h
theorem GJ.free (I : GJ H0 H p rm ra rb c) (h : H x = none) : H0 x = none := by
  obtain ⟨o1, e1, e2⟩ := I.po
  refine Kp.none I.k ?_ h
  rintro (rfl | rfl)
  · rw [e1] at h; cases h
  · rw [I.rm_] at h; cases h
end
/-- what is drawn -/
structure GLib (W : Wds) (C names : List Str) (gs : List FT) (ra rb a' b' : Int) : Prop where
  nm : gs.map (·.1) = names
  ok : ∀ g ∈ gs, FTOk g
  g : ∀ g ∈ gs, gB W C g.2
  cn : ((allT gs).length : Int) = ra - a'
  c6 : (allT gs).length + 6 * a'.toNat ≤ 6 * ra.toNat + gs.length
  nb : (gs.map fun g => nbB g.2).sum + a'.toNat ≤ ra.toNat
  ln : (rowsF gs).length + 3 * a'.toNat ≤ (allT gs).length + gs.length + 3 * ra.toNat
  ow : ownN W.N (allT gs) + b'.toNat ≤ rb.toNat
  le : b' ≤ rb
theorem GLib.nil (W : Wds) (C : List Str) (ra rb : Int) : GLib W C [] [] ra rb ra rb :=
  ⟨rfl, (fun g h => nomatch h), (fun g h => nomatch h), by show (0 : Int) = _; omega, by show 0 + _ ≤ _; simp, by simp, by show 0 + _ ≤ _; simp [allT], by show 0 + _ ≤ _; omega, Int.le_refl _⟩
theorem GLib.snoc {W : Wds} {C names : List Str} {gs : List FT} {ra rb a' b' a'' b'' : Int} {nm : Str} {bd : List Stm} (G : GLib W C names gs ra rb a' b') (hn : IsWord nm) (B : GBd W C 1 a' b' a'' b'' bd) : GLib W C (names ++ [nm]) (gs ++ [(nm, bd)]) ra rb a'' b'' := by
  have ea : allT (gs ++ [(nm, bd)]) = allT gs ++ allB bd := by unfold allT; rw [List.map_append, List.flatten_append]; simp
  have er : (rowsF (gs ++ [(nm, bd)])).length = (rowsF gs).length + 1 + lnB bd := by
    rw [rowsF_snoc, List.length_append, List.length_cons, rowsB_len 1 1 bd B.wf]; omega
  have h1 := G.cn
  have h2 := G.c6
  have h3 := G.nb
  have h4 := G.ln
  have h5 := G.ow
  have h6 := G.le
  have k1 := B.cn
  have k2 := B.c6
  have k3 := B.nb
  have k4 := B.ln
  have k5 := B.ow
  have k6 := B.le
  refine ⟨by rw [List.map_append, G.nm]; rfl, fun g hg => ?_, fun g hg => ?_, ?_, ?_, ?_, ?_, ?_, by omega⟩
  · rcases List.mem_append.mp hg with hg | hg
    · exact G.ok g hg
    · rw [List.mem_singleton.mp hg]; exact ⟨hn, B.ne, B.wf⟩
  · rcases List.mem_append.mp hg with hg | hg
    · exact G.g g hg
    · rw [List.mem_singleton.mp hg]; exact B.g
  · rw [ea, List.length_append]; omega
  · rw [ea, List.length_append, List.length_append]; simp only [List.length_cons, List.length_nil]; omega
  · rw [List.map_append, List.sum_append]; simp only [List.map_cons, List.map_nil, List.sum_cons, List.sum_nil]; omega
  · rw [er, ea, List.length_append, List.length_append]; simp only [List.length_cons, List.length_nil]; omega
  · rw [ea, ownN_app]; omega
def dbW : List Str := ["doomed", "missing", "present", "refused", "waits"]
/-- the words of a drawn library -/
structure WdL (W : Wds) : Prop where
  r : W.R.length ≤ 4
  e : ∃ E0 : List Str, E0.length ≤ 3 ∧ ∀ w ∈ W.E, w ∈ E0 ∨ w ∈ dbW
def spLibr : Sp := fun vs H Q _ => ∃ (_ : Unit) (p rm nm ot : Addr) (names others : List Str) (ra rb : Int) (c : Nat), vs = [.ref p, .ref nm, .ref ot, .ref rm] ∧ GJ H H p rm ra rb c ∧ H nm = some (.lst (names.map V.str)) ∧ H ot = some (.lst (others.map V.str)) ∧
  (∀ w ∈ names, IsWord w) ∧ (∀ w ∈ others, IsWord w) ∧ others ≠ [] ∧ others.length ≤ 4 ∧ names ≠ [] ∧ names.length ≤ 6 ∧ ra ≤ 100 ∧ c ≤ 2 ^ 37 ∧
  ∀ H' l W gs a' b' c', W.N = names → WdL W → GJ H H' p rm a' b' c' → c' ≤ c + 1000000 → H l = none → H' l = some (.lst (strsR (rowsF gs))) → GLib W others names gs ra rb a' b' → Q (.ref l) H'
theorem ok_law_library (T : Txt K mg a d) : FnOk P w K mg base CX0 37 a.law_library d.law_library ["_law_pool_here", "_law_names", "_law_others", "_law_room"] spLibr := by
  have G_law_draw : FnOk P w K mg base CX0 1 a.law_draw d.law_draw ["_law_pool_here", "_law_many"] spDraw := ok_law_draw T
  have G_law_different : FnOk P w K mg base CX0 3 a.law_different d.law_different ["_law_pool_here", "_law_many", "_law_taken"] spDiff := ok_law_different T
  have G_law_body : FnOk P w K mg base CX0 36 a.law_body d.law_body ["_law_pool_here", "_law_nesting", "_law_words", "_law_room"] (spGBd 8) := ok_gbody T 8
  refine T.law_library.ok sc_law_library (fun vs H Q E h => ?_) (fun cdv A outer s H vs Q E hr h => ?_)
  · obtain ⟨_, p, rm, nm, ot, names, others, ra, rb, c, rfl, _⟩ := h
    rfl
  · obtain ⟨_, p, rm, nm, ot, names, others, ra, rb, c, rfl, I, hnm, hot, nw, ow, on, ol, nn, nl, ha, hc, k⟩ := h
    refine ⟨_, (pss_cons (ps_par (i := 4) (j := 5) rfl sc_law_library.nd rfl rfl (by decide) rfl rfl (pa_cons (pe_call G_law_different (hr.mono (by omega)) (by rfl) T.g_law_different T.law_different.kp T.b_law_different .nil pass0 (pa_cons (pv 0) (pa_cons (pe_op op_add pe_int (pe_call G_law_draw (hr.mono (by omega)) (by rfl) T.g_law_draw T.law_draw.kp T.b_law_draw .nil pass0 (pa_cons (pv 0) (pa_cons pe_int pa_nil)))) (pa_cons (pe_lst pa_nil) pa_nil)))) (pa_cons (pe_call G_law_different (hr.mono (by omega)) (by rfl) T.g_law_different T.law_different.kp T.b_law_different .nil pass0 (pa_cons (pv 0) (pa_cons (pe_op op_add pe_int (pe_call G_law_draw (hr.mono (by omega)) (by rfl) T.g_law_draw T.law_draw.kp T.b_law_draw .nil pass0 (pa_cons (pv 0) (pa_cons pe_int pa_nil)))) (pa_cons (pe_lst pa_nil) pa_nil)))) pa_nil)) (by rfl))
  (pss_cons (ps_set (i := 5) sc_law_library.nd rfl (Or.inl rfl) (pe_op op_cat (pv 5) (pe_slice sl_list (pe_lst (pa_cons pe_str (pa_cons pe_str (pa_cons pe_str pa_nil)))) po_none (po_some (pe_call G_law_draw (hr.mono (by omega)) (by rfl) T.g_law_draw T.law_draw.kp T.b_law_draw .nil pass0 (pa_cons (pv 0) (pa_cons pe_int pa_nil)))))))
  (pss_cons (ps_set (i := 6) sc_law_library.nd rfl (Or.inl rfl) (pe_lst pa_nil))
  (pss_cons (ps_for PassesOwn.never rfl (pi_list (pv 1)) (pg_name (i := 7) sc_law_library.nd rfl (Or.inl rfl))
  (pss_cons (ps_set (i := 8) sc_law_library.nd rfl (Or.inl rfl) (pe_lst (pa_cons (pv 4) (pa_cons (pv 5) (pa_cons (pe_ifExp (pt_cmpR (op_neNil (hu_of hr)) (pv 2) (pe_lst pa_nil) (nomark _)) (pv 2) (pv 1)) (pa_cons (pv 1) pa_nil))))))
  (pss_one (ps_set (i := 6) sc_law_library.nd rfl (Or.inl rfl) (pe_op op_cat (pe_op op_cat (pv 6) (pe_lst (pa_cons (pe_op op_add_str pe_str (pv 7)) pa_nil))) (pe_call G_law_body (hr.mono (by omega)) (by rfl) T.g_law_body T.law_body.kp T.b_law_body .nil pass0 (pa_cons (pv 0) (pa_cons pe_int (pa_cons (pv 8) (pa_cons (pv 3) pa_nil))))))))))
  (pss_one (ps_ret (pv 6))))))), ?_⟩
    try dsimp only [cxOf]
    obtain ⟨o0, po0, ho0⟩ := I.po
    have c40 : c < 2 ^ 40 := by omega
    walk_at "rd"
    intro r1 o1 r10 r11 ho1
    obtain ⟨m1, rfl⟩ := Int.eq_ofNat_of_zero_le r10
    have I1 := I.draw ho1
    have k1 := I1.k
    have p1 := upd_same (H := H) (a := p) (o := o1)
    generalize upd H p o1 = G1 at I1 k1 p1 ⊢
    walk_at "rd"
    intro t1 ht1
    have I2 := I1.new (o := .lst []) ht1
    have e2 := upd_same (H := G1) (a := t1) (o := .lst [])
    have p2 := upd_old (o := .lst []) p1 ht1
    generalize upd G1 t1 (.lst []) = G2 at I2 e2 p2 ⊢
    refine ⟨p, t1, 1 + m1, [], c + 1, o1, rfl, p2, ho1, e2, by simp; omega, by omega, fun G3 l3 R o3 hl3 e3 lR iR _ _ ho3 p3 k3 => ?_⟩
    have I3 := I2.drawn k3 p3 ho3
    have np3 : l3 ≠ p := fun e => I3.nes e3 (.inl e)
    have c43 : c + 1 + 9 * (1 + m1) < 2 ^ 40 := by omega
    walk_at "rd"
    intro r4 o4 r40 r41 ho4
    obtain ⟨m4, rfl⟩ := Int.eq_ofNat_of_zero_le r40
    have I4 := I3.draw ho4
    have e4 := upd_oth (o := o4) np3 e3
    have p4 := upd_same (H := G3) (a := p) (o := o4)
    generalize upd G3 p o4 = G4 at I4 e4 p4 ⊢
    walk_at "rd"
    intro t5 ht5
    have I5 := I4.new (o := .lst []) ht5
    have e5 := upd_old (o := .lst []) e4 ht5
    have d5 := upd_same (H := G4) (a := t5) (o := .lst [])
    have p5 := upd_old (o := .lst []) p4 ht5
    generalize upd G4 t5 (.lst []) = G5 at I5 e5 d5 p5 ⊢
    refine ⟨p, t5, 1 + m4, [], c + 1 + 9 * (1 + m1) + 1, o4, rfl, p5, ho4, d5, by simp; omega, by omega, fun G6 l6 E0 o6 hl6 e6 lE iE _ _ ho6 p6 k6 => ?_⟩
    have I6 := I5.drawn k6 p6 ho6
    have r6 := k6 _ _ e5 np3
    walk_at "rd"
    intro l7 hl7
    have I7 := I6.new (o := .lst [.str "waits", .str "refused", .str "doomed"]) hl7
    have r7 := upd_old (o := .lst [.str "waits", .str "refused", .str "doomed"]) r6 hl7
    have e7 := upd_old (o := .lst [.str "waits", .str "refused", .str "doomed"]) e6 hl7
    have w7 : (upd G6 l7 (.lst [.str "waits", .str "refused", .str "doomed"])) l7 = some (.lst ((["waits", "refused", "doomed"] : List Str).map V.str)) := upd_same
    generalize upd G6 l7 (.lst [.str "waits", .str "refused", .str "doomed"]) = G7 at I7 r7 e7 w7 ⊢
    obtain ⟨o7, po7, ho7⟩ := I7.po
    have c47 : c + 1 + 9 * (1 + m1) + 1 + 9 * (1 + m4) < 2 ^ 40 := by omega
    have np7 : ∀ {x : Addr} {S : List Str}, G7 x = some (.lst (S.map V.str)) → x ≠ p := fun h e => I7.nes h (.inl e)
    walk_at "rd"
    intro r8 o8 r80 r81 ho8
    obtain ⟨m8, rfl⟩ := Int.eq_ofNat_of_zero_le r80
    have I8 := I7.draw ho8
    have r8 := upd_oth (o := o8) (np7 r7) r7
    have e8 := upd_oth (o := o8) (np7 e7) e7
    have w8 := upd_oth (o := o8) (np7 w7) w7
    generalize upd G7 p o8 = G8 at I8 r8 e8 w8 ⊢
    walk_at "rd"
    intro l9 hl9
    have I9 := I8.new (o := .lst (cutV ((["waits", "refused", "doomed"] : List Str).map V.str) none (some (m8 : Int)))) hl9
    have r9 := upd_old (o := .lst (cutV ((["waits", "refused", "doomed"] : List Str).map V.str) none (some (m8 : Int)))) r8 hl9
    have e9 := upd_old (o := .lst (cutV ((["waits", "refused", "doomed"] : List Str).map V.str) none (some (m8 : Int)))) e8 hl9
    have w9 := upd_same (H := G8) (a := l9) (o := .lst (cutV ((["waits", "refused", "doomed"] : List Str).map V.str) none (some (m8 : Int))))
    generalize upd G8 l9 (.lst (cutV ((["waits", "refused", "doomed"] : List Str).map V.str) none (some (m8 : Int)))) = G9 at I9 r9 e9 w9 ⊢
    rw [cutV_to, ← List.map_take] at w9
    have lt9 : ((["waits", "refused", "doomed"] : List Str).take m8).length ≤ 3 := by rw [List.length_take]; simp; omega
    have it9 : ∀ z ∈ (["waits", "refused", "doomed"] : List Str).take m8, IsWord z ∧ z ∈ dbW := fun z hz => by
      have hz := List.mem_of_mem_take hz
      simp only [List.mem_cons, List.not_mem_nil, or_false] at hz
      rcases hz with rfl | rfl | rfl <;> exact ⟨word_lit (by decide +kernel), by decide +kernel⟩
    generalize (["waits", "refused", "doomed"] : List Str).take m8 = T9 at w9 lt9 it9
    walk_at "rd"
    refine ⟨by rw [List.length_map, List.length_map, sizeLine_eq]; omega, fun l10 hl10 => ?_⟩
    have I10 := I9.new (o := .lst (E0.map V.str ++ T9.map V.str)) hl10
    have r10 := upd_old (o := .lst (E0.map V.str ++ T9.map V.str)) r9 hl10
    have e10 := upd_same (H := G9) (a := l10) (o := .lst (E0.map V.str ++ T9.map V.str))
    generalize upd G9 l10 (.lst (E0.map V.str ++ T9.map V.str)) = G10 at I10 r10 e10 ⊢
    rw [← List.map_append] at e10
    have nE : E0 ++ T9 ≠ [] := fun e => by
      have h0 := (List.append_eq_nil_iff.mp e).1
      rw [h0] at lE; simp only [List.length_nil] at lE; omega
    have nR : R ≠ [] := fun e => by rw [e] at lR; simp only [List.length_nil] at lR; omega
    have lET : (E0 ++ T9).length ≤ 20 := by rw [List.length_append]; omega
    have iET : ∀ w ∈ E0 ++ T9, IsWord w := fun w hw => (List.mem_append.mp hw).elim (iE w) fun h => (it9 w h).1
    have WL : WdL ⟨R, E0 ++ T9, names⟩ := ⟨by show R.length ≤ 4; omega, E0, by omega, fun w hw => (List.mem_append.mp hw).elim .inl fun h => .inr (it9 w h).2⟩
    have WK : WdOk ⟨R, E0 ++ T9, names⟩ others := ⟨iR, iET, ow, nw, ⟨nR, by show R.length ≤ 20; omega⟩, ⟨nE, lET⟩, ⟨on, by omega⟩, by show names.length ≤ 20; omega⟩
    walk_at "rd"
    intro D hD
    have I11 := I10.new (o := .lst []) hD
    have r11 := upd_old (o := .lst []) r10 hD
    have e11 := upd_old (o := .lst []) e10 hD
    have d11 := upd_same (H := G10) (a := D) (o := .lst [])
    have fD := I10.free hD
    generalize upd G10 D (.lst []) = G11 at I11 r11 e11 d11 ⊢
    generalize hcc : c + 1 + 9 * (1 + m1) + 1 + 9 * (1 + m4) + 1 = cc at I11
    have lcc : cc ≤ c + 200 := by omega
    have nN := I.nes hnm
    have nO := I.nes hot
    have h11 := I11.k _ _ hnm nN
    walk_at "rd"
    refine ⟨⟨_, SqL.of h11⟩, ?_⟩
    refine for_list (xs := names.map V.str) (fun i σ F => ∃ (_ : Unit) (l : Addr) (gs : List FT) (a' b' : Int) (c' : Nat) (v7 v8 : Option V), σ = [some (.ref p), some (.ref nm), some (.ref ot), some (.ref rm), some (.ref l3), some (.ref l10), some (.ref l), v7, v8] ∧ GJ H F p rm a' b' c' ∧ c' + 1000 * a'.toNat ≤ cc + 1000 * ra.toNat + 100 * i ∧
      F l3 = some (.lst (R.map V.str)) ∧ F l10 = some (.lst ((E0 ++ T9).map V.str)) ∧ F l = some (.lst (strsR (rowsF gs))) ∧ H l = none ∧ GLib ⟨R, E0 ++ T9, names⟩ others (names.take i) gs ra rb a' b') ?_ ?_ ?_ ?_
    · exact ⟨(), D, [], ra, rb, cc, none, none, rfl, I11, by omega, r11, e11, by rw [d11]; rfl, fD, GLib.nil _ _ ra rb⟩
    · rintro i σ F _ ⟨_, l, gs, a', b', c', v7, v8, rfl, IF, _⟩
      exact SqL.of (IF.k _ _ hnm nN)
    · rintro i v σ F hv ⟨_, l, gs, a', b', c', v7, v8, rfl, IF, hcF, rF, eF, lF, hfl, GL⟩
      obtain ⟨nmi, hni, rfl⟩ : ∃ z, names[i]? = some z ∧ v = .str z := by
        rw [List.getElem?_map] at hv
        cases q : names[i]? with
        | none => rw [q] at hv; cases hv
        | some z => rw [q] at hv; cases hv; exact ⟨z, rfl, rfl⟩
      have li : i < names.length := (List.getElem?_eq_some_iff.mp hni).1
      have iwn : IsWord nmi := nw _ (List.mem_of_getElem? hni)
      have lg : gs.length ≤ 6 := by
        have := congrArg List.length GL.nm
        rw [List.length_map, List.length_take] at this; omega
      have cnl := GL.cn
      have c6l := GL.c6
      have lnl := GL.ln
      have lrs : (strsR (rowsF gs)).length ≤ 100000 := by unfold strsR; rw [List.length_map, List.length_map]; omega
      have oF := IF.k _ _ hot nO
      have le1 : (Str.ofString "function ").length + nmi.length ≤ sizeLine := by rw [sizeLine_eq, show (Str.ofString "function ").length = 9 by decide +kernel]; have := iwn.len; omega
      walk_at "rd"
      intro t1 ht1
      have J1 := IF.new (o := .lst []) ht1
      have s1 : Same F (upd F t1 (.lst [])) := (Same.refl F).new ht1
      have z1 := upd_same (H := F) (a := t1) (o := .lst [])
      generalize upd F t1 (.lst []) = F1 at J1 s1 z1 ⊢
      refine ⟨ot, t1, others.map V.str, rfl, rfl, SqL.of (s1 _ _ oF), SqL.of z1, _, rfl, ?_⟩
      have ne1 : (!(others.map V.str).isEmpty) = true := by
        cases hoo : others with
        | nil => exact absurd hoo on
        | cons => rfl
      rw [ne1]
      refine iteT ?_
      walk_at "rd"
      intro lw hlw
      have J2 := J1.new (o := .lst [.ref l3, .ref l10, .ref ot, .ref nm]) hlw
      have s2 := s1.new (o := .lst [.ref l3, .ref l10, .ref ot, .ref nm]) hlw
      have z2 := upd_same (H := F1) (a := lw) (o := .lst [.ref l3, .ref l10, .ref ot, .ref nm])
      generalize upd F1 lw (.lst [.ref l3, .ref l10, .ref ot, .ref nm]) = F2 at J2 s2 z2 ⊢
      walk_at "rd"
      intro l4 hl4
      have J3 := J2.new (o := .lst [.str (Str.ofString "function " ++ nmi)]) hl4
      have s3 := s2.new (o := .lst [.str (Str.ofString "function " ++ nmi)]) hl4
      have z3 := upd_old (o := .lst [.str (Str.ofString "function " ++ nmi)]) z2 hl4
      have x3 := upd_same (H := F2) (a := l4) (o := .lst [.str (Str.ofString "function " ++ nmi)])
      generalize upd F2 l4 (.lst [.str (Str.ofString "function " ++ nmi)]) = F3 at J3 s3 z3 x3 ⊢
      have lF3 := s3 _ _ lF
      walk_at "rd"
      refine ⟨by rw [sizeLine_eq]; simp only [List.length_cons, List.length_nil]; omega, fun l5 hl5 => ?_⟩
      have J4 := J3.new (o := .lst (strsR (rowsF gs) ++ [.str (Str.ofString "function " ++ nmi)])) hl5
      have s4 := s3.new (o := .lst (strsR (rowsF gs) ++ [.str (Str.ofString "function " ++ nmi)])) hl5
      have z4 := upd_old (o := .lst (strsR (rowsF gs) ++ [.str (Str.ofString "function " ++ nmi)])) z3 hl5
      have x4 : (upd F3 l5 (.lst (strsR (rowsF gs) ++ [.str (Str.ofString "function " ++ nmi)]))) l5 = some (.lst (strsR (rowsF gs ++ [some (0, [Str.ofString "function", nmi])]))) := by
        rw [upd_same, fun_line]; unfold strsR; rw [List.map_append, List.map_append]; rfl
      generalize upd F3 l5 (.lst (strsR (rowsF gs) ++ [.str (Str.ofString "function " ++ nmi)])) = F4 at J4 s4 z4 x4 ⊢
      have K4 : GI F4 F4 p rm ⟨lw, l3, l10, ot, nm⟩ ⟨R, E0 ++ T9, names⟩ others a' b' c' := ⟨Kp.refl, J4.po, ⟨z4, s4 _ _ rF, s4 _ _ eF, J4.k _ _ hot nO, J4.k _ _ hnm nN⟩, J4.rm_⟩
      walk_at "rd"
      refine ⟨(), p, rm, ⟨lw, l3, l10, ot, nm⟩, 1, ⟨R, E0 ++ T9, names⟩, others, a', b', c', rfl, rfl, by omega, by omega, K4, WK, by omega, by omega, by omega, fun H' l6 bd a6 b6 c6 J hc6 hl6 hrw B => ?_⟩
      have J5 : GJ H H' p rm a6 b6 c6 := ⟨J4.k.trans J.k, J.po, J.rm_⟩
      have x5 := J.k _ _ x4 (K4.nes x4)
      have r5 := J.k _ _ (s4 _ _ rF) (K4.nes (s4 _ _ rF))
      have e5' := J.k _ _ (s4 _ _ eF) (K4.nes (s4 _ _ eF))
      have lB := B.len (by omega) 1
      have er : strsR (rowsF gs ++ [some (0, [Str.ofString "function", nmi])]) ++ strsR (rowsB 1 bd) = strsR (rowsF (gs ++ [(nmi, bd)])) := by
        rw [rowsF_snoc]
        simp [strsR]
      have l5s : (strsR (rowsF gs ++ [some (0, [Str.ofString "function", nmi])])).length ≤ 100001 := by
        unfold strsR at lrs ⊢
        rw [List.length_map, List.length_map] at lrs
        rw [List.length_map, List.length_map, List.length_append]
        simp only [List.length_cons, List.length_nil]
        omega
      have l6s : (strsR (rowsB 1 bd)).length ≤ 10000 := by unfold strsR; rw [List.length_map, List.length_map]; exact lB
      walk_at "rd"
      refine ⟨by rw [sizeLine_eq]; omega, fun l7 hl7 => ?_⟩
      rw [er]
      refine ⟨(), l7, gs ++ [(nmi, bd)], a6, b6, c6, _, _, rfl, J5.new hl7, by omega, upd_old r5 hl7, upd_old e5' hl7, upd_same, J5.free hl7, ?_⟩
      rw [List.take_add_one, hni]
      exact GL.snoc iwn B
    · rintro σ F ⟨_, l, gs, a', b', c', v7, v8, rfl, IF, hcF, rF, eF, lF, hfl, GL⟩
      rw [List.length_map, List.take_length] at GL
      rw [List.length_map] at hcF
      walk_at "rd"
      exact k F l ⟨R, E0 ++ T9, names⟩ gs a' b' c' rfl WL IF (by omega) hfl lF GL
/-! ### a drawn library is within all bounds -/
theorem mode7 {m : Str} (h : modeS m = true) : m.length ≤ 7 := by
  have h := of_decide_eq_true h
  simp only [List.mem_cons, List.not_mem_nil, or_false] at h
  rcases h with rfl | rfl | rfl | rfl | rfl | rfl | rfl | rfl <;> decide +kernel
theorem line52 {n : Nat} {ws : List Str} (hn : n ≤ 8) (ne : ws ≠ []) (h : (ws.map fun w => w.length + 1).sum ≤ 37) : (lineS n ws).length ≤ 52 := by
  have := line_len (n := n) ne
  omega
theorem sumE {l : List Str} {k : Nat} (h : ∀ w ∈ l, IsWord w) (hk : l.length ≤ k) : (l.map fun w => w.length + 1).sum ≤ 9 * k := by
  have : ∀ l : List Str, (∀ w ∈ l, IsWord w) → (l.map fun w => w.length + 1).sum ≤ 9 * l.length := by
    intro l
    induction l with
    | nil => intro _; simp
    | cons w r ih =>
      intro h
      have := ih fun x hx => h x (List.mem_cons_of_mem _ hx)
      have := (h w List.mem_cons_self).len
      rw [List.map_cons, List.sum_cons, List.length_cons]
      omega
  have := this l h
  omega
theorem sum2 (a b : Str) (l : List Str) : ((a :: b :: l).map fun w => w.length + 1).sum = a.length + 1 + (b.length + 1) + (l.map fun w => w.length + 1).sum := by
  simp only [List.map_cons, List.sum_cons]; omega
theorem sum1 (a : Str) (l : List Str) : ((a :: l).map fun w => w.length + 1).sum = a.length + 1 + (l.map fun w => w.length + 1).sum := by
  simp only [List.map_cons, List.sum_cons]
theorem hdrs52 {W : Wds} {C : List Str} {n k : Nat} (hn : n ≤ 8) : ∀ {h : Hd}, HdW n k h → gH W C h → ∀ x ∈ hdrs h, (lineS n x).length ≤ 52
  | .sim w, h, g, x, hx => by
    rw [List.mem_singleton.mp hx]
    have := (two_word h.1).len
    exact line52 hn (by simp) (by rw [sum1]; simp; omega)
  | .one q w, h, g, x, hx => by
    rw [List.mem_singleton.mp hx]
    have := (three_word h.1).len
    have := h.2.1.len
    exact line52 hn (by simp) (by rw [sum2]; simp; omega)
  | .blk _ m ks, h, g, x, hx => by
    rw [List.mem_singleton.mp hx]
    have := mode7 h.1
    refine line52 hn (by simp) ?_
    rw [sum2, show (Str.ofString "block").length = 5 by decide +kernel]
    split
    · simp; omega
    · rw [sum1, show (Str.ofString "keep").length = 4 by decide +kernel]
      have := sumE h.2.1 g.2
      omega
  | .gua q, h, g, x, hx => by
    rw [List.mem_singleton.mp hx]
    have := (gua_word h.1).len
    exact line52 hn (by simp) (by rw [sum1]; simp; omega)
  | .tr ws fin, h, g, x, hx => by
    rcases List.mem_cons.mp hx with rfl | hx
    · exact line52 hn (by simp) (by rw [sum1]; decide +kernel)
    rcases List.mem_append.mp hx with hx | hx
    · obtain ⟨o, ho, rfl⟩ := List.mem_map.mp hx
      refine line52 hn (by simp) ?_
      rw [sum1, show (Str.ofString "except").length = 6 by decide +kernel]
      cases o with
      | none => simp
      | some l =>
        have := sumE (h.1.wd l ho).2 (g l ho).2
        show 6 + 1 + (l.map fun w => w.length + 1).sum ≤ 37
        omega
    · split at hx
      · rw [List.mem_singleton.mp hx]
        exact line52 hn (by simp) (by rw [sum1]; decide +kernel)
      · cases hx
mutual
theorem rowsS52 {W : Wds} : ∀ (s : Stm) (C : List Str) (n : Nat), n ≤ 8 → wfS n s → gS W C s → ∀ r ∈ rowsS n s, (lineR r).length ≤ 52
  | .mk h ps, C, n, hn, hw, hg, r, hr => by
    rw [wfS] at hw
    rw [gS] at hg
    rw [rowsS] at hr
    exact rowsP52 ps _ n (hdrs h) hn (fun c => hw.1.deep (by simpa using c)) (hdrs52 hn hw.1 hg.1) hw.2 hg.2 r hr
theorem rowsP52 {W : Wds} : ∀ (ps : List (List Stm)) (C : List Str) (n : Nat) (hs : List (List Str)), n ≤ 8 → (ps ≠ [] → n < 8) → (∀ x ∈ hs, (lineS n x).length ≤ 52) → wfP (n + 1) ps → gP W C ps → ∀ r ∈ rowsP n hs ps, (lineR r).length ≤ 52
  | [], C, n, hs, hn, _, hh, _, _, r, hr => by
    rw [rowsP] at hr
    obtain ⟨x, hx, rfl⟩ := List.mem_map.mp hr
    exact hh x hx
  | b :: ps, C, n, hs, hn, hd, hh, hw, hg, r, hr => by
    rw [wfP] at hw
    rw [gP] at hg
    rw [rowsP] at hr
    have lt := hd (by simp)
    rcases List.mem_append.mp hr with hr | hr
    · cases hs with
      | nil => cases hr
      | cons x t =>
        rw [List.mem_singleton.mp hr]
        exact hh x List.mem_cons_self
    rcases List.mem_append.mp hr with hr | hr
    · exact rowsB52 b C (n + 1) (by omega) hw.1.2 hg.1 r hr
    · exact rowsP52 ps C n hs.tail hn (fun _ => lt) (fun x hx => hh x (List.mem_of_mem_tail hx)) hw.2 hg.2 r hr
theorem rowsB52 {W : Wds} : ∀ (b : List Stm) (C : List Str) (n : Nat), n ≤ 8 → wfB n b → gB W C b → ∀ r ∈ rowsB n b, (lineR r).length ≤ 52
  | [], C, n, _, _, _, r, hr => by rw [rowsB] at hr; cases hr
  | s :: t, C, n, hn, hw, hg, r, hr => by
    rw [wfB] at hw
    rw [gB] at hg
    rw [rowsB] at hr
    rcases List.mem_append.mp hr with hr | hr
    · exact rowsS52 s C n hn hw.1 hg.1 r hr
    · exact rowsB52 t C n hn hw.2 hg.2 r hr
end
theorem freeB_sub (b : List Stm) : (freeB b).Sublist (allB b) := by
  unfold freeB
  rw [← lsB_fst false]
  exact List.Sublist.map _ (List.filter_sublist (l := lsB false b))
theorem allT_sub {gs : List FT} {g : FT} (h : g ∈ gs) : (allB g.2).Sublist (allT gs) := by
  unfold allT
  exact List.sublist_flatten_of_mem (List.mem_map_of_mem (f := fun g : FT => allB g.2) h)
structure GAll (W : Wds) (C names : List Str) (gs : List FT) : Prop where
  ok : ∀ g ∈ gs, FTOk g
  nm : gs.map (·.1) = names
  st : ∀ s ∈ allT gs, StG W C s
  ct : (allT gs).length ≤ 64
section
variable {W : Wds} {C names : List Str} {gs : List FT} {ra rb a' b' : Int}
theorem GLib.cnt (G : GLib W C names gs ra rb a' b') (ha : ra ≤ 10) (hb : rb ≤ 4) (ln : names.length ≤ 4) : (allT gs).length ≤ 64 ∧ (gs.map fun g => nbB g.2).sum ≤ 10 ∧ (rowsF gs).length ≤ 98 ∧ ownN W.N (allT gs) ≤ 4 ∧ gs.length = names.length := by
  have h1 := G.cn
  have h2 := G.c6
  have h3 := G.nb
  have h4 := G.ln
  have h5 := G.ow
  have l := congrArg List.length G.nm
  rw [List.length_map] at l
  omega
theorem GLib.st (G : GLib W C names gs ra rb a' b') : ∀ s ∈ allT gs, StG W C s := fun s hs => by
  obtain ⟨l, hl, hs⟩ := List.mem_flatten.mp hs
  obtain ⟨g, hg, rfl⟩ := List.mem_map.mp hl
  exact gB_all g.2 C (G.g g hg) s hs
theorem GLib.bound (G : GLib W C names gs ra rb a' b') (ha : ra ≤ 10) (hb : rb ≤ 4) (ln : names.length ≤ 4) (hW : WdL W) (hN : W.N = names) (hC : C.length ≤ 4) : boundV (funsF 0 0 gs) (mksF 0 gs) = none := by
  obtain ⟨c2, c5, _, _, c1⟩ := G.cnt ha hb ln
  have st := G.st
  have hr := hW.r
  obtain ⟨E0, lE, hE⟩ := hW.e
  have c3 : (setT (recT gs)).length ≤ 4 := by
    refine Nat.le_trans (nodup_le (xs := setT (recT gs)) (ys := W.R) setT_nd fun x hx => ?_) hr
    rw [setT_mem] at hx
    obtain ⟨s, hs, e⟩ := List.mem_filterMap.mp hx
    exact (st s hs).wr x e
  have c6 : (setT (unkT gs)).length ≤ 4 := by
    refine Nat.le_trans (nodup_le (xs := setT (unkT gs)) (ys := C) setT_nd fun x hx => ?_) hC
    rw [setT_mem] at hx
    obtain ⟨hx, hn⟩ := List.mem_filter.mp hx
    obtain ⟨s, hs, e⟩ := List.mem_filterMap.mp hx
    rcases (st s hs).cl x e with h | h
    · exact h
    · rw [hN, ← G.nm] at h
      simp [h] at hn
  have c4 : (setT (errT gs)).length ≤ 8 := by
    refine Nat.le_trans (nodup_le (xs := setT (errT gs)) (ys := dbW ++ E0) setT_nd fun x hx => ?_) (by rw [List.length_append]; show 5 + E0.length ≤ 8; omega)
    rw [setT_mem] at hx
    rcases List.mem_append.mp hx with hx | hx
    · exact List.mem_append_left _ hx
    · obtain ⟨l, hl, hx⟩ := List.mem_flatten.mp hx
      obtain ⟨s, hs, rfl⟩ := List.mem_map.mp hl
      rcases hE x ((st s hs).wd x hx) with h | h
      · exact List.mem_append_right _ h
      · exact List.mem_append_left _ h
  unfold boundV
  rw [find_none' (fun c hc => ?_)]
  · rfl
  · unfold countsF at hc
    rw [recN_T, errN_T, unkN_T, pairsF_T, funsF_len] at hc
    simp only [List.mem_cons, List.not_mem_nil, or_false] at hc
    have c7 : (mksF 0 gs).length ≤ 10 := by rw [mksF_len]; exact c5
    rcases hc with rfl | rfl | rfl | rfl | rfl | rfl <;> refine decide_eq_false ?_
    · show ¬ 12 < gs.length; omega
    · show ¬ 80 < (allT gs).length; omega
    · show ¬ 6 < (setT (recT gs)).length; omega
    · show ¬ 11 < (setT (errT gs)).length; omega
    · show ¬ 16 < (mksF 0 gs).length; omega
    · show ¬ 4 < (setT (unkT gs)).length; omega
theorem GLib.calls (G : GLib W C names gs ra rb a' b') (hd : ∀ w ∈ C, w ∉ names) : ∀ x, callsN names (bodyT gs x) = [] := fun x => by
  unfold bodyT
  cases e : gs.find? (fun g => decide (g.1 = x)) with
  | none => simp [callsN, freeB, lsB]
  | some g => exact gB_calls (G.g g (List.mem_of_find?_eq_some e)) hd
theorem GLib.fine (G : GLib W C names gs ra rb a' b') (ha : ra ≤ 10) (hb : rb ≤ 4) (ln : names.length ≤ 4) (hN : W.N = names) (hd : ∀ w ∈ C, w ∉ names) : endR (funsF 0 0 gs) = .fine := by
  obtain ⟨c2, c5, _, c4, c1⟩ := G.cnt ha hb ln
  have cb : ∀ b, callsB (funsF 0 0 gs) b = callsN names b := fun b => by rw [callsB_T, G.nm]
  have cbo : ∀ x, callsB (funsF 0 0 gs) (bodyOf (funsF 0 0 gs) x) = [] := fun x => by
    obtain ⟨c, e⟩ := bodyOf_T gs 0 0 x
    rw [e, callsB_num, cb, G.calls hd]
  have no : ∀ x y, ¬ Rch (callsF (funsF 0 0 gs)) x y := fun x y h => by
    induction h with
    | one h => rw [callOf_eq, cbo] at h; cases h
    | more _ _ ih => exact ih
  have fr : ∀ x, (freeB (bodyOf (funsF 0 0 gs) x)).length ≤ 64 := fun x => by
    obtain ⟨c, e⟩ := bodyOf_T gs 0 0 x
    rw [e, (freeB_num _ c).len]
    unfold bodyT
    cases e : gs.find? (fun g => decide (g.1 = x)) with
    | none => simp [freeB, lsB]
    | some g => exact Nat.le_trans (Nat.le_trans (freeB_sub g.2).length_le (allT_sub (List.mem_of_find?_eq_some e)).length_le) c2
  have wt : ∀ x, wtF (funsF 0 0 gs) 13 x ≤ 64 := fun x => by
    rw [wtF_succ]
    have := wtB_le (fs := funsF 0 0 gs) (n := 12) (M := 0) (b := bodyOf (funsF 0 0 gs) x) fun y hy => by rw [cbo] at hy; cases hy
    rw [cbo] at this
    have := fr x
    simp only [List.length_nil] at *
    omega
  unfold endR
  rw [find_none' fun x _ => by
    cases e : backB (callsF (funsF 0 0 gs)) x with
    | false => rfl
    | true => exact absurd (back_iff.mp e) (no x x)]
  simp only
  rw [if_neg]
  rintro (z | z)
  · obtain ⟨x, _, h⟩ := List.any_eq_true.mp z
    have := wt x
    have := of_decide_eq_true h
    omega
  · obtain ⟨x, hx, h⟩ := List.any_eq_true.mp z
    obtain ⟨i, hi, rfl⟩ := List.getElem_of_mem hx
    obtain ⟨y, hy, hR⟩ := (allF_num gs 0 0).at (List.getElem?_eq_getElem hi)
    rw [heavyS_num _ hR] at h
    have ym := List.mem_of_getElem? hy
    unfold heavyS at h
    cases ep : y.ps with
    | nil => rw [ep] at h; simp at h
    | cons b r =>
      rw [ep] at h
      simp only [Bool.and_eq_true, decide_eq_true_eq] at h
      have sub : (allB b).Sublist (allT gs) := by
        obtain ⟨l, hl, hs⟩ := List.mem_flatten.mp ym
        obtain ⟨g, hg, rfl⟩ := List.mem_map.mp hl
        exact (subB_l hs (by rw [ep]; exact List.mem_cons_self)).trans (allT_sub hg)
      have := wtB_le (fs := funsF 0 0 gs) (n := 13) (M := 64) (b := b) fun z _ => wt z
      rw [cb] at this
      have k1 := ((freeB_sub b).trans sub).length_le
      have k2 : (callsN names b).length ≤ 4 := by
        have := ownN_sub (ns := names) ((freeB_sub b).trans sub)
        rw [← hN] at this ⊢
        exact Nat.le_trans this c4
      omega
theorem GLib.text (G : GLib W C names gs ra rb a' b') (ha : ra ≤ 10) (hb : rb ≤ 4) (ln : names.length ≤ 4) (ne : gs ≠ []) : (textR (rowsF gs)).length ≤ 5200 := by
  obtain ⟨_, _, c3, _, _⟩ := G.cnt ha hb ln
  have := textR_le (L := 52) (rowsF_ne ne) fun r hr => by
    obtain ⟨l, hl, hr⟩ := List.mem_flatten.mp hr
    obtain ⟨g, hg, rfl⟩ := List.mem_map.mp hl
    have o := G.ok g hg
    rcases List.mem_cons.mp hr with rfl | hr
    · have := o.nm.len
      refine line52 (by omega) (by simp) ?_
      rw [sum2, show (Str.ofString "function").length = 8 by decide +kernel]; simp; omega
    · exact rowsB52 g.2 C 1 (by omega) o.wf (G.g g hg) r hr
  have m := Nat.mul_le_mul_right 53 c3
  omega
theorem GLib.lib (G : GLib W C names gs ra rb a' b') (ha : ra ≤ 10) (hb : rb ≤ 4) (ln : names.length ≤ 4) (nn : names.Nodup) (nE : names ≠ []) (hW : WdL W) (hN : W.N = names) (hC : C.length ≤ 4) (hd : ∀ w ∈ C, w ∉ names) :
    ∃ k, rdAll (rowsOf (textR (rowsF gs))) k 0 [] [] = some (.ok (funsF 0 0 gs) (rowsF gs).length (mksF 0 gs)) ∧ TextOk (textR (rowsF gs)) ∧ (textR (rowsF gs)).length ≤ 5200 ∧
      libR (textR (rowsF gs)) 6000 (.ok (funsF 0 0 gs) (rowsF gs).length (mksF 0 gs)) = .ok (funsF 0 0 gs) (mksF 0 gs) := by
  have ne : gs ≠ [] := fun e => by rw [e] at G; exact nE (by rw [← G.nm]; rfl)
  have good := rowsF_good G.ok
  have le := G.text ha hb ln ne
  obtain ⟨k, h⟩ := readF (rowsF gs) gs 0 [] [] G.ok rfl (by rw [G.nm]; exact nn) (fun g _ => by simp) (Nat.zero_le _)
  refine ⟨k, ?_, textR_ok (rowsF_ne ne) good (by omega), le, ?_⟩
  · rw [textR_rows (rowsF_ne ne) good]
    exact h k (Nat.le_refl _)
  · unfold libR
    rw [if_neg (by omega)]
    show (match boundV (funsF 0 0 gs) (mksF 0 gs) with | some w => LibR.many w | none => match endR (funsF 0 0 gs) with | .fine => LibR.ok _ _ | .loop x => LibR.loop x | .heavy => LibR.many "weight") = _
    rw [G.bound ha hb ln hW hN hC, G.fine ha hb ln hN hd]
end
/-! ### what the rows of a drawn library say -/
def wdsR : Row → List Str
  | some (_, ws) => ws
  | none => []
/-- something of each row -/
def FR {β : Type} (φ : List Str → List β) (rows : List Row) : List β := (rows.map fun r => φ (wdsR r)).flatten
def hdW_ (h : Hd) : List Str := (hdrs h).headD []
def psiS {β : Type} (φ : List Str → List β) (l : List Stm) : List β := (l.map fun t => φ (hdW_ t.hd)).flatten
section
variable {β : Type} {φ : List Str → List β}
theorem FR_app (a b : List Row) : FR φ (a ++ b) = FR φ a ++ FR φ b := by unfold FR; rw [List.map_append, List.flatten_append]
theorem FR_cons (r : Row) (b : List Row) : FR φ (r :: b) = φ (wdsR r) ++ FR φ b := by unfold FR; rw [List.map_cons, List.flatten_cons]
theorem psiS_app (a b : List Stm) : psiS φ (a ++ b) = psiS φ a ++ psiS φ b := by unfold psiS; rw [List.map_append, List.flatten_append]
theorem psiS_cons (s : Stm) (b : List Stm) : psiS φ (s :: b) = φ (hdW_ s.hd) ++ psiS φ b := by unfold psiS; rw [List.map_cons, List.flatten_cons]
mutual
theorem FR_S (hT : ∀ n k h, HdW n k h → ∀ x ∈ (hdrs h).tail, φ x = []) : ∀ (s : Stm) (n m : Nat), wfS n s → FR φ (rowsS m s) = psiS φ (allS s)
  | .mk h [], n, m, hw => by
    rw [wfS] at hw
    have l := hdrs_one hw.1 rfl
    rw [rowsS, rowsP, allS, allP, psiS_cons]
    cases e : hdrs h with
    | nil => rw [e] at l; cases l
    | cons x t =>
      rw [e] at l
      have : t = [] := by cases t with | nil => rfl | cons => simp at l
      subst this
      show FR φ [some (m, x)] = φ (hdW_ h) ++ []
      unfold hdW_
      rw [e]
      simp [FR, wdsR]
  | .mk h (b :: ps), n, m, hw => by
    rw [wfS] at hw
    have l := hdrs_len hw.1 (by simp)
    rw [rowsS, allS, psiS_cons]
    have tl := hT _ _ _ hw.1
    cases e : hdrs h with
    | nil => rw [e] at l; cases l
    | cons x t =>
      rw [e] at l tl
      rw [wfP] at hw
      rw [rowsP, FR_app, FR_app, List.tail_cons, FR_B hT b (n + 1) (m + 1) hw.2.1.2, FR_P hT ps (n + 1) m t hw.2.2 (by simpa using l) tl, allP, psiS_app]
      show FR φ [some (m, x)] ++ _ = φ (hdW_ h) ++ _
      unfold hdW_
      rw [e]
      simp [FR, wdsR]
theorem FR_P (hT : ∀ n k h, HdW n k h → ∀ x ∈ (hdrs h).tail, φ x = []) : ∀ (ps : List (List Stm)) (n m : Nat) (hs : List (List Str)), wfP n ps → hs.length = ps.length → (∀ x ∈ hs, φ x = []) → FR φ (rowsP m hs ps) = psiS φ (allP ps)
  | [], n, m, hs, _, l, _ => by
    have : hs = [] := List.length_eq_zero_iff.mp l
    subst this
    rw [rowsP, allP]; rfl
  | b :: ps, n, m, hs, hw, l, hx => by
    cases hs with
    | nil => cases l
    | cons x t =>
      rw [wfP] at hw
      rw [rowsP, FR_app, FR_app, List.tail_cons, FR_B hT b n (m + 1) hw.1.2, FR_P hT ps n m t hw.2 (by simpa using l) (fun y hy => hx y (List.mem_cons_of_mem _ hy)), allP, psiS_app]
      have := hx x List.mem_cons_self
      simp [FR, topR, wdsR, this]
theorem FR_B (hT : ∀ n k h, HdW n k h → ∀ x ∈ (hdrs h).tail, φ x = []) : ∀ (b : List Stm) (n m : Nat), wfB n b → FR φ (rowsB m b) = psiS φ (allB b)
  | [], n, m, _ => by rw [rowsB, allB]; rfl
  | s :: r, n, m, hw => by
    rw [wfB] at hw
    rw [rowsB, FR_app, FR_S hT s n m hw.1, FR_B hT r n m hw.2, allB, psiS_app]
end
theorem FR_F (hT : ∀ n k h, HdW n k h → ∀ x ∈ (hdrs h).tail, φ x = []) (hf : ∀ nm, φ [Str.ofString "function", nm] = []) : ∀ {gs : List FT}, (∀ g ∈ gs, FTOk g) → FR φ (rowsF gs) = psiS φ (allT gs)
  | [], _ => rfl
  | g :: r, h => by
    have e : rowsF (g :: r) = (some (0, [Str.ofString "function", g.1]) :: rowsB 1 g.2) ++ rowsF r := rfl
    rw [e, FR_app, FR_cons, FR_B hT g.2 1 1 (h g List.mem_cons_self).wf, FR_F hT hf fun x hx => h x (List.mem_cons_of_mem _ hx)]
    show φ [Str.ofString "function", g.1] ++ _ ++ _ = psiS φ (allB g.2 ++ allT r)
    rw [hf, psiS_app]; rfl
/-- what any row of a statement has -/
def anyS (φ : List Str → List β) (h : Hd) : List β := ((hdrs h).map φ).flatten
mutual
theorem FR_memS {w : β} : ∀ (s : Stm) (n m : Nat), wfS n s → (w ∈ FR φ (rowsS m s) ↔ ∃ t ∈ allS s, w ∈ anyS φ t.hd)
  | .mk h ps, n, m, hw => by
    rw [wfS] at hw
    rw [rowsS, allS]
    have key := FR_memP (w := w) ps (n + 1) m (hdrs h) hw.2 (by
      cases ps with
      | nil => exact .inr rfl
      | cons b t => exact .inl (hdrs_len hw.1 (by simp)))
    rw [key]
    constructor
    · rintro (h1 | ⟨t, ht, h2⟩)
      · exact ⟨.mk h ps, List.mem_cons_self, h1⟩
      · exact ⟨t, List.mem_cons_of_mem _ ht, h2⟩
    · rintro ⟨t, ht, h2⟩
      rcases List.mem_cons.mp ht with rfl | ht
      · exact .inl h2
      · exact .inr ⟨t, ht, h2⟩
theorem FR_memP {w : β} : ∀ (ps : List (List Stm)) (n m : Nat) (hs : List (List Str)), wfP n ps → (hs.length = ps.length ∨ ps = []) → (w ∈ FR φ (rowsP m hs ps) ↔ w ∈ (hs.map φ).flatten ∨ ∃ t ∈ allP ps, w ∈ anyS φ t.hd)
  | [], n, m, hs, _, _ => by
    rw [rowsP, allP]
    unfold FR
    rw [List.map_map]
    constructor
    · intro h; exact .inl h
    · rintro (h | ⟨t, ht, _⟩)
      · exact h
      · cases ht
  | b :: ps, n, m, hs, hw, l => by
    cases hs with
    | nil => exact absurd l (by simp)
    | cons x t =>
      have l : (x :: t).length = (b :: ps).length := l.resolve_right (by simp)
      rw [wfP] at hw
      rw [rowsP, FR_app, FR_app, List.tail_cons, allP, List.mem_append, List.mem_append, FR_memB b n (m + 1) hw.1.2, FR_memP ps n m t hw.2 (.inl (by simpa using l)), List.map_cons, List.flatten_cons, List.mem_append]
      have e : FR φ (topR m (x :: t)) = φ x := by simp [FR, topR, wdsR]
      rw [e]
      constructor
      · rintro (h | ⟨t, ht, h2⟩ | h | ⟨t, ht, h2⟩)
        · exact .inl (.inl h)
        · exact .inr ⟨t, List.mem_append_left _ ht, h2⟩
        · exact .inl (.inr h)
        · exact .inr ⟨t, List.mem_append_right _ ht, h2⟩
      · rintro ((h | h) | ⟨t, ht, h2⟩)
        · exact .inl h
        · exact .inr (.inr (.inl h))
        · rcases List.mem_append.mp ht with ht | ht
          · exact .inr (.inl ⟨t, ht, h2⟩)
          · exact .inr (.inr (.inr ⟨t, ht, h2⟩))
theorem FR_memB {w : β} : ∀ (b : List Stm) (n m : Nat), wfB n b → (w ∈ FR φ (rowsB m b) ↔ ∃ t ∈ allB b, w ∈ anyS φ t.hd)
  | [], n, m, _ => by rw [rowsB, allB]; simp [FR]
  | s :: r, n, m, hw => by
    rw [wfB] at hw
    rw [rowsB, FR_app, List.mem_append, FR_memS s n m hw.1, FR_memB r n m hw.2, allB]
    constructor
    · rintro (⟨t, ht, h⟩ | ⟨t, ht, h⟩)
      · exact ⟨t, List.mem_append_left _ ht, h⟩
      · exact ⟨t, List.mem_append_right _ ht, h⟩
    · rintro ⟨t, ht, h⟩
      rcases List.mem_append.mp ht with ht | ht
      · exact .inl ⟨t, ht, h⟩
      · exact .inr ⟨t, ht, h⟩
end
theorem FR_memF {w : β} (hf : ∀ nm, φ [Str.ofString "function", nm] = []) : ∀ {gs : List FT}, (∀ g ∈ gs, FTOk g) → (w ∈ FR φ (rowsF gs) ↔ ∃ t ∈ allT gs, w ∈ anyS φ t.hd)
  | [], _ => by simp [FR, rowsF, allT]
  | g :: r, h => by
    have e : rowsF (g :: r) = (some (0, [Str.ofString "function", g.1]) :: rowsB 1 g.2) ++ rowsF r := rfl
    have e2 : allT (g :: r) = allB g.2 ++ allT r := rfl
    rw [e, FR_app, FR_cons, List.mem_append, List.mem_append, FR_memB g.2 1 1 (h g List.mem_cons_self).wf, FR_memF hf fun x hx => h x (List.mem_cons_of_mem _ hx), e2]
    rw [show φ (wdsR (some (0, [Str.ofString "function", g.1]))) = [] from hf g.1]
    constructor
    · rintro ((h | ⟨t, ht, h⟩) | ⟨t, ht, h⟩)
      · cases h
      · exact ⟨t, List.mem_append_left _ ht, h⟩
      · exact ⟨t, List.mem_append_right _ ht, h⟩
    · rintro ⟨t, ht, h⟩
      rcases List.mem_append.mp ht with ht | ht
      · exact .inl (.inr ⟨t, ht, h⟩)
      · exact .inr ⟨t, ht, h⟩
end
/-- the second word of the rows that begin with k -/
def phi (k : Str) (ws : List Str) : List Str := if fstW ws = k then [ws.getD 1 ""] else []
theorem hdrs_tail {n k : Nat} : ∀ {h : Hd}, HdW n k h → ∀ x ∈ (hdrs h).tail, fstW x = Str.ofString "except" ∨ fstW x = Str.ofString "finally"
  | .sim _, _, x, hx => nomatch hx
  | .one _ _, _, x, hx => nomatch hx
  | .blk _ _ _, _, x, hx => nomatch hx
  | .gua _, _, x, hx => nomatch hx
  | .tr ws fin, _, x, hx => by
    rcases List.mem_append.mp hx with hx | hx
    · obtain ⟨o, _, rfl⟩ := List.mem_map.mp hx
      exact .inl rfl
    · split at hx
      · rw [List.mem_singleton.mp hx]; exact .inr rfl
      · cases hx
theorem phi_tail {k : Str} (h1 : k ≠ Str.ofString "except") (h2 : k ≠ Str.ofString "finally") : ∀ n j h, HdW n j h → ∀ x ∈ (hdrs h).tail, phi k x = [] := fun n j h hw x hx => by
  unfold phi
  rw [if_neg]
  intro e
  rcases hdrs_tail hw x hx with h | h
  · exact h1 (e ▸ h)
  · exact h2 (e ▸ h)
theorem hd_fst (h : Hd) : fstW (hdW_ h) = kdS h := by cases h <;> rfl
theorem phi_name {k : Str} (hk : k = Str.ofString "write" ∨ k = Str.ofString "raise" ∨ k = Str.ofString "call") {s : Stm} {n j : Nat} (hw : HdW n j s.hd) : phi k (hdW_ s.hd) = (nameOf k s).toList := by
  have e := hd_fst s.hd
  unfold phi nameOf
  rw [e]
  cases q : s.hd with
  | one k' w =>
    show (if k' = k then _ else _) = _
    dsimp only
    split
    · rfl
    · rfl
  | sim w =>
    rw [q] at hw
    rw [if_neg]
    · rfl
    · show ¬ w = k
      rcases in2 hw.1 with rfl | rfl <;> rcases hk with rfl | rfl | rfl <;> decide +kernel
  | blk n m ks =>
    rw [if_neg]
    · rfl
    · show ¬ (Str.ofString "block" = k)
      rcases hk with rfl | rfl | rfl <;> decide +kernel
  | gua w =>
    rw [q] at hw
    rw [if_neg]
    · rfl
    · show ¬ w = k
      rcases inG hw.1 with rfl | rfl <;> rcases hk with rfl | rfl | rfl <;> decide +kernel
  | tr ws fin =>
    rw [if_neg]
    · rfl
    · show ¬ (Str.ofString "try" = k)
      rcases hk with rfl | rfl | rfl <;> decide +kernel
/-! ### k20: library[name], name in library, str, == -/
def hasF (fs : List Fun) : V → Bool
  | .str z => decide (z ∈ namesF fs)
  | _ => false
theorem hasF_eq {fs : List Fun} {ps : List Addr} (h : ps.length = fs.length) (x : Str) : hasF fs (.str x) = (valV (bdK fs ps) (Sum.inr x)).isSome := by
  show decide (x ∈ namesF fs) = _
  by_cases e : x ∈ namesF fs
  · rw [decide_eq_true e, valV_some (by rw [bdK_keys h]; exact inr_mem.mpr e)]
  · rw [decide_eq_false e, valV_none (by rw [bdK_keys h]; exact fun z => e (inr_mem.mp z))]; rfl
theorem stK_get {fs : List Fun} {f : Fun} (nn : (namesF fs).Nodup) (hf : f ∈ fs) : valV (stK fs) (Sum.inr f.name) = some (.int (f.start : Int)) := by
  induction fs with
  | nil => cases hf
  | cons g r ih =>
    have e : stK (g :: r) = (Sum.inr g.name, V.int (g.start : Int)) :: stK r := rfl
    have nd := List.nodup_cons.mp (show (g.name :: namesF r).Nodup from nn)
    rw [e]
    unfold valV
    rw [List.find?_cons]
    by_cases q : g.name = f.name
    · rw [decide_eq_true (show (Sum.inr g.name : Key) = Sum.inr f.name by rw [q])]
      rcases List.mem_cons.mp hf with rfl | h
      · rfl
      · exact absurd (List.mem_map_of_mem h) (q ▸ nd.1)
    · rw [decide_eq_false (show ¬ (Sum.inr g.name : Key) = Sum.inr f.name from fun z => q (Sum.inr.inj z))]
      rcases List.mem_cons.mp hf with rfl | h
      · exact absurd rfl q
      · exact ih nd.2 h
def spHas (a : Ad) : Sp := fun vs H Q _ => ∃ (_ : Unit) (L : LA) (z : Str) (lines : List Str) (fs : List Fun) (mk : List Mk) (v : V), vs = [.ref L.x, v] ∧ LibAt a H L z lines fs mk ∧ Thing H v ∧ Q (.bl (hasF fs v)) H
theorem ok_LibraryU_containsU (T : Txt K mg a d) : FnOk P w K mg base CX0 1 a.LibraryU_containsU d.LibraryU_containsU ["self", "name"] (spHas a) := by
  refine T.LibraryU_containsU.ok sc_LibraryU_containsU (fun vs H Q E h => ?_) (fun cdv A outer s H vs Q E hr h => ?_)
  · obtain ⟨_, _, _, _, _, _, _, rfl, _⟩ := h
    rfl
  · obtain ⟨_, L, z, lines, fs, mk, v, rfl, I, hv, k⟩ := h
    have c1 := T.k_Library
    have n1 := T.na_Library_bodies
    refine ⟨_, (pss_one (ps_ret (pe_and (pe_callB call_isi (by rfl) T.n_isinstance (by decide +kernel) (pa_cons (pv 1) (pa_cons (pe_bltn (v := .ty "str") (u := .type "str") (by rfl) T.n_str (by decide +kernel) rfl) pa_nil))) (pe_one (pe_cmp (pc_din (hu_of hr) (pv 1) (pe_fld (pv 0) rfl))))))), ?_⟩
    try dsimp only [cxOf]
    have ho := I.ob
    obtain ⟨ps, hbd, hbs⟩ := I.bd.ex
    have l2 : List.lookup ("bodies" : Str) (liF L z) = some (.ref L.bd) := rfl
    obtain ⟨ty, h1, h2⟩ := hv.isi (K := K)
    walk_at "rd"
    refine ⟨ClsV.ty _, h1, h2, _, rfl, ?_⟩
    cases hs : strB v with
    | false =>
      refine iteF ?_
      rw [show hasF fs v = false from by cases v <;> first | rfl | cases hs] at k
      exact k
    | true =>
      obtain ⟨x, rfl⟩ : ∃ x, v = .str x := by cases v <;> first | exact ⟨_, rfl⟩ | cases hs
      refine iteT ?_
      walk_at "rd"
      refine ⟨_, rfl, DGet.k (k := Sum.inr x) hbd, ?_⟩
      rw [show hasF fs (.str x) = (valV (bdK fs ps) (Sum.inr x)).isSome from hasF_eq hbs.len x] at k
      exact k
def spStr (a : Ad) : Sp := fun vs H Q _ => ∃ (_ : Unit) (L : LA) (z : Str) (lines : List Str) (fs : List Fun) (mk : List Mk), vs = [.ref L.x] ∧ LibAt a H L z lines fs mk ∧ z.length ≤ sizeLine ∧ Q (.str z) H
theorem ok_LibraryU_strU (T : Txt K mg a d) : FnOk P w K mg base CX0 1 a.LibraryU_strU d.LibraryU_strU ["self"] (spStr a) := by
  refine T.LibraryU_strU.ok sc_LibraryU_strU (fun vs H Q E h => ?_) (fun cdv A outer s H vs Q E hr h => ?_)
  · obtain ⟨_, _, _, _, _, _, rfl, _⟩ := h
    rfl
  · obtain ⟨_, L, z, lines, fs, mk, rfl, I, hz, k⟩ := h
    have c1 := T.k_Library
    have n1 := T.na_Library_text
    refine ⟨_, (pss_one (ps_ret (pe_joined1 (pe_fmt (pe_fld (pv 0) rfl))))), ?_⟩
    try dsimp only [cxOf]
    have ho := I.ob
    have l2 : List.lookup ("text" : Str) (liF L z) = some (.str z) := rfl
    walk_at "rd"
    exact k
/-- what a library is compared with -/
def spEqL (a : Ad) : Sp := fun vs H Q _ => ∃ (_ : Unit) (L : LA) (z : Str) (lines : List Str) (fs : List Fun) (mk : List Mk) (v : V), vs = [.ref L.x, v] ∧ LibAt a H L z lines fs mk ∧
  ((∃ (L' : LA) (z' : Str) (lines' : List Str) (fs' : List Fun) (mk' : List Mk), v = .ref L'.x ∧ LibAt a H L' z' lines' fs' mk' ∧ Q (.bl (decide (z = z'))) H) ∨
   (((∃ y : Str, v = .str y) ∨ ∃ q xs, v = .ref q ∧ H q = some (.lst xs)) ∧ Q (.bl false) H))
theorem ok_LibraryU_eqU (T : Txt K mg a d) : FnOk P w K mg base CX0 1 a.LibraryU_eqU d.LibraryU_eqU ["self", "other"] (spEqL a) := by
  refine T.LibraryU_eqU.ok sc_LibraryU_eqU (fun vs H Q E h => ?_) (fun cdv A outer s H vs Q E hr h => ?_)
  · obtain ⟨_, _, _, _, _, _, _, rfl, _⟩ := h
    rfl
  · obtain ⟨_, L, z, lines, fs, mk, v, rfl, I, h⟩ := h
    have c1 := T.k_Library
    have n1 := T.na_Library_text
    have ec := T.eq_Library
    have kl := T.kl_Library
    refine ⟨_, (pss_one (ps_ret (pe_and (pe_callB call_isi (by rfl) T.n_isinstance (by decide +kernel) (pa_cons (pv 1) (pa_cons (pe_glob (v := .ref a.Library) (by rfl) T.g_Library rfl) pa_nil))) (pe_one (pe_cmpR op_eq (pe_fld (pv 0) rfl) (pe_fld (pv 1) rfl) (nomark _)))))), ?_⟩
    try dsimp only [cxOf]
    have ho := I.ob
    have l2 : List.lookup ("text" : Str) (liF L z) = some (.str z) := rfl
    have hcl : ClsV (.ref a.Library) (.ref a.Library) := .own _
    rcases h with ⟨L', z', lines', fs', mk', rfl, I', k⟩ | ⟨h, k⟩
    · have ho' := I'.ob
      have l3 : List.lookup ("text" : Str) (liF L' z') = some (.str z') := rfl
      have hty : TyX K H (.ref L'.x) (.ref a.Library) := .base (.ins ho' T.k_Library ec.ha ec.hn ec.ht ec.hm)
      have hkk := ec.kO
      clear ec
      walk_at "rd"
      rw [show decide (V.str z = V.str z') = decide (z = z') from decide_eq_decide.mpr ⟨V.str.inj, congrArg V.str⟩]
      exact k
    · have hc : ∃ t, TyX K H v t ∧ PySem.W.kitOne K t (.ref a.Library) = some false := by
        rcases h with ⟨y, rfl⟩ | ⟨q, xs, rfl, hq⟩
        · exact ⟨_, .base (.str y), ec.kS⟩
        · exact ⟨_, .base (.lst hq), kl⟩
      obtain ⟨t, hty, hkk⟩ := hc
      clear ec
      walk_at "rd"
      exact iteF k
def spGetL (a : Ad) : Sp := fun vs H Q E => ∃ (_ : Unit) (L : LA) (z : Str) (lines : List Str) (fs : List Fun) (mk : List Mk) (v : V), vs = [.ref L.x, v] ∧ LibAt a H L z lines fs mk ∧ Thing H v ∧ fs.length ≤ 1000 ∧ lines.length ≤ 1000 ∧
  (hasF fs v = false → ∀ H', Same H H' → errQ a.NoFunction ef_NoFunction [v] H' E) ∧
  ∀ x f, v = .str x → f ∈ fs → f.name = x → ∀ H' l m, Same H H' → H l = none → (m = lines.length ∨ ∃ g ∈ fs, f.start < g.start ∧ m = g.start) → m ≤ lines.length → (∀ g ∈ fs, f.start < g.start → m ≤ g.start) → H' l = some (.lst (cutV (lines.map V.str) (some (f.start : Int)) (some (m : Int)))) → Q (.ref l) H'
theorem ok_LibraryU_getitemU (T : Txt K mg a d) : FnOk P w K mg base (L2.CX P w) 1 a.LibraryU_getitemU d.LibraryU_getitemU ["self", "name"] (spGetL a) := by
  refine T.LibraryU_getitemU.okX sc_LibraryU_getitemU (fun vs H Q E h => ?_) (fun cdv A outer s H vs Q E hr h => ?_)
  · obtain ⟨_, _, _, _, _, _, _, rfl, _⟩ := h
    rfl
  · obtain ⟨_, L, z, lines, fs, mk, v, rfl, I, hv, lfs, lln, bad, k⟩ := h
    have c1 := T.k_Library
    have n1 := T.na_Library_bodies
    have n2 := T.na_Library_starts
    have n3 := T.na_Library_lines
    refine ⟨_, (pss_cons (ps_if (PW.pt (pw_or (pt_not (pt_val (pe_callB call_isi (by rfl) T.n_isinstance (by decide +kernel) (pa_cons (pv 1) (pa_cons (pe_bltn (v := .ty "str") (u := .type "str") (by rfl) T.n_str (by decide +kernel) rfl) pa_nil))))) (pw_or1 (pt_cmp (pc_dnotin (hu_of hr) (pv 1) (pe_fld (pv 0) rfl)))))) (pss_one (ps_raise rfl (takes_of rfl rfl rfl rfl) (pmk_err T.e_NoFunction T.g_NoFunction T.n_super hr (pa_cons (pv 1) pa_nil)))) pss_nil)
  (pss_cons (ps_set (i := 2) sc_LibraryU_getitemU.nd rfl (Or.inr rfl) (pe_dget (hu_of hr) (pe_fld (pv 0) rfl) (pv 1) (fun _ _ => rfl)))
  (pss_cons (ps_lock (ps_setLc (i := 3) (own := [("at", 4)]) rfl sc_LibraryU_getitemU.nd rfl rfl (sw_true rfl rfl rfl (by decide +kernel)) (pi_values (pe_fld (pv 0) rfl)) (blkOk_by (own := [("at", 4)]) (N := ["self", "name", "first", "later", "at"]) (sc := defScope s_LibraryU_getitemU) (by decide +kernel)) (fun _ _ _ _ _ => (pg_name (i := 4) sc_LibraryU_getitemU.nd rfl (Or.inl rfl))) (fun _ _ _ _ _ => (pts_one (pt_cmpR op_gt (pv 4) (pv 2) (nomark _)))) (fun _ _ _ _ _ => (pv 4))))
  (pss_one (ps_ret (pe_slice sl_list (pe_fld (pv 0) rfl) (po_some (pv 2)) (po_some (pe_callB (cr_min rfl) (by rfl) T.n_min (by decide +kernel) (pa_cons (pe_op op_cat (pv 3) (pe_lst (pa_cons (pe_callB call_len_seq (by rfl) T.n_len PySem.boot_len (pa_cons (pe_fld (pv 0) rfl) pa_nil)) pa_nil))) pa_nil))))))))), ?_⟩
    try dsimp only [cxOf]
    have ho := I.ob
    obtain ⟨ps, hbd, hbs⟩ := I.bd.ex
    have l2 : List.lookup ("bodies" : Str) (liF L z) = some (.ref L.bd) := rfl
    have l3 : List.lookup ("starts" : Str) (liF L z) = some (.ref L.sd) := rfl
    have l4 : List.lookup ("lines" : Str) (liF L z) = some (.ref L.ll) := rfl
    obtain ⟨ty, h1, h2⟩ := hv.isi (K := K)
    walk_at "rd"
    refine ⟨ClsV.ty _, h1, h2, _, rfl, ?_⟩
    cases hs : strB v with
    | false =>
      refine iteT ?_
      walk_at "rd"
      exact bad (by cases v <;> first | rfl | cases hs) H (Same.refl H)
    | true =>
      obtain ⟨x, rfl⟩ : ∃ x, v = .str x := by cases v <;> first | exact ⟨_, rfl⟩ | cases hs
      refine iteF ?_
      walk_at "rd"
      refine ⟨_, rfl, DGet.k (k := Sum.inr x) hbd, ?_⟩
      by_cases hx : x ∈ namesF fs
      · rw [valV_some (by rw [bdK_keys hbs.len]; exact inr_mem.mpr hx)]
        obtain ⟨f, hf, rfl⟩ := List.mem_map.mp hx
        have g1 : DGet H L.sd (.str f.name) (some (.int (f.start : Int))) := by
          have := DGet.k (k := Sum.inr f.name) I.sd
          rw [stK_get I.ok.lb.nn hf] at this
          exact this
        have hsd := I.sd
        have lbs := hbs.len
        clear hbd hbs
        walk_at "rd"
        refine ⟨True.intro, fun od => ?_⟩
        have fz := upd_same (H := H) (a := L.sd) (o := .frz od (.dK (stK fs)))
        have ho2 := upd_oth (o := .frz od (.dK (stK fs))) (show L.x ≠ L.sd from fun e => by rw [e, hsd] at ho; cases ho) ho
        have un : ∀ {G}, Same (upd H L.sd (.frz od (.dK (stK fs)))) G → Same H (upd G L.sd (.dK (stK fs))) := fun {G} s b u e => by
          by_cases q : b = L.sd
          · rw [q, hsd] at e; cases e; rw [q]; exact upd_same
          · exact upd_oth q (s _ _ (upd_oth q e))
        have nn0 : ∀ b, (upd H L.sd (.frz od (.dK (stK fs)))) b = none → b ≠ L.sd := fun b h e => by rw [e, upd_same] at h; cases h
        generalize upd H L.sd (.frz od (.dK (stK fs))) = F0 at fz ho2 un nn0 ⊢
        walk_at "rd"
        intro D hD
        refine lc_it walk_values (fun i G => Same F0 G ∧ G D = some (.lst (((fs.take i).filter fun g => decide (f.start < g.start)).map fun g => V.int (g.start : Int)))) ?_ ?_ ?_ ?_
        · exact ⟨(Same.refl _).new hD, upd_same⟩
        · rintro i G _ ⟨s1, _⟩
          exact s1 _ _ fz
        · rintro i x G G' li ⟨s1, hG⟩ ⟨rfl, kk, hk⟩
          obtain ⟨g, hgi, rfl⟩ : ∃ g : Fun, fs[i]? = some g ∧ x = .int (g.start : Int) := by
            unfold stK at hk
            rw [List.getElem?_map] at hk
            cases q : fs[i]? with
            | none => rw [q] at hk; cases hk
            | some g => rw [q] at hk; cases hk; exact ⟨g, rfl, rfl⟩
          rw [List.take_add_one, hgi, List.filter_append, List.map_append]
          have lf : (((fs.take i).filter fun g => decide (f.start < g.start)).map fun g => V.int (g.start : Int)).length < sizeLine := by
            have := List.length_filter_le (fun g : Fun => decide (f.start < g.start)) (fs.take i)
            rw [List.length_take] at this
            rw [List.length_map, sizeLine_eq]; omega
          walk_at "rd"
          refine ite2 (fun c0 => ?_) (fun c0 => ?_)
          · have c1 : f.start < g.start := by have := of_decide_eq_true c0; omega
            walk_at "rd"
            refine ⟨s1.frsh hD, ?_⟩
            rw [upd_same]; simp [c1]
          · have c1 : ¬ f.start < g.start := fun h => c0 (decide_eq_true (by omega))
            exact ⟨s1, by simpa [c1] using hG⟩
        · rintro G ⟨s1, hG⟩
          rw [stK_len, List.take_length] at hG
          walk_at "rd"
          refine ⟨s1 _ _ fz, ?_⟩
          have sH := un s1
          have ho3 := sH _ _ ho
          have hl3 := sH _ _ I.li
          have hG3 := upd_oth (o := .dK (stK fs)) (nn0 D hD) hG
          have fD : H D = none := by
            cases e : H D with
            | none => rfl
            | some o =>
              have := (un (Same.refl F0)) _ _ e
              rw [upd_ne (nn0 D hD), hD] at this
              cases this
          generalize upd G L.sd (.dK (stK fs)) = G1 at sH ho3 hl3 hG3 ⊢
          walk_at "rd"
          intro p1 hp1
          have s4 := sH.new (o := .lst [.int ((lines.map V.str).length : Int)]) hp1
          have l4 := upd_old (o := .lst [.int ((lines.map V.str).length : Int)]) hl3 hp1
          have g4 := upd_old (o := .lst [.int ((lines.map V.str).length : Int)]) hG3 hp1
          have q4 := upd_same (H := G1) (a := p1) (o := .lst [.int ((lines.map V.str).length : Int)])
          have lf : ((fs.filter fun g => decide (f.start < g.start)).map fun g => V.int (g.start : Int)).length ≤ 1000 := by
            have := List.length_filter_le (fun g : Fun => decide (f.start < g.start)) fs
            rw [List.length_map]; omega
          generalize upd G1 p1 (.lst [.int ((lines.map V.str).length : Int)]) = G2 at s4 l4 g4 q4 ⊢
          walk_at "rd"
          refine ⟨by rw [sizeLine_eq]; simp only [List.length_cons, List.length_nil]; omega, fun q hq => ?_⟩
          have s5 := s4.new (o := .lst ((fs.filter fun g => decide (f.start < g.start)).map (fun g => V.int (g.start : Int)) ++ [.int ((lines.map V.str).length : Int)])) hq
          have l5 := upd_old (o := .lst ((fs.filter fun g => decide (f.start < g.start)).map (fun g => V.int (g.start : Int)) ++ [.int ((lines.map V.str).length : Int)])) l4 hq
          have q5 := upd_same (H := G2) (a := q) (o := .lst ((fs.filter fun g => decide (f.start < g.start)).map (fun g => V.int (g.start : Int)) ++ [.int ((lines.map V.str).length : Int)]))
          generalize upd G2 q (.lst ((fs.filter fun g => decide (f.start < g.start)).map (fun g => V.int (g.start : Int)) ++ [.int ((lines.map V.str).length : Int)])) = G3 at s5 l5 q5 ⊢
          rw [show (fs.filter fun g => decide (f.start < g.start)).map (fun g => V.int (g.start : Int)) ++ [.int ((lines.map V.str).length : Int)] = ((fs.filter fun g => decide (f.start < g.start)).map (fun g => (g.start : Int)) ++ [(lines.length : Int)]).map V.int from by rw [List.map_append, List.map_map, List.length_map]; rfl] at q5
          walk_at "rd"
          refine ⟨by rw [List.length_append]; simp, fun m hm hmin => ⟨m, rfl, ?_⟩⟩
          have hm1 : (∃ g ∈ fs, f.start < g.start ∧ m = (g.start : Int)) ∨ m = (lines.length : Int) := by
            rcases List.mem_append.mp hm with h | h
            · obtain ⟨g, hg, rfl⟩ := List.mem_map.mp h
              obtain ⟨h1, h2⟩ := List.mem_filter.mp hg
              exact .inl ⟨g, h1, of_decide_eq_true h2, rfl⟩
            · exact .inr (List.mem_singleton.mp h)
          obtain ⟨n, rfl⟩ : ∃ n : Nat, m = (n : Int) := by
            rcases hm1 with ⟨g, _, _, rfl⟩ | rfl
            · exact ⟨_, rfl⟩
            · exact ⟨_, rfl⟩
          have hl : n ≤ lines.length := by
            have := hmin _ (List.mem_append_right _ List.mem_cons_self)
            omega
          have hg : ∀ g ∈ fs, f.start < g.start → n ≤ g.start := fun g hg lt => by
            have := hmin (g.start : Int) (List.mem_append_left _ (List.mem_map_of_mem (f := fun g : Fun => (g.start : Int)) (List.mem_filter.mpr ⟨hg, decide_eq_true lt⟩)))
            omega
          have hm2 : n = lines.length ∨ ∃ g ∈ fs, f.start < g.start ∧ n = g.start := by
            rcases hm1 with ⟨g, h1, h2, h3⟩ | h
            · exact .inr ⟨g, h1, h2, by omega⟩
            · exact .inl (by omega)
          walk_at "rd"
          intro l hl2
          exact k _ f rfl hf rfl _ l n (s5.new hl2) (new_none s5 hl2) hm2 hl hg upd_same
      · rw [valV_none (by rw [bdK_keys hbs.len]; exact fun z => hx (inr_mem.mp z))]
        walk_at "rd"
        exact bad (decide_eq_false hx) H (Same.refl H)
/-! ### k20: _law_lines -/
theorem no_NoFunction_name (T : Txt K mg a d) : PySem.W.findIn K (.ref a.NoFunction) "name" = some none := T.e_NoFunction.noF ("name", .inl 0) (by simp [ef_NoFunction])
def spLines (a : Ad) : Sp := fun vs H Q _ => ∃ (_ : Unit) (L : LA) (z : Str) (lines : List Str) (fs : List Fun) (mk : List Mk) (v : V), vs = [.ref L.x, v] ∧ LibAt a H L z lines fs mk ∧ Thing H v ∧ fs.length ≤ 1000 ∧ lines.length ≤ 1000 ∧
  (hasF fs v = false → ∀ H' q, Same H H' → H q = none → H' q = some (.tup [.str "none", v]) → Q (.ref q) H') ∧
  ∀ x f, v = .str x → f ∈ fs → f.name = x → ∀ H' l m, Same H H' → H l = none → (m = lines.length ∨ ∃ g ∈ fs, f.start < g.start ∧ m = g.start) → m ≤ lines.length → (∀ g ∈ fs, f.start < g.start → m ≤ g.start) → H' l = some (.lst (cutV (lines.map V.str) (some (f.start : Int)) (some (m : Int)))) → Q (.ref l) H'
theorem ok_law_lines (T : Txt K mg a d) : FnOk P w K mg base CX0 4 a.law_lines d.law_lines ["_law_library_here", "_law_name"] (spLines a) := by
  have G_LibraryU_getitemU : FnOk P w K mg base (L2.CX P w) 1 a.LibraryU_getitemU d.LibraryU_getitemU ["self", "name"] (spGetL a) := ok_LibraryU_getitemU T
  refine T.law_lines.ok sc_law_lines (fun vs H Q E h => ?_) (fun cdv A outer s H vs Q E hr h => ?_)
  · obtain ⟨_, _, _, _, _, _, _, rfl, _⟩ := h
    rfl
  · obtain ⟨_, L, z, lines, fs, mk, v, rfl, I, hv, lfs, lln, bad, k⟩ := h
    refine ⟨_, (pss_cons (ps_tryA rfl rfl sc_law_lines.nd takes0 (fun W pn xe tk po => (pss_one (ps_set (i := 2) sc_law_lines.nd rfl (Or.inl rfl) (pe_getO (pv 0) (pv 1) T.m_LibraryU_getitemU T.fi_LibraryU_getitemU G_LibraryU_getitemU (hr.mono (by omega)) T.b_LibraryU_getitemU (fun σ => passAt tk σ))))) (.consA (i := 3) (.intro (by rfl) (And.intro (by decide) (Or.inl T.g_NoFunction))) rfl rfl (fun _ _ _ _ _ hz hf => (pss_one (ps_ret (pe_tup (pa_cons pe_str (pa_cons (pe_xf (xfc T.e_NoFunction) (no_NoFunction_name T) hz hf (pv 3)) pa_nil)))))) .nil))
  (pss_one (ps_ret (pv 2)))), ?_⟩
    try dsimp only [cxOf]
    have ho := I.ob
    walk_at "rd"
    refine ⟨(), L, z, lines, fs, mk, v, rfl, I, hv, lfs, lln, fun hb H1 s1 => ?_, fun x f ex hf en H1 l m s1 nl c1 c2 c3 hl => ?_⟩
    · intro dd gd
      refine ⟨true, T.e_NoFunction.te, fun _ ea hea => ?_, fun z => nomatch z⟩
      unfold wCl
      have s2 := s1.new (o := .xd (errF [v] ef_NoFunction [])) gd
      have d2 := upd_same (H := H1) (a := dd) (o := .xd (errF [v] ef_NoFunction []))
      generalize upd H1 dd (.xd (errF [v] ef_NoFunction [])) = H2 at s2 d2 ⊢
      walk_at "rd"
      intro q hq
      exact bad hb _ q (s2.new hq) (new_none s2 hq) upd_same
    · walk_at "rd"
      exact k x f ex hf en H1 l m s1 nl c1 c2 c3 hl
/-! ### k20: where the functions of a text begin (plain) -/
mutual
theorem rowsS_lv : ∀ (s : Stm) (n : Nat), ∀ r ∈ rowsS n s, ∃ m ws, r = some (m, ws) ∧ n ≤ m
  | .mk h ps, n, r, hr => by
    rw [rowsS] at hr
    exact rowsP_lv ps n (hdrs h) r hr
theorem rowsP_lv : ∀ (ps : List (List Stm)) (n : Nat) (hs : List (List Str)), ∀ r ∈ rowsP n hs ps, ∃ m ws, r = some (m, ws) ∧ n ≤ m
  | [], n, hs, r, hr => by
    rw [rowsP] at hr
    obtain ⟨x, _, rfl⟩ := List.mem_map.mp hr
    exact ⟨n, x, rfl, Nat.le_refl _⟩
  | b :: ps, n, hs, r, hr => by
    rw [rowsP] at hr
    rcases List.mem_append.mp hr with hr | hr
    · cases hs with
      | nil => cases hr
      | cons x t =>
        rw [List.mem_singleton.mp hr]
        exact ⟨n, x, rfl, Nat.le_refl _⟩
    rcases List.mem_append.mp hr with hr | hr
    · obtain ⟨m, ws, e, l⟩ := rowsB_lv b (n + 1) r hr
      exact ⟨m, ws, e, by omega⟩
    · exact rowsP_lv ps n hs.tail r hr
theorem rowsB_lv : ∀ (b : List Stm) (n : Nat), ∀ r ∈ rowsB n b, ∃ m ws, r = some (m, ws) ∧ n ≤ m
  | [], n, r, hr => by rw [rowsB] at hr; cases hr
  | s :: t, n, r, hr => by
    rw [rowsB] at hr
    rcases List.mem_append.mp hr with hr | hr
    · exact rowsS_lv s n r hr
    · exact rowsB_lv t n r hr
end
def isFn : Row → Bool
  | some (0, _) => true
  | _ => false
def RowK (r : Row) : Prop := (∃ nm, r = some (0, [Str.ofString "function", nm])) ∨ ∃ n ws, r = some (n + 1, ws)
theorem rowsF_K (gs : List FT) : ∀ r ∈ rowsF gs, RowK r := fun r hr => by
  obtain ⟨l, hl, hr⟩ := List.mem_flatten.mp hr
  obtain ⟨g, hg, rfl⟩ := List.mem_map.mp hl
  rcases List.mem_cons.mp hr with rfl | hr
  · exact .inl ⟨_, rfl⟩
  · obtain ⟨m, ws, rfl, h⟩ := rowsB_lv g.2 1 r hr
    obtain ⟨n, rfl⟩ : ∃ n, m = n + 1 := ⟨m - 1, by omega⟩
    exact .inr ⟨n, ws, rfl⟩
theorem cut9_cps (z : Str) : cps (cutS z none (some 9)) = (cps z).take 9 := by
  have e : HT.sIx z.length z.length (some 9) = min 9 z.length := HT.sIx_nat _ _ 9
  show (z.cps.toList.drop (HT.sIx z.length 0 none)).take (HT.sIx z.length z.length (some 9) - HT.sIx z.length 0 none) = _
  rw [e, show HT.sIx z.length 0 none = 0 from rfl, Nat.sub_zero, List.drop_zero]
  show (cps z).take (min 9 z.length) = _
  rw [← cps_len z]
  by_cases h : 9 ≤ (cps z).length
  · rw [Nat.min_eq_left h]
  · rw [Nat.min_eq_right (by omega), List.take_length, List.take_of_length_le (by omega)]
theorem fun_lineR (x : Str) : Str.ofString "function " ++ x = lineR (some (0, [Str.ofString "function", x])) := by
  show _ = lineS 0 ["function", x]
  refine cps_inj ?_
  rw [lineS_cps, cps_app]
  show _ = cps (Str.ofString "function") ++ 32 :: cps x
  rw [show cps (Str.ofString "function ") = cps (Str.ofString "function") ++ [32] by decide +kernel]
  simp
theorem cut9 {r : Row} (h : RowK r) : decide (V.str (cutS (lineR r) none (some 9)) = V.str "function ") = isFn r := by
  rcases h with ⟨nm, rfl⟩ | ⟨n, ws, rfl⟩
  · refine decide_eq_true (congrArg V.str (cps_inj ?_))
    rw [cut9_cps, ← fun_lineR, cps_app, List.take_left' (by decide +kernel)]
  · refine decide_eq_false fun e => ?_
    have e := congrArg cps (V.str.inj e)
    rw [cut9_cps, show cps (lineR (some (n + 1, ws))) = 32 :: (List.replicate (2 * n + 1) 32 ++ cps (Str.join " " ws)) from by
      show cps (spc (2 * (n + 1)) ++ Str.join " " ws) = _
      rw [cps_app, spc_cps, show 2 * (n + 1) = (2 * n + 1) + 1 by omega, List.replicate_succ, List.cons_append], List.take_succ_cons] at e
    exact absurd (congrArg List.head? e) (by rw [show cps (Str.ofString "function ") = [102, 117, 110, 99, 116, 105, 111, 110, 32] by decide +kernel]; simp)
def ixF : Nat → List Row → List Nat
  | _, [] => []
  | i, r :: t => (if isFn r = true then [i] else []) ++ ixF (i + 1) t
theorem ixF_app : ∀ (a b : List Row) (i : Nat), ixF i (a ++ b) = ixF i a ++ ixF (i + a.length) b
  | [], b, i => by rfl
  | r :: t, b, i => by
    rw [List.cons_append, ixF, ixF, ixF_app t b, List.append_assoc, List.length_cons, show i + (t.length + 1) = i + 1 + t.length by omega]
theorem ixF_none : ∀ (l : List Row) (i : Nat), (∀ r ∈ l, isFn r = false) → ixF i l = []
  | [], _, _ => rfl
  | r :: t, i, h => by
    rw [ixF, if_neg (by rw [h r List.mem_cons_self]; simp), ixF_none t _ fun x hx => h x (List.mem_cons_of_mem _ hx)]; rfl
theorem ixF_funs : ∀ (gs : List FT) (i c : Nat), (∀ g ∈ gs, FTOk g) → ixF i (rowsF gs) = (funsF i c gs).map (·.start)
  | [], i, c, _ => by rw [funsF]; rfl
  | g :: r, i, c, h => by
    have e : rowsF (g :: r) = (some (0, [Str.ofString "function", g.1]) :: rowsB 1 g.2) ++ rowsF r := rfl
    rw [e, ixF_app, ixF, if_pos (show isFn (some (0, [Str.ofString "function", g.1])) = true from rfl), ixF_none (rowsB 1 g.2) _ (fun x hx => by
      obtain ⟨m, ws, rfl, l⟩ := rowsB_lv g.2 1 x hx
      cases m with
      | zero => omega
      | succ m => rfl), List.length_cons, rowsB_len 1 1 g.2 (h g List.mem_cons_self).wf, funsF, List.map_cons, show i + (lnB g.2 + 1) = i + 1 + lnB g.2 by omega, ixF_funs r _ _ fun x hx => h x (List.mem_cons_of_mem _ hx)]
    rfl
theorem ixF_take {rows : List Row} {i : Nat} {r : Row} (h : rows[i]? = some r) : ixF 0 (rows.take (i + 1)) = ixF 0 (rows.take i) ++ if isFn r = true then [i] else [] := by
  have l : i < rows.length := (List.getElem?_eq_some_iff.mp h).1
  rw [List.take_add_one, h, ixF_app, List.length_take, Nat.min_eq_left (by omega), Nat.zero_add]
  show _ = _
  rw [show (some r).toList = [r] from rfl, ixF, ixF, List.append_nil]
theorem ixF_len : ∀ (l : List Row) (i : Nat), (ixF i l).length ≤ l.length
  | [], _ => Nat.le_refl _
  | r :: t, i => by
    have := ixF_len t (i + 1)
    rw [ixF, List.length_append, List.length_cons]
    split <;> simp <;> omega
/-- the k-th function's line and the next one's -/
theorem ixF_lo : ∀ (l : List Row) (i : Nat), ∀ x ∈ ixF i l, i ≤ x ∧ x < i + l.length
  | [], _, x, hx => nomatch hx
  | r :: t, i, x, hx => by
    rw [ixF] at hx
    rcases List.mem_append.mp hx with h | h
    · split at h
      · rw [List.mem_singleton.mp h, List.length_cons]; omega
      · cases h
    · have := ixF_lo t (i + 1) x h
      rw [List.length_cons]; omega
theorem ixF_sorted : ∀ (l : List Row) (i : Nat), (ixF i l).Pairwise (· < ·)
  | [], _ => .nil
  | r :: t, i => by
    rw [ixF]
    split
    · exact List.pairwise_cons.mpr ⟨fun x hx => by have := ixF_lo t (i + 1) x hx; omega, ixF_sorted t (i + 1)⟩
    · exact ixF_sorted t (i + 1)
theorem funsF_row : ∀ (gs : List FT) (i c : Nat), (∀ g ∈ gs, FTOk g) → ∀ f ∈ funsF i c gs, ∃ j, f.start = i + j ∧ (rowsF gs)[j]? = some (some (0, [Str.ofString "function", f.name]))
  | [], i, c, _, f, hf => by rw [funsF] at hf; cases hf
  | g :: r, i, c, h, f, hf => by
    rw [funsF] at hf
    have e : rowsF (g :: r) = (some (0, [Str.ofString "function", g.1]) :: rowsB 1 g.2) ++ rowsF r := rfl
    rcases List.mem_cons.mp hf with rfl | hf
    · exact ⟨0, rfl, rfl⟩
    · obtain ⟨j, e1, e2⟩ := funsF_row r _ _ (fun x hx => h x (List.mem_cons_of_mem _ hx)) f hf
      refine ⟨1 + lnB g.2 + j, by omega, ?_⟩
      have l : (some (0, [Str.ofString "function", g.1]) :: rowsB 1 g.2).length = 1 + lnB g.2 := by
        rw [List.length_cons, rowsB_len 1 1 g.2 (h g List.mem_cons_self).wf]; omega
      rw [e, List.getElem?_append_right (by rw [l]; omega), l, show 1 + lnB g.2 + j - (1 + lnB g.2) = j by omega]
      exact e2
/-- the starts and the text's end; the k-th and the next -/
theorem ix_next {fs : List Fun} {n k : Nat} {f : Fun} (hs : (fs.map (·.start)).Pairwise (· < ·)) (hn : ∀ g ∈ fs, g.start ≤ n) (hk : fs[k]? = some f) :
    ∃ m, (fs.map (·.start) ++ [n])[k + 1]? = some m ∧ (m = n ∨ ∃ g ∈ fs, f.start < g.start ∧ m = g.start) ∧ m ≤ n ∧ ∀ g ∈ fs, f.start < g.start → m ≤ g.start := by
  have lk := (List.getElem?_eq_some_iff.mp hk).1
  have hk' : fs[k] = f := (List.getElem?_eq_some_iff.mp hk).2
  have mono : ∀ i j (hi : i < fs.length) (hj : j < fs.length), i < j → fs[i].start < fs[j].start := fun i j hi hj lt => by
    have := List.pairwise_iff_getElem.mp hs i j (by simpa using hi) (by simpa using hj) lt
    simpa using this
  by_cases c : k + 1 < fs.length
  · refine ⟨fs[k + 1].start, ?_, .inr ⟨_, List.getElem_mem c, hk' ▸ mono k (k + 1) lk c (by omega), rfl⟩, hn _ (List.getElem_mem c), fun g hg lt => ?_⟩
    · rw [List.getElem?_append_left (by simpa using c), List.getElem?_map, List.getElem?_eq_getElem c]; rfl
    · obtain ⟨j, hj, rfl⟩ := List.getElem_of_mem hg
      by_cases q : k < j
      · by_cases q2 : j = k + 1
        · subst q2; exact Nat.le_refl _
        · exact Nat.le_of_lt (mono (k + 1) j c hj (by omega))
      · by_cases q2 : j = k
        · subst q2; rw [hk'] at lt; omega
        · have := mono j k hj lk (by omega)
          rw [hk'] at this; omega
  · refine ⟨n, ?_, .inl rfl, Nat.le_refl _, fun g hg lt => ?_⟩
    · have e : k + 1 = fs.length := by omega
      rw [List.getElem?_append_right (by rw [List.length_map]; omega), List.length_map, e, Nat.sub_self]; rfl
    · obtain ⟨j, hj, rfl⟩ := List.getElem_of_mem hg
      have : k = j ∨ j < k := by omega
      rcases this with rfl | h
      · rw [hk'] at lt; omega
      · have := mono j k hj lk h
        rw [hk'] at this; omega
/-! ### k20: _law_due -/
def spDue : Sp := fun vs H Q _ => ∃ (_ : Unit) (l : Addr) (gs : List FT) (v : V), vs = [.ref l, v] ∧ H l = some (.lst (strsR (rowsF gs))) ∧ (∀ g ∈ gs, FTOk g) ∧ (gs.map (·.1)).Nodup ∧ Thing H v ∧ (rowsF gs).length ≤ 1000 ∧ (∀ r ∈ rowsF gs, (lineR r).length ≤ 1000) ∧
  (hasF (funsF 0 0 gs) v = false → ∀ H' q, Same H H' → H q = none → H' q = some (.tup [.str "none", v]) → Q (.ref q) H') ∧
  ∀ x f, v = .str x → f ∈ funsF 0 0 gs → f.name = x → ∀ H' q m, Same H H' → H q = none → (m = (rowsF gs).length ∨ ∃ g ∈ funsF 0 0 gs, f.start < g.start ∧ m = g.start) → m ≤ (rowsF gs).length → (∀ g ∈ funsF 0 0 gs, f.start < g.start → m ≤ g.start) → H' q = some (.lst (cutV (strsR (rowsF gs)) (some (f.start : Int)) (some (m : Int)))) → Q (.ref q) H'
theorem fn_asc {z : Str} (h : asc z) : asc (Str.ofString "function " ++ z) := fun c hc => by
  have hc : c ∈ cps (Str.ofString "function " ++ z) := hc
  rw [cps_app] at hc
  rcases List.mem_append.mp hc with hc | hc
  · rw [show cps (Str.ofString "function ") = [102, 117, 110, 99, 116, 105, 111, 110, 32] by decide +kernel] at hc
    simp only [List.mem_cons, List.not_mem_nil, or_false] at hc
    omega
  · exact h c hc
theorem shaped_str {z : Str} (h : asc z) : SeqAt.shaped (.str z) = true := by
  show (PyData.strOk z && decide (0 ≤ 64)) = true
  rw [asc_ok h]; rfl
theorem fn_inj {x y : Str} (h : Str.ofString "function " ++ x = Str.ofString "function " ++ y) : x = y := by
  have := congrArg cps h
  rw [cps_app, cps_app] at this
  exact cps_inj (List.append_cancel_left this)
theorem eqv_fn (x y : Str) : PyData.eqv (.str (Str.ofString "function " ++ x)) (.str (Str.ofString "function " ++ y)) = decide (x = y) := by
  show ((Str.ofString "function " ++ x) == (Str.ofString "function " ++ y)) = _
  by_cases e : x = y
  · rw [e, decide_eq_true rfl]; simp
  · rw [decide_eq_false e]
    exact beq_eq_false_iff_ne.mpr fun h => e (fn_inj h)
theorem ok_law_due (T : Txt K mg a d) : FnOk P w K mg base CX0 2 a.law_due d.law_due ["_law_rows", "_law_name"] spDue := by
  refine T.law_due.ok sc_law_due (fun vs H Q E h => ?_) (fun cdv A outer s H vs Q E hr h => ?_)
  · obtain ⟨_, _, _, _, rfl, _⟩ := h
    rfl
  · obtain ⟨_, l, gs, v, rfl, hl, hf, nn, hv, lr, l1000, bad, k⟩ := h
    refine ⟨_, (pss_cons (ps_set (i := 2) sc_law_due.nd rfl (Or.inl rfl) (pe_op op_cat (pe_lc (own := [("_law_k", 3)]) rfl sc_law_due.nd (pi_range1 (by rfl) T.n_range (pa_cons (pe_callB call_len_seq (by rfl) T.n_len PySem.boot_len (pa_cons (pv 0) pa_nil)) pa_nil)) (blkOk_by (own := [("_law_k", 3)]) (N := ["_law_rows", "_law_name", "_law_starts", "_law_k"]) (sc := defScope s_law_due) (by decide +kernel)) (fun _ _ _ _ _ => (pg_name (i := 3) sc_law_due.nd rfl (Or.inl rfl))) (fun _ _ _ _ _ => (pts_one (pt_cmpR op_eq (pe_slice sl_str (pe_ix (ix_listK (K := K) rfl) (pv 0) (pv 3) (fun _ _ => rfl)) po_none (po_some pe_int)) pe_str (nomark _)))) (fun _ _ _ _ _ => (pv 3))) (pe_lst (pa_cons (pe_callB call_len_seq (by rfl) T.n_len PySem.boot_len (pa_cons (pv 0) pa_nil)) pa_nil))))
  (pss_cons (ps_for PassesOwn.never rfl (pi_range1 (by rfl) T.n_range (pa_cons (pe_op op_sub (pe_callB call_len_seq (by rfl) T.n_len PySem.boot_len (pa_cons (pv 2) pa_nil)) pe_int) pa_nil)) (pg_name (i := 3) sc_law_due.nd rfl (Or.inl rfl))
  (pss_one (ps_if (PW.pt (pw_and (pt_val (pe_callB call_isi (by rfl) T.n_isinstance (by decide +kernel) (pa_cons (pv 1) (pa_cons (pe_bltn (v := .ty "str") (u := .type "str") (by rfl) T.n_str (by decide +kernel) rfl) pa_nil)))) (pw_and1 (pt_cmpR (op_eqD hr.units) (pe_ix ix_list (pv 0) (pe_ix ix_list (pv 2) (pv 3) (fun _ _ => rfl)) (fun _ _ => rfl)) (pe_op op_add_str pe_str (pv 1)) (nomark _))))) (pss_one (ps_ret (pe_slice sl_list (pv 0) (po_some (pe_ix ix_list (pv 2) (pv 3) (fun _ _ => rfl))) (po_some (pe_ix ix_list (pv 2) (pe_op op_add (pv 3) pe_int) (fun _ _ => rfl)))))) pss_nil)))
  (pss_one (ps_ret (pe_tup (pa_cons pe_str (pa_cons (pv 1) pa_nil))))))), ?_⟩
    try dsimp only [cxOf]
    have good := rowsF_good hf
    have ll : (strsR (rowsF gs)).length = (rowsF gs).length := by unfold strsR; rw [List.length_map, List.length_map]
    walk_at "rd"
    intro D hD
    rw [ll]
    have hr0 : ∀ {i : Nat}, i < (rowsF gs).length → ∃ r, (rowsF gs)[i]? = some r ∧ RowG r ∧ (strsR (rowsF gs))[i]? = some (.str (lineR r)) := fun {i} hi => by
      refine ⟨_, List.getElem?_eq_getElem hi, good _ (List.getElem_mem hi), ?_⟩
      unfold strsR
      rw [List.getElem?_map, List.getElem?_map, List.getElem?_eq_getElem hi]; rfl
    refine lc_range (n := (rowsF gs).length) (fun i G => Same H G ∧ G D = some (.lst ((ixF 0 ((rowsF gs).take i)).map fun n : Nat => V.int (n : Int)))) ?_ ?_ ?_
    · exact ⟨(Same.refl _).new hD, upd_same⟩
    · rintro i G hi ⟨s1, hG⟩
      obtain ⟨r, hri, gr, hsi⟩ := hr0 hi
      have hl1 := s1 _ _ hl
      have hat := atI_nat hsi
      rw [Int.zero_add]
      have rk := rowsF_K gs r (List.mem_of_getElem? hri)
      walk_at "rd"
      refine ⟨by rw [sizeLine_eq]; have := l1000 r (List.mem_of_getElem? hri); omega, ?_⟩
      walk_at "rd"
      rw [cut9 rk, ixF_take hri]
      have lz : ((ixF 0 ((rowsF gs).take i)).map fun n : Nat => V.int (n : Int)).length < sizeLine := by
        have := ixF_len ((rowsF gs).take i) 0
        rw [List.length_take] at this
        rw [List.length_map, sizeLine_eq]; omega
      cases fi : isFn r with
      | true =>
        refine iteT ?_
        walk_at "rd"
        refine ⟨s1.frsh hD, ?_⟩
        rw [upd_same, if_pos rfl, List.map_append]; rfl
      | false =>
        refine iteF ⟨s1, ?_⟩
        rw [if_neg (by simp), List.append_nil]
        exact hG
    · rintro G ⟨s1, hG⟩
      rw [List.take_length] at hG
      have fG : ixF 0 (rowsF gs) = (funsF 0 0 gs).map (·.start) := ixF_funs gs 0 0 hf
      have hl1 := s1 _ _ hl
      have lx := ixF_len (rowsF gs) 0
      walk_at "rd"
      intro p1 hp1
      have s2 := s1.new (o := .lst [.int ((strsR (rowsF gs)).length : Int)]) hp1
      have g2 := upd_old (o := .lst [.int ((strsR (rowsF gs)).length : Int)]) hG hp1
      have e2 := upd_same (H := G) (a := p1) (o := .lst [.int ((strsR (rowsF gs)).length : Int)])
      generalize upd G p1 (.lst [.int ((strsR (rowsF gs)).length : Int)]) = G2 at s2 g2 e2 ⊢
      rw [ll] at e2
      walk_at "rd"
      refine ⟨by rw [List.length_map, sizeLine_eq]; simp only [List.length_cons, List.length_nil]; omega, fun q hq => ?_⟩
      have s3 := s2.new (o := .lst ((ixF 0 (rowsF gs)).map (fun n : Nat => V.int (n : Int)) ++ [.int ((rowsF gs).length : Int)])) hq
      have e3 := upd_same (H := G2) (a := q) (o := .lst ((ixF 0 (rowsF gs)).map (fun n : Nat => V.int (n : Int)) ++ [.int ((rowsF gs).length : Int)]))
      generalize upd G2 q (.lst ((ixF 0 (rowsF gs)).map (fun n : Nat => V.int (n : Int)) ++ [.int ((rowsF gs).length : Int)])) = G3 at s3 e3 ⊢
      obtain ⟨fs, efs⟩ : ∃ fs, fs = funsF 0 0 gs := ⟨_, rfl⟩
      rw [fG, ← efs] at e3
      rw [← efs] at bad k
      have e3' : G3 q = some (.lst ((fs.map (·.start) ++ [(rowsF gs).length]).map fun n : Nat => V.int (n : Int))) := by rw [e3, List.map_append]; rfl
      clear e3
      have lfs : fs.length ≤ 1000 := by
        have := congrArg List.length fG
        rw [List.length_map, ← efs] at this
        omega
      walk_at "rd"
      have el : (((fs.map (·.start) ++ [(rowsF gs).length]).map fun n : Nat => V.int (n : Int)).length : Int) - 1 = (fs.length : Int) := by
        rw [List.length_map, List.length_append, List.length_map]; simp
      rw [el]
      refine ⟨by omega, ?_⟩
      refine for_range (n := fs.length) (fun kx σ F => ∃ (_ : Unit) (v3 : Option V), σ = [some (.ref l), some v, some (.ref q), v3] ∧ Same H F ∧ F q = some (.lst ((fs.map (·.start) ++ [(rowsF gs).length]).map fun n : Nat => V.int (n : Int))) ∧ ∀ j g, j < kx → fs[j]? = some g → v ≠ .str g.name) ?_ ?_ ?_
      · exact ⟨(), _, rfl, s3, e3', fun j g h => absurd h (Nat.not_lt_zero _)⟩
      · rintro kx σ F hkx ⟨_, v3, rfl, sF, hq2, hno⟩
        obtain ⟨f, hfk⟩ : ∃ f, fs[kx]? = some f := ⟨_, List.getElem?_eq_getElem hkx⟩
        have fm : f ∈ fs := List.mem_of_getElem? hfk
        rw [Int.zero_add]
        have hvF := hv.same sF
        obtain ⟨ty, h1, h2⟩ := hvF.isi (K := K)
        have hlF := sF _ _ hl
        walk_at "rd"
        refine ⟨ClsV.ty _, h1, h2, _, rfl, ?_⟩
        cases hs : strB v with
        | false =>
          refine iteF ?_
          exact iteF ⟨(), _, rfl, sF, hq2, fun j g hj hg e => by rw [e] at hs; cases hs⟩
        | true =>
          refine iteT ?_
          obtain ⟨x, rfl⟩ : ∃ x, v = .str x := by cases v <;> first | exact ⟨_, rfl⟩ | cases hs
          obtain ⟨lx, ax⟩ : x.length ≤ 1000 ∧ asc x := by cases hv with | str z h ha => exact ⟨h, ha⟩
          obtain ⟨j, ej, hj⟩ := funsF_row gs 0 0 hf f (efs ▸ fm)
          have ej : j = f.start := by omega
          subst ej
          have aw : asc (Str.ofString "function " ++ f.name) := by rw [fun_lineR]; exact (good _ (List.mem_of_getElem? hj)).asc
          have hat1 : atI ((fs.map (·.start) ++ [(rowsF gs).length]).map fun n : Nat => V.int (n : Int)) ((kx : Nat) : Int) = some (.int (f.start : Int)) := atI_nat (by
            rw [List.getElem?_map, List.getElem?_append_left (by rw [List.length_map]; exact hkx), List.getElem?_map, hfk]; rfl)
          have hat2 : atI (strsR (rowsF gs)) ((f.start : Nat) : Int) = some (.str (Str.ofString "function " ++ f.name)) := atI_nat (by
            unfold strsR
            rw [List.getElem?_map, List.getElem?_map, hj, fun_lineR]; rfl)
          have l9 : (Str.ofString "function ").length + x.length ≤ sizeLine := by rw [sizeLine_eq, show (Str.ofString "function ").length = 9 by decide +kernel]; omega
          walk_at "rd"
          refine ⟨_, _, .str _, .str _, shaped_str aw, shaped_str (fn_asc ax), _, rfl, ?_⟩
          rw [eqv_fn]
          refine ite2 (fun c0 => ?_) (fun c0 => ?_)
          · have en : f.name = x := of_decide_eq_true c0
            obtain ⟨m, hm, c1, c2, c3⟩ := ix_next (n := (rowsF gs).length) (k := kx) (f := f) (fs := fs) (by rw [efs, ← fG]; exact ixF_sorted _ _) (fun g hg => by
              have : g.start ∈ ixF 0 (rowsF gs) := by rw [fG, ← efs]; exact List.mem_map_of_mem (f := fun g : Fun => g.start) hg
              have := ixF_lo (rowsF gs) 0 _ this
              omega) hfk
            have hat3 : atI ((fs.map (·.start) ++ [(rowsF gs).length]).map fun n : Nat => V.int (n : Int)) ((kx + 1 : Nat) : Int) = some (.int (m : Int)) := atI_nat (by rw [List.getElem?_map, hm]; rfl)
            rw [show ((kx + 1 : Nat) : Int) = (kx : Int) + 1 by omega] at hat3
            walk_at "rd"
            intro r9 hr9
            exact k x f rfl fm en _ r9 m (sF.new hr9) (new_none sF hr9) c1 c2 c3 upd_same
          · have en : f.name ≠ x := fun e => c0 (decide_eq_true e)
            refine ⟨(), _, rfl, sF, hq2, fun j g hj hg e => ?_⟩
            by_cases q : j = kx
            · subst q; rw [hfk] at hg; cases hg; exact en (V.str.inj e).symm
            · exact hno j g (by omega) hg e
      · rintro σ F ⟨_, v3, rfl, sF, hq2, hno⟩
        walk_at "rd"
        intro p2 hp2
        refine bad ?_ _ p2 (sF.new hp2) (new_none sF hp2) upd_same
        cases v with
        | str x =>
          refine decide_eq_false fun m => ?_
          obtain ⟨f, hf2, e⟩ := List.mem_map.mp m
          obtain ⟨j, hj, rfl⟩ := List.getElem_of_mem hf2
          exact hno j _ hj (List.getElem?_eq_getElem hj) (by rw [e])
        | _ => rfl
/-! ### k20: _law_asked -/
theorem cutV_ft (xs : List V) (s m : Nat) : cutV xs (some (s : Int)) (some (m : Int)) = (xs.take m).drop s := by
  unfold cutV
  rw [HT.sIx_nat, HT.sIx_nat, List.drop_take]
  rcases Nat.le_total m xs.length with h | h
  · rw [Nat.min_eq_left h]
    rcases Nat.le_total s xs.length with g | g
    · rw [Nat.min_eq_left g]
    · rw [Nat.min_eq_right g, List.drop_length, List.drop_of_length_le g, List.take_nil, List.take_nil]
  · rw [Nat.min_eq_right h]
    rcases Nat.le_total s xs.length with g | g
    · rw [Nat.min_eq_left g, List.take_of_length_le (by rw [List.length_drop]; omega), List.take_of_length_le (by rw [List.length_drop]; omega)]
    · rw [Nat.min_eq_right g, List.drop_length, List.drop_of_length_le g, List.take_nil, List.take_nil]
theorem fun_eq {fs : List Fun} {f g : Fun} (nn : (namesF fs).Nodup) (hf : f ∈ fs) (hg : g ∈ fs) (e : f.name = g.name) : f = g := by
  induction fs with
  | nil => cases hf
  | cons h t ih =>
    have nd := List.nodup_cons.mp (show (h.name :: namesF t).Nodup from nn)
    rcases List.mem_cons.mp hf with rfl | hf2
    · rcases List.mem_cons.mp hg with rfl | hg
      · rfl
      · exact absurd (List.mem_map_of_mem (f := fun x : Fun => x.name) hg) (e ▸ nd.1)
    · rcases List.mem_cons.mp hg with rfl | hg
      · exact absurd (show g.name ∈ namesF t from e ▸ List.mem_map_of_mem (f := fun x : Fun => x.name) hf2) nd.1
      · exact ih nd.2 hf2 hg
theorem next_eq {fs : List Fun} {f : Fun} {n m m' : Nat} (d1 : m' = n ∨ ∃ g ∈ fs, f.start < g.start ∧ m' = g.start) (c1 : m = n ∨ ∃ g ∈ fs, f.start < g.start ∧ m = g.start) (d2 : m' ≤ n) (c2 : m ≤ n) (d3 : ∀ g ∈ fs, f.start < g.start → m' ≤ g.start) (c3 : ∀ g ∈ fs, f.start < g.start → m ≤ g.start) : m' = m := by
  have h1 : m' ≤ m := by
    rcases c1 with rfl | ⟨g, hg, lt, rfl⟩
    · exact d2
    · exact d3 g hg lt
  have h2 : m ≤ m' := by
    rcases d1 with rfl | ⟨g, hg, lt, rfl⟩
    · exact c2
    · exact c3 g hg lt
  omega
def spAsked (K : PySem.W.Frag) (a : Ad) : Sp := fun vs H Q _ => ∃ (_ : Unit) (L : LA) (z : Str) (lines : List Str) (mk : List Mk) (l : Addr) (gs : List FT) (v : V) (dt : PyData), vs = [.ref L.x, .ref l, v] ∧ LibAt a H L z lines (funsF 0 0 gs) mk ∧ H l = some (.lst (strsR (rowsF gs))) ∧ lines = (rowsF gs).map lineR ∧ (∀ g ∈ gs, FTOk g) ∧ (gs.map (·.1)).Nodup ∧ Thing H v ∧ gs.length ≤ 1000 ∧ (rowsF gs).length ≤ 1000 ∧ (∀ r ∈ rowsF gs, (lineR r).length ≤ 1000) ∧ Dp K H v dt ∧ SeqAt.shaped (.tuple [.str "none", dt]) = true ∧ ∀ H', Same H H' → Q (.bl true) H'
theorem ok_law_asked (T : Txt K mg a d) : FnOk P w K mg base CX0 6 a.law_asked d.law_asked ["_law_library_here", "_law_lines_here", "_law_thing"] (spAsked K a) := by
  have G_LibraryU_containsU : FnOk P w K mg base CX0 1 a.LibraryU_containsU d.LibraryU_containsU ["self", "name"] (spHas a) := ok_LibraryU_containsU T
  have G_law_lines : FnOk P w K mg base CX0 4 a.law_lines d.law_lines ["_law_library_here", "_law_name"] (spLines a) := ok_law_lines T
  have G_law_due : FnOk P w K mg base CX0 2 a.law_due d.law_due ["_law_rows", "_law_name"] spDue := ok_law_due T
  refine T.law_asked.ok sc_law_asked (fun vs H Q E h => ?_) (fun cdv A outer s H vs Q E hr h => ?_)
  · obtain ⟨_, _, _, _, _, _, _, _, _, rfl, _⟩ := h
    rfl
  · obtain ⟨_, L, z, lines, mk, l, gs, v, dt, rfl, I, hl, eln, hf, nn, hv, lgs, lr, l1000, hdt, hsh, k⟩ := h
    refine ⟨_, (pss_cons (ps_set (i := 3) sc_law_asked.nd rfl (Or.inl rfl) (pe_call G_law_due (hr.mono (by omega)) (by rfl) T.g_law_due T.law_due.kp T.b_law_due .nil pass0 (pa_cons (pv 1) (pa_cons (pv 2) pa_nil))))
  (pss_cons (ps_set (i := 4) sc_law_asked.nd rfl (Or.inl rfl) (pe_call G_law_lines (hr.mono (by omega)) (by rfl) T.g_law_lines T.law_lines.kp T.b_law_lines .nil pass0 (pa_cons (pv 0) (pa_cons (pv 2) pa_nil))))
  (pss_cons (ps_if (PW.pt (pw_or (pt_cmpR (op_neD hr.units) (pv 4) (pv 3) (nomark _)) (pw_or1 (pt_cmpR op_ne (pe_cmpR (op_inO T.m_LibraryU_containsU G_LibraryU_containsU (hr.mono (by decide)) T.b_LibraryU_containsU) (pv 2) (pv 0) (by rfl)) (pe_callB call_isi (by rfl) T.n_isinstance (by decide +kernel) (pa_cons (pv 3) (pa_cons (pe_bltn (v := .ty "list") (u := .type "list") (by rfl) T.n_list (by decide +kernel) rfl) pa_nil))) (nomark _))))) (pss_one (ps_ret pe_bl)) pss_nil)
  (pss_cons (ps_if (pt_val (pe_callB call_isi (by rfl) T.n_isinstance (by decide +kernel) (pa_cons (pv 3) (pa_cons (pe_bltn (v := .ty "list") (u := .type "list") (by rfl) T.n_list (by decide +kernel) rfl) pa_nil)))) (pss_cons (ps_if (pt_not (pt_val (pe_callB call_isi (by rfl) T.n_isinstance (by decide +kernel) (pa_cons (pv 4) (pa_cons (pe_bltn (v := .ty "list") (u := .type "list") (by rfl) T.n_list (by decide +kernel) rfl) pa_nil))))) (pss_one (ps_ret pe_bl)) pss_nil)
  (pss_one (ps_expr (pe_bm PySem.F.plainAttrs_list PySem.F.slot_list_append PySem.F.type_list_append mt_append (pv 4) (pa_cons pe_str pa_nil))))) pss_nil)
  (pss_one (ps_ret pe_bl)))))), ?_⟩
    try dsimp only [cxOf]
    have lfs : (funsF 0 0 gs).length ≤ 1000 := by rw [funsF_len]; exact lgs
    have lln : lines.length ≤ 1000 := by rw [eln, List.length_map]; exact lr
    have esr : lines.map V.str = strsR (rowsF gs) := by rw [eln] <;> rfl
    walk_at "rd"
    refine ⟨(), l, gs, v, rfl, hl, hf, nn, hv, lr, l1000, fun hb H1 q s1 nq hq => ?_, fun x f ex hfm en H1 q m s1 nq c1 c2 c3 hq => ?_⟩
    · have I1 := I.same s1
      have ho1 := I1.ob
      walk_at "rd"
      refine ⟨(), L, z, lines, _, mk, v, rfl, I1, hv.same s1, lfs, lln, fun _ H2 q2 s2 nq2 hq2 => ?_, fun x f ex hfm en => ?_⟩
      · have hq' := s2 _ _ hq
        have I2 := I1.same s2
        have ho2 := I2.ob
        have d2 : Dp K H2 v dt := dp_same (s1.trans s2) hdt
        walk_at "rd"
        refine ⟨.tuple [.str "none", dt], .tuple [.str "none", dt], .tup (SqT.of hq2) (.cons (.str _) (.cons d2 .nil)), .tup (SqT.of hq') (.cons (.str _) (.cons d2 .nil)), hsh, hsh, _, rfl, ?_⟩
        rw [SeqAt.eqv_refl _ (SeqAt.canLay_of_shaped hsh)]
        refine iteF ?_
        walk_at "rd"
        refine ⟨(), L, z, lines, _, mk, v, rfl, I2, hv.same (s1.trans s2), _, rfl, ?_⟩
        rw [hb]
        walk_at "rd"
        refine ⟨ClsV.ty _, .base (.tup hq'), kit_ty (show kitB "tuple" "list" = some false by decide +kernel), ?_⟩
        rw [show (if false = true then !false else false) = false from rfl]
        walk_at "rd"
        refine ⟨ClsV.ty _, .base (.tup hq'), kit_ty (show kitB "tuple" "list" = some false by decide +kernel), _, rfl, ?_⟩
        refine iteF ?_
        walk_at "rd"
        exact k _ (s1.trans s2)
      · subst ex
        exact absurd (show hasF (funsF 0 0 gs) (.str x) = true from decide_eq_true (en ▸ List.mem_map_of_mem hfm)) (by rw [hb] <;> decide)
    · have I1 := I.same s1
      have ho1 := I1.ob
      have hb : hasF (funsF 0 0 gs) v = true := by rw [ex]; exact decide_eq_true (en ▸ List.mem_map_of_mem hfm)
      walk_at "rd"
      refine ⟨(), L, z, lines, _, mk, v, rfl, I1, hv.same s1, lfs, lln, fun hb2 => absurd hb2 (by rw [hb]; simp), fun x' f' ex' hfm' en' H2 q2 m' s2 nq2 d1 d2 d3 hq2 => ?_⟩
      have hq' := s2 _ _ hq
      have I2 := I1.same s2
      have ho2 := I2.ob
      have ef : f' = f := fun_eq (by rw [funsF_names]; exact nn) hfm' hfm (by rw [en, en']; exact V.str.inj (ex'.symm.trans ex))
      subst ef
      have em : m' = m := next_eq (by rw [eln, List.length_map] at d1 d2; exact d1) c1 (by rw [eln, List.length_map] at d2; exact d2) c2 d3 c3
      subst em
      rw [esr] at hq2
      obtain ⟨ys, eys, ay⟩ : ∃ ys : List Str, cutV (strsR (rowsF gs)) (some (f'.start : Int)) (some (m' : Int)) = ys.map V.str ∧ ∀ y ∈ ys, asc y := by
        refine ⟨(((rowsF gs).map lineR).take m').drop f'.start, by rw [cutV_ft]; unfold strsR; rw [List.map_drop, List.map_take], fun y hy => ?_⟩
        obtain ⟨r, hr, rfl⟩ := List.mem_map.mp (List.mem_of_mem_take (List.mem_of_mem_drop hy))
        exact (rowsF_good hf r hr).asc
      have lys : ys.length ≤ 1000 := by
        have := congrArg List.length eys
        rw [List.length_map] at this
        have := cutV_length (strsR (rowsF gs)) (some (f'.start : Int)) (some (m' : Int))
        unfold strsR at this
        rw [List.length_map, List.length_map] at this
        unfold strsR at *
        omega
      rw [eys] at hq2 hq'
      walk_at "rd"
      refine ⟨_, _, .lst (SqL.of hq2) (dp_strs _), .lst (SqL.of hq') (dp_strs _), shaped_strs ay, shaped_strs ay, _, rfl, ?_⟩
      rw [SeqAt.eqv_refl _ (SeqAt.canLay_of_shaped (shaped_strs ay))]
      refine iteF ?_
      walk_at "rd"
      refine ⟨(), L, z, lines, _, mk, v, rfl, I2, hv.same (s1.trans s2), _, rfl, ?_⟩
      rw [hb]
      walk_at "rd"
      refine ⟨ClsV.ty _, .base (.lst hq'), kit_ty (show kitB "list" "list" = some true by decide +kernel), ?_⟩
      rw [show (if false = true then !true else true) = true from rfl]
      walk_at "rd"
      refine ⟨ClsV.ty _, .base (.lst hq'), kit_ty (show kitB "list" "list" = some true by decide +kernel), _, rfl, ?_⟩
      refine iteT ?_
      walk_at "rd"
      refine ⟨ClsV.ty _, .base (.lst hq2), kit_ty (show kitB "list" "list" = some true by decide +kernel), _, rfl, ?_⟩
      refine iteF ?_
      have lz : (ys.map V.str).length < sizeLine := by rw [List.length_map, sizeLine_eq]; omega
      walk_at "rd"
      exact k _ ((s1.trans s2).frsh (new_none s1 nq2))
/-! ### a library stays where other lists change -/
theorem LibAt.kp {a : Ad} {S : Addr → Prop} {G G' : Hp} {L : LA} {z : Str} {lines : List Str} {fs : List Fun} {mk : List Mk} (I : LibAt a G L z lines fs mk) (k : Kp S G G') (h4 : ∀ b, S b → ∃ xs, G b = some (.lst xs)) (h1 : ¬ S L.ll) (h2 : ¬ S L.ml) (h3 : ¬ S L.pl) : LibAt a G' L z lines fs mk := by
  have nl : ∀ {b u}, G b = some u → (∀ xs, u ≠ .lst xs) → G' b = some u := fun {b u} e n => k b u e fun s => by
    obtain ⟨xs, h⟩ := h4 b s
    rw [h] at e
    cases e
    exact n _ rfl
  have tk : TupK G G' := fun b l e => nl e fun xs z => by cases z
  obtain ⟨ms, m1, m2⟩ := I.ml
  obtain ⟨ts, t1, t2⟩ := I.pl
  obtain ⟨ps, b1, b2⟩ := I.bd.ex
  exact ⟨nl I.ob (fun _ z => by cases z), k _ _ I.li h1, nl I.sd (fun _ z => by cases z), ⟨ps, nl b1 (fun _ z => by cases z), b2.imp fun _ _ r => BodyAt.tup tk r⟩, ⟨ms, k _ _ m1 h2, m2.imp fun _ _ r => tk _ _ r⟩, ⟨ts, k _ _ t1 h3, t2.imp fun _ _ r => PairAt.tup tk r⟩, I.ok⟩
structure LibS (S : Addr → Prop) (L : LA) : Prop where
  l : ¬ S L.ll
  m : ¬ S L.ml
  p : ¬ S L.pl
theorem LibAt.kpS {a : Ad} {S : Addr → Prop} {G G' : Hp} {L : LA} {z : Str} {lines : List Str} {fs : List Fun} {mk : List Mk} (I : LibAt a G L z lines fs mk) (k : Kp S G G') (h4 : ∀ b, S b → ∃ xs, G b = some (.lst xs)) (h : LibS S L) : LibAt a G' L z lines fs mk := I.kp k h4 h.l h.m h.p
section
open PySem PySem.Spec PyProof.Rows
variable {X : Cx} {K : PySem.W.Frag}
theorem cr_isiK (hK : X.K = K) : CallR X (.builtin "isinstance") (rIsi K) := hK ▸ call_isi
end
/-! ### k20: the law -/
def spLaw (K : PySem.W.Frag) : Sp := fun vs H Q _ => ∃ (p : Addr) (ns : List Int), vs = [.ref p] ∧ SqL K H p (ns.map V.int) ∧ ns.length ≤ 63 ∧ ∀ H', Q (.bl true) H'
def ThK (K : PySem.W.Frag) (H : Hp) (v : V) : Prop := Thing H v ∧ ∃ dt, Dp K H v dt ∧ SeqAt.shaped (.tuple [.str "none", dt]) = true
theorem ThK.same {K : PySem.W.Frag} {H H' : Hp} {v : V} (h : ThK K H v) (s : Same H H') : ThK K H' v := by
  obtain ⟨h1, dt, h2, h3⟩ := h
  exact ⟨h1.same s, dt, dp_same s h2, h3⟩
theorem sh_str {z : Str} (h : asc z) : SeqAt.shaped (.tuple [.str "none", .str z]) = true := by
  show (PyData.strOk "none" && (PyData.strOk z && true) && decide _) = true
  rw [asc_ok h, show PyData.strOk "none" = true by decide +kernel]; rfl
theorem thk_str {K : PySem.W.Frag} {H : Hp} {z : Str} (h : asc z) (l : z.length ≤ 1000) : ThK K H (.str z) := ⟨.str z l h, _, .str z, sh_str h⟩
structure GoodG (gs : List FT) : Prop where
  ok : ∀ g ∈ gs, FTOk g
  nd : (gs.map (·.1)).Nodup
  ne : gs ≠ []
  lg : gs.length ≤ 1000
  lr : (rowsF gs).length ≤ 1000
  l1 : ∀ r ∈ rowsF gs, (lineR r).length ≤ 1000
  lib : ∃ k, rdAll (rowsOf (textR (rowsF gs))) k 0 [] [] = some (.ok (funsF 0 0 gs) (rowsF gs).length (mksF 0 gs)) ∧ TextOk (textR (rowsF gs)) ∧ (textR (rowsF gs)).length ≤ 5200 ∧
    libR (textR (rowsF gs)) 6000 (.ok (funsF 0 0 gs) (rowsF gs).length (mksF 0 gs)) = .ok (funsF 0 0 gs) (mksF 0 gs)
theorem GLib.goodG {W : Wds} {C names : List Str} {gs : List FT} {ra rb a' b' : Int} (G : GLib W C names gs ra rb a' b') (ha : ra ≤ 10) (hb : rb ≤ 4) (ln : names.length ≤ 4) (nn : names.Nodup) (nE : names ≠ []) (hW : WdL W) (hN : W.N = names) (hC : C.length ≤ 4) (hd : ∀ w ∈ C, w ∉ names) : GoodG gs := by
  obtain ⟨_, _, c3, _, c5⟩ := G.cnt ha hb ln
  refine ⟨G.ok, by rw [G.nm]; exact nn, fun e => nE (by rw [← G.nm, e]; rfl), by omega, by omega, fun r hr => ?_, G.lib ha hb ln nn nE hW hN hC hd⟩
  obtain ⟨l, hl, hr⟩ := List.mem_flatten.mp hr
  obtain ⟨g, hg, rfl⟩ := List.mem_map.mp hl
  have o := G.ok g hg
  refine Nat.le_trans (m := 52) ?_ (by decide)
  rcases List.mem_cons.mp hr with rfl | hr
  · have := o.nm.len
    refine line52 (by omega) (by simp) ?_
    rw [sum2, show (Str.ofString "function").length = 8 by decide +kernel]; simp; omega
  · exact rowsB52 g.2 C 1 (by omega) o.wf (G.g g hg) r hr
theorem ok_law (T : Txt K mg a d) : FnOk P w K mg base CX0 54 a.law d.law ["_law_script"] (spLaw K) := by
  have G_law_pool : FnOk P w K mg base CX0 1 a.law_pool d.law_pool ["_law_script", "_law_at"] (spPool K) := ok_law_pool T
  have G_law_draw : FnOk P w K mg base CX0 1 a.law_draw d.law_draw ["_law_pool_here", "_law_many"] spDraw := ok_law_draw T
  have G_law_word : FnOk P w K mg base CX0 2 a.law_word d.law_word ["_law_pool_here"] spWord := ok_law_word T
  have G_law_different : FnOk P w K mg base CX0 3 a.law_different d.law_different ["_law_pool_here", "_law_many", "_law_taken"] spDiff := ok_law_different T
  have G_law_library : FnOk P w K mg base CX0 37 a.law_library d.law_library ["_law_pool_here", "_law_names", "_law_others", "_law_room"] spLibr := ok_law_library T
  have G_LibraryU_initU : FnOk P w K mg base (L2.CX P w) 51 a.LibraryU_initU d.LibraryU_initU ["self", "text", "longest"] (spLibI a) := ok_LibraryU_initU T
  have G_law_asked : FnOk P w K mg base CX0 6 a.law_asked d.law_asked ["_law_library_here", "_law_lines_here", "_law_thing"] (spAsked K a) := ok_law_asked T
  have G_LibraryU_strU : FnOk P w K mg base CX0 1 a.LibraryU_strU d.LibraryU_strU ["self"] (spStr a) := ok_LibraryU_strU T
  have G_LibraryU_eqU : FnOk P w K mg base CX0 1 a.LibraryU_eqU d.LibraryU_eqU ["self", "other"] (spEqL a) := ok_LibraryU_eqU T
  obtain ⟨_, vd1_li, bd1_li⟩ := bd1_li0 T
  refine T.law.ok sc_law (fun vs H Q E h => ?_) (fun cdv A outer s H vs Q E hr h => ?_)
  · obtain ⟨p, ns, rfl, _⟩ := h
    rfl
  · obtain ⟨sa, ns, rfl, hS, hl, k⟩ := h
    refine ⟨_, (pss_cons (ps_for PassesOwn.never rfl (pi_range1 (by rfl) T.n_range (pa_cons (pe_callB (call_max2 rfl) (by rfl) T.n_max (by decide +kernel) (pa_cons pe_int (pa_cons (pe_callB (call_min2 rfl) (by rfl) T.n_min (by decide +kernel) (pa_cons pe_int (pa_cons (pe_callB call_len_seq (by rfl) T.n_len PySem.boot_len (pa_cons (pv 0) pa_nil)) pa_nil))) pa_nil))) pa_nil)) (pg_name (i := 1) sc_law.nd rfl (Or.inl rfl))
  (pss_cons (ps_set (i := 2) sc_law.nd rfl (Or.inl rfl) (pe_call G_law_pool (hr.mono (by omega)) (by rfl) T.g_law_pool T.law_pool.kp T.b_law_pool .nil pass0 (pa_cons (pv 0) (pa_cons (pv 1) pa_nil))))
  (pss_cons (ps_set (i := 3) sc_law.nd rfl (Or.inl rfl) (pe_call G_law_different (hr.mono (by omega)) (by rfl) T.g_law_different T.law_different.kp T.b_law_different .nil pass0 (pa_cons (pv 2) (pa_cons (pe_op op_add pe_int (pe_call G_law_draw (hr.mono (by omega)) (by rfl) T.g_law_draw T.law_draw.kp T.b_law_draw .nil pass0 (pa_cons (pv 2) (pa_cons pe_int pa_nil)))) (pa_cons (pe_lst pa_nil) pa_nil)))))
  (pss_cons (ps_set (i := 4) sc_law.nd rfl (Or.inl rfl) (pe_call G_law_different (hr.mono (by omega)) (by rfl) T.g_law_different T.law_different.kp T.b_law_different .nil pass0 (pa_cons (pv 2) (pa_cons (pe_op op_add pe_int (pe_call G_law_draw (hr.mono (by omega)) (by rfl) T.g_law_draw T.law_draw.kp T.b_law_draw .nil pass0 (pa_cons (pv 2) (pa_cons pe_int pa_nil)))) (pa_cons (pv 3) pa_nil)))))
  (pss_cons (ps_par (i := 5) (j := 6) rfl sc_law.nd rfl rfl (by decide) rfl rfl (pa_cons (pe_call G_law_library (hr.mono (by omega)) (by rfl) T.g_law_library T.law_library.kp T.b_law_library .nil pass0 (pa_cons (pv 2) (pa_cons (pv 3) (pa_cons (pv 4) (pa_cons (pe_lst (pa_cons pe_int (pa_cons pe_int pa_nil))) pa_nil))))) (pa_cons (pe_lst (pa_cons pe_int (pa_cons pe_int pa_nil))) pa_nil)) (by rfl))
  (pss_cons (ps_set (i := 7) sc_law.nd rfl (Or.inl rfl) (pe_callTy call_list_of (by rfl) T.n_list (by decide +kernel) (pa_cons (pv 5) pa_nil)))
  (C8.pss_cut (ps_if (pt_cmpR op_gt (pe_call G_law_draw (hr.mono (by omega)) (by rfl) T.g_law_draw T.law_draw.kp T.b_law_draw .nil pass0 (pa_cons (pv 2) (pa_cons pe_int pa_nil))) pe_int (nomark _)) (pss_one (ps_set (i := 7) sc_law.nd rfl (Or.inl rfl) (pe_call G_law_library (hr.mono (by omega)) (by rfl) T.g_law_library T.law_library.kp T.b_law_library .nil pass0 (pa_cons (pv 2) (pa_cons (pv 3) (pa_cons (pv 4) (pa_cons (pv 6) pa_nil))))))) pss_nil)
  (pss_cons (ps_par (i := 8) (j := 9) rfl sc_law.nd rfl rfl (by decide) rfl rfl (pa_cons (pe_make T.mk_Library G_LibraryU_initU (hr.mono (by omega)) (by rfl) T.g_Library bd1_li vd1_li passL (pa_cons (pe_join pe_str (pv 5)) pa_nil)) (pa_cons (pe_make T.mk_Library G_LibraryU_initU (hr.mono (by omega)) (by rfl) T.g_Library bd1_li vd1_li passL (pa_cons (pe_join pe_str (pv 7)) pa_nil)) pa_nil)) (by rfl))
  (pss_cons (ps_set (i := 10) sc_law.nd rfl (Or.inl rfl) (pe_op op_cat (pe_op op_cat (pv 3) (pv 4)) (pe_lst (pa_cons (pe_call G_law_word (hr.mono (by omega)) (by rfl) T.g_law_word T.law_word.kp T.b_law_word .nil pass0 (pa_cons (pv 2) pa_nil)) (pa_cons pe_str (pa_cons pe_str (pa_cons pe_non pa_nil)))))))
  (pss_cons (ps_set (i := 10) sc_law.nd rfl (Or.inl rfl) (pe_op op_cat (pv 10) (pe_lst (pa_cons pe_int (pa_cons (pe_tup (pa_cons (pe_ix ix_list (pv 3) pe_int (fun _ _ => rfl)) pa_nil)) (pa_cons (pe_op op_add_str (pe_ix ix_list (pv 3) pe_int (fun _ _ => rfl)) pe_str) (pa_cons (pe_lst (pa_cons (pe_ix ix_list (pv 3) pe_int (fun _ _ => rfl)) pa_nil)) (pa_cons (pe_lst (pa_cons (pe_lst pa_nil) pa_nil)) pa_nil))))))))
  (pss_cons (ps_set (i := 11) sc_law.nd rfl (Or.inl rfl) (pe_lst (pa_cons (pe_tup (pa_cons (pv 8) (pa_cons (pv 5) pa_nil))) (pa_cons (pe_tup (pa_cons (pv 9) (pa_cons (pv 7) pa_nil))) (pa_cons (pe_tup (pa_cons (pv 8) (pa_cons (pv 5) pa_nil))) pa_nil)))))
  (pss_cons (ps_for PassesOwn.never rfl (pi_list (pv 10)) (pg_name (i := 12) sc_law.nd rfl (Or.inl rfl))
  (pss_one (ps_for PassesOwn.never rfl (pi_list (pv 11)) (pg_tup rfl (pgs_cons (pg_name (i := 13) sc_law.nd rfl (Or.inl rfl)) (pgs_cons (pg_name (i := 14) sc_law.nd rfl (Or.inl rfl)) pgs_nil)))
  (pss_one (ps_if (pt_not (pt_val (pe_call G_law_asked (hr.mono (by omega)) (by rfl) T.g_law_asked T.law_asked.kp T.b_law_asked .nil pass0 (pa_cons (pv 13) (pa_cons (pv 14) (pa_cons (pv 12) pa_nil)))))) (pss_one (ps_ret pe_bl)) pss_nil)))))
  (pss_cons (ps_if (PW.pt (pw_or (pt_cmpR op_ne (pe_callTy (call_strOwn T.m_LibraryU_strU.at_ T.m_LibraryU_strU.fn G_LibraryU_strU (hr.mono (by omega)) T.b_LibraryU_strU) (by rfl) T.n_str (by decide +kernel) (pa_cons (pv 8) pa_nil)) (pe_join pe_str (pv 5)) (nomark _)) (pw_or1 (pt_cmpR op_ne (pe_callTy (call_strOwn T.m_LibraryU_strU.at_ T.m_LibraryU_strU.fn G_LibraryU_strU (hr.mono (by omega)) T.b_LibraryU_strU) (by rfl) T.n_str (by decide +kernel) (pa_cons (pv 9) pa_nil)) (pe_join pe_str (pv 7)) (nomark _))))) (pss_one (ps_ret pe_bl)) pss_nil)
  (pss_cons (ps_set (i := 15) sc_law.nd rfl (Or.inl rfl) (pe_cmpR (op_eqD hr.units) (pv 5) (pv 7) (nomark _)))
  (pss_cons (ps_if (PW.pt (pw_or (pt_cmpR op_ne (pe_cmpR (op_eqOwn T.m_LibraryU_eqU.at_ T.m_LibraryU_eqU.fn G_LibraryU_eqU (hr.mono (by omega)) T.b_LibraryU_eqU) (pv 8) (pv 9) (nomark _)) (pv 15) (nomark _)) (pw_or1 (pt_cmpR op_eq (pe_cmpR (op_neOwn T.eq_Library T.m_LibraryU_eqU.at_ T.m_LibraryU_eqU.fn G_LibraryU_eqU (hr.mono (by omega)) T.b_LibraryU_eqU) (pv 8) (pv 9) (nomark _)) (pv 15) (nomark _))))) (pss_one (ps_ret pe_bl)) pss_nil)
  (pss_one (ps_if (PW.pt (pw_or (pt_cmpR (op_eqOwn T.m_LibraryU_eqU.at_ T.m_LibraryU_eqU.fn G_LibraryU_eqU (hr.mono (by omega)) T.b_LibraryU_eqU) (pv 8) (pe_join pe_str (pv 5)) (nomark _)) (pw_or (pt_cmpR (op_eqOwn T.m_LibraryU_eqU.at_ T.m_LibraryU_eqU.fn G_LibraryU_eqU (hr.mono (by omega)) T.b_LibraryU_eqU) (pv 8) (pv 5) (nomark _)) (pw_or1 (pt_cmpR (op_neOwn T.eq_Library T.m_LibraryU_eqU.at_ T.m_LibraryU_eqU.fn G_LibraryU_eqU (hr.mono (by omega)) T.b_LibraryU_eqU) (pv 8) (pe_make T.mk_Library G_LibraryU_initU (hr.mono (by omega)) (by rfl) T.g_Library bd1_li vd1_li passL (pa_cons (pe_callTy (call_strOwn T.m_LibraryU_strU.at_ T.m_LibraryU_strU.fn G_LibraryU_strU (hr.mono (by omega)) T.b_LibraryU_strU) (by rfl) T.n_str (by decide +kernel) (pa_cons (pv 8) pa_nil)) pa_nil)) (nomark _)))))) (pss_one (ps_ret pe_bl)) pss_nil)))))))))))))))))
  (pss_one (ps_ret pe_bl))), ?_⟩
    try dsimp only [cxOf]
    walk_at "rd"
    refine for_range (fun i σ H1 => Same H H1 ∧ ∃ v1 v2 v3 v4 v5 v6 v7 v8 v9 v10 v11 v12 v13 v14 v15, σ = [some (.ref sa), v1, v2, v3, v4, v5, v6, v7, v8, v9, v10, v11, v12, v13, v14, v15]) ?_ ?_ ?_
    · exact ⟨Same.refl H, _, _, _, _, _, _, _, _, _, _, _, _, _, _, _, rfl⟩
    · rintro i σ H1 hi ⟨s1, v1, v2, v3, v4, v5, v6, v7, v8, v9, v10, v11, v12, v13, v14, v15, rfl⟩
      have hi12 : i < 63 := by revert hi; split <;> split <;> omega
      refine ⟨_, rfl, _, rfl, sa, ns, i, ?_, s1.seq hS, by omega, fun p o hp ho => ?_⟩
      · rw [Int.zero_add]; rfl
      have fp : H p = none := s1.free hp
      have s2 : Same H (upd H1 p o) := s1.new hp
      have hp0 := upd_same (H := H1) (a := p) (o := o)
      generalize upd H1 p o = G at s2 hp0 ⊢
      have toH : ∀ {F : Hp}, Kp (fun b => b = p) G F → Same H F := fun {F} k => Kp.same s2 k fun c e => e ▸ fp
      walk_at "rd"
      intro r1 o1 r10 r11 ho1
      have k1 : Kp (fun b => b = p) G (upd G p o1) := Kp.refl.set1
      have p1 := upd_same (H := G) (a := p) (o := o1)
      generalize upd G p o1 = G1 at k1 p1 ⊢
      walk_at "rd"
      intro e1 he1
      have k2 := k1.new (o := .lst []) he1
      have p2 := upd_old (o := .lst []) p1 he1
      have e2 := upd_same (H := G1) (a := e1) (o := .lst [])
      generalize upd G1 e1 (.lst []) = G2 at k2 p2 e2 ⊢
      obtain ⟨m1, rfl⟩ := Int.eq_ofNat_of_zero_le r10
      refine ⟨p, e1, 1 + m1, [], 0 + 1, o1, congrArg (fun z => [V.ref p, V.int z, V.ref e1]) (by omega), p2, ho1, e2, by simp; omega, by omega, fun G3 nm names o3 fnm hnm lnm wnm nnm _ ho3 p3 k3 => ?_⟩
      have k4 := k2.trans k3
      have npm : nm ≠ p := Ne.symm (ne_of_none p2 fnm)
      have lnm4 : names.length ≤ 4 := by omega
      have nnE : names ≠ [] := fun e => by rw [e] at lnm; simp at lnm; omega
      have lc3 : 0 + 1 + 9 * (1 + m1) < 2 ^ 40 := by omega
      walk_at "rd"
      intro r2 o4 r20 r21 ho4
      have k5 : Kp (fun b => b = p) G (upd G3 p o4) := k4.set1
      have p4 := upd_same (H := G3) (a := p) (o := o4)
      have m4 := upd_oth (o := o4) npm hnm
      generalize upd G3 p o4 = G4 at k5 p4 m4 ⊢
      obtain ⟨m2, rfl⟩ := Int.eq_ofNat_of_zero_le r20
      walk_at "rd"
      refine ⟨by show 1 + m2 + names.length ≤ 25; omega, by show 0 + 1 + 9 * (1 + m1) + 1 < 2 ^ 38; omega, fun G5 ot others o5 fot hot lot wot not_ dot ho5 p5 k6 => ?_⟩
      replace lot : others.length = 1 + m2 := lot
      replace ho5 : PoolO o5 (0 + 1 + 9 * (1 + m1) + 1 + 9 * (1 + m2)) := ho5
      have k7 := k5.trans k6
      have m5 := k6 _ _ m4 npm
      have nop : ot ≠ p := Ne.symm (ne_of_none p4 fot)
      have oE : others ≠ [] := fun e => by rw [e] at lot; simp at lot; omega
      walk_at "rd"
      intro rm hrm
      have k8 := k7.new (o := .lst [.int 10, .int 4]) hrm
      have p6 := upd_old (o := .lst [.int 10, .int 4]) p5 hrm
      have m6 := upd_old (o := .lst [.int 10, .int 4]) m5 hrm
      have t6 := upd_old (o := .lst [.int 10, .int 4]) hot hrm
      have r6 := upd_same (H := G5) (a := rm) (o := .lst [.int 10, .int 4])
      have nrp : p ≠ rm := ne_of_none p5 hrm
      have nrm : nm ≠ rm := ne_of_none m5 hrm
      have nro : ot ≠ rm := ne_of_none hot hrm
      generalize upd G5 rm (.lst [.int 10, .int 4]) = G6 at k8 p6 m6 t6 r6 ⊢
      walk_at "rd"
      refine ⟨(), p, rm, nm, ot, names, others, 10, 4, _, rfl, ⟨Kp.refl, ⟨o5, p6, ho5⟩, r6⟩, m6, t6, wnm, wot, oE, by omega, nnE, by omega, by omega, by omega, fun G7 l W gs a' b' c' eN hW J hc' fl hl7 GL => ?_⟩
      have gd := GL.goodG (by omega) (by omega) lnm4 nnm nnE hW eN (by omega) dot
      obtain ⟨o7, p7, ho7⟩ := J.po
      have m7 := J.k _ _ m6 (fun h => h.elim npm nrm)
      have t7 := J.k _ _ t6 (fun h => h.elim nop nro)
      have frG : G rm = none := k7.none (Ne.symm nrp) hrm
      have k9 : Kp (fun b => b = p) G G7 := fun b u e n => J.k _ _ (k8 _ _ e n) (fun h => h.elim n (fun q => by rw [q, frG] at e; cases e))
      have nlp : l ≠ p := Ne.symm (ne_of_none p6 fl)
      walk_at "rd"
      intro rm2 hrm2
      have k10 := k9.new (o := .lst [.int 8, .int 4]) hrm2
      have p8 := upd_old (o := .lst [.int 8, .int 4]) p7 hrm2
      have m8 := upd_old (o := .lst [.int 8, .int 4]) m7 hrm2
      have t8 := upd_old (o := .lst [.int 8, .int 4]) t7 hrm2
      have l8 := upd_old (o := .lst [.int 8, .int 4]) hl7 hrm2
      have r8 := upd_same (H := G7) (a := rm2) (o := .lst [.int 8, .int 4])
      have npr : p ≠ rm2 := ne_of_none p7 hrm2
      have nmr : nm ≠ rm2 := ne_of_none m7 hrm2
      have ntr : ot ≠ rm2 := ne_of_none t7 hrm2
      have nlr : l ≠ rm2 := ne_of_none hl7 hrm2
      have frG2 : G rm2 = none := k9.none (Ne.symm npr) hrm2
      generalize upd G7 rm2 (.lst [.int 8, .int 4]) = G8 at k10 p8 m8 t8 l8 r8 ⊢
      walk_at "rd"
      intro l2 hl2
      have k11 := k10.new (o := .lst (strsR (rowsF gs))) hl2
      have p9 := upd_old (o := .lst (strsR (rowsF gs))) p8 hl2
      have m9 := upd_old (o := .lst (strsR (rowsF gs))) m8 hl2
      have t9 := upd_old (o := .lst (strsR (rowsF gs))) t8 hl2
      have l9 := upd_old (o := .lst (strsR (rowsF gs))) l8 hl2
      have r9 := upd_old (o := .lst (strsR (rowsF gs))) r8 hl2
      have q9 := upd_same (H := G8) (a := l2) (o := .lst (strsR (rowsF gs)))
      have np2 : p ≠ l2 := ne_of_none p8 hl2
      generalize upd G8 l2 (.lst (strsR (rowsF gs))) = G9 at k11 p9 m9 t9 l9 r9 q9 ⊢
      have lc9 : c' < 2 ^ 40 := by omega
      walk_at "rd"
      refine ⟨fun σ' F => ∃ (_ : Unit) (l2 : Addr) (gs2 : List FT) (o : HO) (c : Nat), σ' = [some (.ref sa), some (.int (0 + (i : Int))), some (.ref p), some (.ref nm), some (.ref ot), some (.ref l), some (.ref rm2), some (.ref l2), v8, v9, v10, v11, v12, v13, v14, v15] ∧ Kp (fun b => b = p) G F ∧ F p = some o ∧ PoolO o c ∧ c ≤ 4000000 ∧ F nm = some (.lst (names.map V.str)) ∧ F ot = some (.lst (others.map V.str)) ∧ F l = some (.lst (strsR (rowsF gs))) ∧ F l2 = some (.lst (strsR (rowsF gs2))) ∧ GoodG gs2 ∧ l2 ≠ p, ?_, ?_⟩
      · walk_at "rd"
        intro r3 o9 r30 r31 ho9
        have k12 : Kp (fun b => b = p) G (upd G9 p o9) := k11.set1
        have p10 := upd_same (H := G9) (a := p) (o := o9)
        have m10 := upd_oth (o := o9) npm m9
        have t10 := upd_oth (o := o9) nop t9
        have l10 := upd_oth (o := o9) nlp l9
        have r10' := upd_oth (o := o9) (Ne.symm npr) r9
        have q10 := upd_oth (o := o9) (Ne.symm np2) q9
        generalize upd G9 p o9 = G10 at k12 p10 m10 t10 l10 r10' q10 ⊢
        walk_at "rd"
        refine ite2 (fun c0 => ?_) (fun c0 => ?_)
        · walk_at "rd"
          refine ⟨(), p, rm2, nm, ot, names, others, 8, 4, _, rfl, ⟨Kp.refl, ⟨o9, p10, ho9⟩, r10'⟩, m10, t10, wnm, wot, oE, by omega, nnE, by omega, by omega, by omega, fun G11 l3 W3 gs3 a3 b3 c3 eN3 hW3 J3 hc3 fl3 hl3 GL3 => ?_⟩
          obtain ⟨o11, p11, ho11⟩ := J3.po
          have k13 : Kp (fun b => b = p) G G11 := fun b u e n => J3.k _ _ (k12 _ _ e n) (fun h => h.elim n (fun q => by rw [q, frG2] at e; cases e))
          exact ⟨(), l3, gs3, o11, c3, rfl, k13, p11, ho11, by omega, J3.k _ _ m10 (fun h => h.elim npm nmr), J3.k _ _ t10 (fun h => h.elim nop ntr), J3.k _ _ l10 (fun h => h.elim nlp nlr), hl3, GL3.goodG (by omega) (by omega) lnm4 nnm nnE hW3 eN3 (by omega) dot, Ne.symm (ne_of_none p10 fl3)⟩
        · exact ⟨(), l2, gs, o9, c' + 1, rfl, k12, p10, ho9, by omega, m10, t10, l10, q10, gd, Ne.symm np2⟩
      · rintro σ F ⟨_, l2, gs2, o, c, rfl, kF, pF, hoF, lcF, nF, tF, lF, l2F, gd2, nl2⟩
        obtain ⟨kk, hrd, tok, tle, lib⟩ := gd.lib
        obtain ⟨kk2, hrd2, tok2, tle2, lib2⟩ := gd2.lib
        have tjo := textR_join (rows := rowsF gs) (rowsF_ne gd.ne)
        have tjo2 := textR_join (rows := rowsF gs2) (rowsF_ne gd2.ne)
        clear k1 p1 k2 p2 e2 k4 k5 p4 m4 k7 m5 k8 p6 m6 t6 r6 m7 t7 k9 k10 p8 m8 t8 l8 r8 k11 p9 m9 t9 l9 r9 q9 p7 hl7
        walk_at "rd"
        rw [join_S]
        intro x dx hx hdx ndx
        have kA : Kp (fun b => b = p) G (upd (upd F dx (.own x)) x (.ins a.Library dx [])) := (kF.new hdx).new (by rw [upd_ne (Ne.symm ndx)]; exact hx)
        have upA : ∀ {b u}, F b = some u → (upd (upd F dx (.own x)) x (.ins a.Library dx [])) b = some u := fun {b u} e => upd_old (upd_old e hdx) (by rw [upd_ne (Ne.symm ndx)]; exact hx)
        have xA := upd_same (H := upd F dx (.own x)) (a := x) (o := .ins a.Library dx [])
        have fxF : ∀ {b u}, F b = some u → b ≠ x := fun {b u} e => ne_of_none e hx
        have fxG : G x = none := kF.none (Ne.symm (fxF pF)) hx
        generalize upd (upd F dx (.own x)) x (.ins a.Library dx []) = FA at kA upA xA ⊢
        refine ⟨(), x, dx, .str (textR (rowsF gs)), 6000, rfl, xA, .inl ⟨_, kk, _, rfl, by rw [sizeLine_eq]; omega, fun _ => ⟨tok, hrd⟩, ?_⟩⟩
        rw [lib]
        rintro FB L I eL ⟨nll, nml, npl⟩ kx
        have nS : LibS (fun b => b = p) L := ⟨Ne.symm (ne_of_none (upA pF) nll), Ne.symm (ne_of_none (upA pF) nml), Ne.symm (ne_of_none (upA pF) npl)⟩
        have upB : ∀ {b u}, F b = some u → FB b = some u := fun {b u} e => kx _ _ (upA e) (fxF e)
        have kB : Kp (fun b => b = p) G FB := fun b u e n => kx _ _ (kA _ _ e n) (fun q => by rw [q, fxG] at e; cases e)
        refine ⟨rfl, ?_⟩
        subst eL
        have xB := I.ob
        have l2B := upB l2F
        walk_at "rd"
        rw [join_S]
        intro x2 dx2 hx2 hdx2 ndx2
        have upC0 : ∀ {b u}, FB b = some u → (upd (upd FB dx2 (.own x2)) x2 (.ins a.Library dx2 [])) b = some u := fun {b u} e => upd_old (upd_old e hdx2) (by rw [upd_ne (Ne.symm ndx2)]; exact hx2)
        have sC0 : Same FB (upd (upd FB dx2 (.own x2)) x2 (.ins a.Library dx2 [])) := fun b u e => upC0 e
        have xC := upd_same (H := upd FB dx2 (.own x2)) (a := x2) (o := .ins a.Library dx2 [])
        generalize upd (upd FB dx2 (.own x2)) x2 (.ins a.Library dx2 []) = FC at upC0 sC0 xC ⊢
        refine ⟨(), x2, dx2, .str (textR (rowsF gs2)), 6000, rfl, xC, .inl ⟨_, kk2, _, rfl, by rw [sizeLine_eq]; omega, fun _ => ⟨tok2, hrd2⟩, ?_⟩⟩
        rw [lib2]
        rintro FD L2 I2 eL2 ⟨nll2, nml2, npl2⟩ kx2
        have pFB := upB pF
        have nS2 : LibS (fun b => b = p) L2 := ⟨Ne.symm (ne_of_none (upC0 pFB) nll2), Ne.symm (ne_of_none (upC0 pFB) nml2), Ne.symm (ne_of_none (upC0 pFB) npl2)⟩
        have sD : Same FB FD := Kp.same sC0 kx2 fun c e => e ▸ hx2
        have upD : ∀ {b u}, F b = some u → FD b = some u := fun {b u} e => sD _ _ (upB e)
        have kD : Kp (fun b => b = p) G FD := fun b u e n => sD _ _ (kB _ _ e n)
        have I1 := I.same sD
        refine ⟨rfl, ?_⟩
        subst eL2
        have xD := I1.ob
        have xD2 := I2.ob
        have nD := upD nF
        have tD := upD tF
        have lnmv : (names.map V.str).length + (others.map V.str).length ≤ sizeLine := by rw [List.length_map, List.length_map, sizeLine_eq]; omega
        have n0 : ∃ w0 t0, names = w0 :: t0 := by
          cases names with
          | nil => exact absurd rfl nnE
          | cons w0 t0 => exact ⟨w0, t0, rfl⟩
        obtain ⟨w0, t0, en0⟩ := n0
        have iw0 : IsWord w0 := wnm w0 (by rw [en0]; exact List.mem_cons_self)
        have lw0 : w0.length + (Str.ofString " ").length ≤ sizeLine := by rw [sizeLine_eq, show (Str.ofString " ").length = 1 by decide +kernel]; have := iw0.len; omega
        have at0 : atI (names.map V.str) 0 = some (.str w0) := by rw [en0]; exact (atI_nat rfl : atI (V.str w0 :: t0.map V.str) ((0 : Nat) : Int) = _)
        have lcD : c < 2 ^ 39 := by omega
        have pD := upD pF
        have lD := upD lF
        have l2D := upD l2F
        clear l2B xB xC xA upA upB upC0 sC0 kA kF pF nF tF lF l2F
        walk_at "rd"
        intro h1 fh1
        have kE := kD.new (o := .lst (names.map V.str ++ others.map V.str)) fh1
        have upE : ∀ {b u}, FD b = some u → (upd FD h1 (.lst (names.map V.str ++ others.map V.str))) b = some u := fun {b u} e => upd_old e fh1
        have hE := upd_same (H := FD) (a := h1) (o := .lst (names.map V.str ++ others.map V.str))
        have np1 : h1 ≠ p := Ne.symm (ne_of_none pD fh1)
        have sE : Same FD (upd FD h1 (.lst (names.map V.str ++ others.map V.str))) := fun b u e => upE e
        generalize upd FD h1 (.lst (names.map V.str ++ others.map V.str)) = FE at kE upE hE sE ⊢
        have pE := upE pD
        have nE2 := upE nD
        have lE := upE lD
        have l2E := upE l2D
        have I1E := I1.same sE
        have I2E := I2.same sE
        have h4 : ∀ b, b = p → ∃ xs, FE b = some (.lst xs) := fun b h => by
          obtain ⟨x, y, z, e, _⟩ := hoF
          exact ⟨_, by rw [h, pE, e]⟩
        walk_at "rd"
        intro wd oF FF iwd hoF2 pF kFF
        have I1F := I1E.kpS kFF h4 nS
        have I2F := I2E.kpS kFF h4 nS2
        have hF1 := kFF _ _ hE np1
        have nF := kFF _ _ nE2 npm
        have lF := kFF _ _ lE nlp
        have l2F := kFF _ _ l2E nl2
        have sFF : Same H FF := toH (kE.trans kFF)
        clear I1 I2 I1E I2E I xD xD2 nD tD lD l2D pD pE nE2 lE l2E hE pF
        walk_at "rd"
        intro h2 fh2
        have s2 : Same FF (upd FF h2 (.lst [.str wd, .str "", .str "function", .non])) := (Same.refl FF).new fh2
        have e2 := upd_same (H := FF) (a := h2) (o := .lst [.str wd, .str "", .str "function", .non])
        generalize upd FF h2 (.lst [.str wd, .str "", .str "function", .non]) = F2 at s2 e2 ⊢
        have hx12 := s2 _ _ hF1
        walk_at "rd"
        refine ⟨by rw [List.length_append, List.length_map, List.length_map, sizeLine_eq]; simp only [List.length_cons, List.length_nil]; omega, fun h3 fh3 => ?_⟩
        have s3 : Same FF (upd F2 h3 (.lst (names.map V.str ++ others.map V.str ++ [.str wd, .str "", .str "function", .non]))) := s2.new fh3
        have e3 := upd_same (H := F2) (a := h3) (o := .lst (names.map V.str ++ others.map V.str ++ [.str wd, .str "", .str "function", .non]))
        generalize upd F2 h3 (.lst (names.map V.str ++ others.map V.str ++ [.str wd, .str "", .str "function", .non])) = F3 at s3 e3 ⊢
        have nF3 := s3 _ _ nF
        walk_at "rd"
        intro h5 fh5
        have s5 : Same FF (upd F3 h5 (.tup [.str w0])) := s3.new fh5
        have e5 := upd_same (H := F3) (a := h5) (o := .tup [.str w0])
        have e35 := upd_old (o := .tup [.str w0]) e3 fh5
        generalize upd F3 h5 (.tup [.str w0]) = F5 at s5 e5 e35 ⊢
        have nF5 := s5 _ _ nF
        walk_at "rd"
        intro h6 fh6
        have s6 : Same FF (upd F5 h6 (.lst [.str w0])) := s5.new fh6
        have e6 := upd_same (H := F5) (a := h6) (o := .lst [.str w0])
        replace e5 := upd_old (o := .lst [.str w0]) e5 fh6
        replace e35 := upd_old (o := .lst [.str w0]) e35 fh6
        generalize upd F5 h6 (.lst [.str w0]) = F6 at s6 e6 e5 e35 ⊢
        walk_at "rd"
        intro h7 fh7
        have s7 : Same FF (upd F6 h7 (.lst [])) := s6.new fh7
        have e7 := upd_same (H := F6) (a := h7) (o := .lst [])
        replace e5 := upd_old (o := .lst []) e5 fh7
        replace e35 := upd_old (o := .lst []) e35 fh7
        replace e6 := upd_old (o := .lst []) e6 fh7
        generalize upd F6 h7 (.lst []) = F7 at s7 e7 e5 e35 e6 ⊢
        walk_at "rd"
        intro h8 fh8
        have s8 : Same FF (upd F7 h8 (.lst [.ref h7])) := s7.new fh8
        have e8 := upd_same (H := F7) (a := h8) (o := .lst [.ref h7])
        replace e5 := upd_old (o := .lst [.ref h7]) e5 fh8
        replace e35 := upd_old (o := .lst [.ref h7]) e35 fh8
        replace e6 := upd_old (o := .lst [.ref h7]) e6 fh8
        replace e7 := upd_old (o := .lst [.ref h7]) e7 fh8
        generalize upd F7 h8 (.lst [.ref h7]) = F8 at s8 e8 e5 e35 e6 e7 ⊢
        walk_at "rd"
        intro h9 fh9
        have s9 : Same FF (upd F8 h9 (.lst [.int 0, .ref h5, .str (w0 ++ Str.ofString " "), .ref h6, .ref h8])) := s8.new fh9
        have e9 := upd_same (H := F8) (a := h9) (o := .lst [.int 0, .ref h5, .str (w0 ++ Str.ofString " "), .ref h6, .ref h8])
        replace e5 := upd_old (o := .lst [.int 0, .ref h5, .str (w0 ++ Str.ofString " "), .ref h6, .ref h8]) e5 fh9
        replace e35 := upd_old (o := .lst [.int 0, .ref h5, .str (w0 ++ Str.ofString " "), .ref h6, .ref h8]) e35 fh9
        replace e6 := upd_old (o := .lst [.int 0, .ref h5, .str (w0 ++ Str.ofString " "), .ref h6, .ref h8]) e6 fh9
        replace e7 := upd_old (o := .lst [.int 0, .ref h5, .str (w0 ++ Str.ofString " "), .ref h6, .ref h8]) e7 fh9
        replace e8 := upd_old (o := .lst [.int 0, .ref h5, .str (w0 ++ Str.ofString " "), .ref h6, .ref h8]) e8 fh9
        generalize upd F8 h9 (.lst [.int 0, .ref h5, .str (w0 ++ Str.ofString " "), .ref h6, .ref h8]) = F9 at s9 e9 e5 e35 e6 e7 e8 ⊢
        walk_at "rd"
        refine ⟨by rw [List.length_append, List.length_append, List.length_map, List.length_map, sizeLine_eq]; simp only [List.length_cons, List.length_nil]; omega, fun h10 fh10 => ?_⟩
        have s10 : Same FF (upd F9 h10 (.lst (names.map V.str ++ others.map V.str ++ [.str wd, .str "", .str "function", .non] ++ [.int 0, .ref h5, .str (w0 ++ Str.ofString " "), .ref h6, .ref h8]))) := s9.new fh10
        have e10 := upd_same (H := F9) (a := h10) (o := .lst (names.map V.str ++ others.map V.str ++ [.str wd, .str "", .str "function", .non] ++ [.int 0, .ref h5, .str (w0 ++ Str.ofString " "), .ref h6, .ref h8]))
        replace e5 := upd_old (o := .lst (names.map V.str ++ others.map V.str ++ [.str wd, .str "", .str "function", .non] ++ [.int 0, .ref h5, .str (w0 ++ Str.ofString " "), .ref h6, .ref h8])) e5 fh10
        replace e6 := upd_old (o := .lst (names.map V.str ++ others.map V.str ++ [.str wd, .str "", .str "function", .non] ++ [.int 0, .ref h5, .str (w0 ++ Str.ofString " "), .ref h6, .ref h8])) e6 fh10
        replace e7 := upd_old (o := .lst (names.map V.str ++ others.map V.str ++ [.str wd, .str "", .str "function", .non] ++ [.int 0, .ref h5, .str (w0 ++ Str.ofString " "), .ref h6, .ref h8])) e7 fh10
        replace e8 := upd_old (o := .lst (names.map V.str ++ others.map V.str ++ [.str wd, .str "", .str "function", .non] ++ [.int 0, .ref h5, .str (w0 ++ Str.ofString " "), .ref h6, .ref h8])) e8 fh10
        generalize upd F9 h10 (.lst (names.map V.str ++ others.map V.str ++ [.str wd, .str "", .str "function", .non] ++ [.int 0, .ref h5, .str (w0 ++ Str.ofString " "), .ref h6, .ref h8])) = F10 at s10 e10 e5 e6 e7 e8 ⊢
        have I1G := I1F.same s10
        have I2G := I2F.same s10
        have x1G := I1G.ob
        have x2G := I2G.ob
        have lG := s10 _ _ lF
        have l2G := s10 _ _ l2F
        walk_at "rd"
        intro h11 fh11
        have s11 : Same FF (upd F10 h11 (.tup [.ref L.x, .ref l])) := s10.new fh11
        have e11 := upd_same (H := F10) (a := h11) (o := .tup [.ref L.x, .ref l])
        replace e5 := upd_old (o := .tup [.ref L.x, .ref l]) e5 fh11
        replace e6 := upd_old (o := .tup [.ref L.x, .ref l]) e6 fh11
        replace e7 := upd_old (o := .tup [.ref L.x, .ref l]) e7 fh11
        replace e8 := upd_old (o := .tup [.ref L.x, .ref l]) e8 fh11
        replace e10 := upd_old (o := .tup [.ref L.x, .ref l]) e10 fh11
        generalize upd F10 h11 (.tup [.ref L.x, .ref l]) = F11 at s11 e11 e5 e6 e7 e8 e10 ⊢
        walk_at "rd"
        intro h12 fh12
        have s12 : Same FF (upd F11 h12 (.tup [.ref L2.x, .ref l2])) := s11.new fh12
        have e12 := upd_same (H := F11) (a := h12) (o := .tup [.ref L2.x, .ref l2])
        replace e5 := upd_old (o := .tup [.ref L2.x, .ref l2]) e5 fh12
        replace e6 := upd_old (o := .tup [.ref L2.x, .ref l2]) e6 fh12
        replace e7 := upd_old (o := .tup [.ref L2.x, .ref l2]) e7 fh12
        replace e8 := upd_old (o := .tup [.ref L2.x, .ref l2]) e8 fh12
        replace e10 := upd_old (o := .tup [.ref L2.x, .ref l2]) e10 fh12
        replace e11 := upd_old (o := .tup [.ref L2.x, .ref l2]) e11 fh12
        generalize upd F11 h12 (.tup [.ref L2.x, .ref l2]) = F12 at s12 e12 e5 e6 e7 e8 e10 e11 ⊢
        walk_at "rd"
        intro h13 fh13
        have s13 : Same FF (upd F12 h13 (.tup [.ref L.x, .ref l])) := s12.new fh13
        have e13 := upd_same (H := F12) (a := h13) (o := .tup [.ref L.x, .ref l])
        replace e5 := upd_old (o := .tup [.ref L.x, .ref l]) e5 fh13
        replace e6 := upd_old (o := .tup [.ref L.x, .ref l]) e6 fh13
        replace e7 := upd_old (o := .tup [.ref L.x, .ref l]) e7 fh13
        replace e8 := upd_old (o := .tup [.ref L.x, .ref l]) e8 fh13
        replace e10 := upd_old (o := .tup [.ref L.x, .ref l]) e10 fh13
        replace e11 := upd_old (o := .tup [.ref L.x, .ref l]) e11 fh13
        replace e12 := upd_old (o := .tup [.ref L.x, .ref l]) e12 fh13
        generalize upd F12 h13 (.tup [.ref L.x, .ref l]) = F13 at s13 e13 e5 e6 e7 e8 e10 e11 e12 ⊢
        walk_at "rd"
        intro h14 fh14
        have s14 : Same FF (upd F13 h14 (.lst [.ref h11, .ref h12, .ref h13])) := s13.new fh14
        have e14 := upd_same (H := F13) (a := h14) (o := .lst [.ref h11, .ref h12, .ref h13])
        replace e5 := upd_old (o := .lst [.ref h11, .ref h12, .ref h13]) e5 fh14
        replace e6 := upd_old (o := .lst [.ref h11, .ref h12, .ref h13]) e6 fh14
        replace e7 := upd_old (o := .lst [.ref h11, .ref h12, .ref h13]) e7 fh14
        replace e8 := upd_old (o := .lst [.ref h11, .ref h12, .ref h13]) e8 fh14
        replace e10 := upd_old (o := .lst [.ref h11, .ref h12, .ref h13]) e10 fh14
        replace e11 := upd_old (o := .lst [.ref h11, .ref h12, .ref h13]) e11 fh14
        replace e12 := upd_old (o := .lst [.ref h11, .ref h12, .ref h13]) e12 fh14
        replace e13 := upd_old (o := .lst [.ref h11, .ref h12, .ref h13]) e13 fh14
        generalize upd F13 h14 (.lst [.ref h11, .ref h12, .ref h13]) = F14 at s14 e14 e5 e6 e7 e8 e10 e11 e12 e13 ⊢
        walk_at "rd"
        have wdA : ∀ {z : Str}, IsWord z → ThK K F14 (.str z) := fun {z} h => thk_str (fun c hc => by have := h.al c hc; omega) (by have := h.len; omega)
        have hTh : ∀ v ∈ names.map V.str ++ others.map V.str ++ [.str wd, .str "", .str "function", .non] ++ [.int 0, .ref h5, .str (w0 ++ Str.ofString " "), .ref h6, .ref h8], ThK K F14 v := by
          intro v hv
          have aw0 : PyData.strOk w0 = true := asc_ok (fun c hc => by have := iw0.al c hc; omega)
          rcases List.mem_append.mp hv with hv | hv
          · rcases List.mem_append.mp hv with hv | hv
            · rcases List.mem_append.mp hv with hv | hv
              · obtain ⟨z, hz, rfl⟩ := List.mem_map.mp hv
                exact wdA (wnm z hz)
              · obtain ⟨z, hz, rfl⟩ := List.mem_map.mp hv
                exact wdA (wot z hz)
            · simp only [List.mem_cons, List.not_mem_nil, or_false] at hv
              rcases hv with rfl | rfl | rfl | rfl
              · exact wdA iwd
              · exact thk_str (fun c hc => nomatch hc) (by decide +kernel)
              · exact wdA (word_lit (by decide +kernel))
              · exact ⟨.non, .none, .non, by decide +kernel⟩
          · simp only [List.mem_cons, List.not_mem_nil, or_false] at hv
            rcases hv with rfl | rfl | rfl | rfl | rfl
            · exact ⟨.int 0, .int 0, .int 0, by decide +kernel⟩
            · refine ⟨.tup e5, .tuple [.str w0], .tup (SqT.of e5) (.cons (.str _) .nil), ?_⟩
              show (PyData.strOk "none" && ((PyData.strOk w0 && true) && true) && decide _) = true
              rw [aw0, show PyData.strOk "none" = true by decide +kernel]; rfl
            · refine thk_str (fun c hc => ?_) (by rw [Str.length_append]; have := iw0.len; rw [show (Str.ofString " ").length = 1 by decide +kernel]; omega)
              have hc : c ∈ cps (w0 ++ Str.ofString " ") := hc
              rw [cps_app] at hc
              rcases List.mem_append.mp hc with hc | hc
              · have := iw0.al c hc; omega
              · rw [show cps (Str.ofString " ") = [32] by decide +kernel] at hc
                rw [List.mem_singleton.mp hc]; omega
            · refine ⟨.lst e6, .list [.str w0], .lst (SqL.of e6) (.cons (.str _) .nil), ?_⟩
              show (PyData.strOk "none" && ((PyData.strOk w0 && true) && true) && decide _) = true
              rw [aw0, show PyData.strOk "none" = true by decide +kernel]; rfl
            · exact ⟨.lst e8, .list [.list []], .lst (SqL.of e8) (.cons (.lst (SqL.of e7) .nil) .nil), by decide +kernel⟩
        have I1H := I1F.same s14
        have I2H := I2F.same s14
        have lH := s14 _ _ lF
        have l2H := s14 _ _ l2F
        refine ⟨⟨_, SqL.of e10⟩, ?_⟩
        refine for_list (xs := names.map V.str ++ others.map V.str ++ [.str wd, .str "", .str "function", .non] ++ [.int 0, .ref h5, .str (w0 ++ Str.ofString " "), .ref h6, .ref h8]) (fun i1 σ X => ∃ (_ : Unit) (v12 v13 v14 : Option V), σ = [some (.ref sa), some (.int (0 + (i : Int))), some (.ref p), some (.ref nm), some (.ref ot), some (.ref l), some (.ref rm2), some (.ref l2), some (.ref L.x), some (.ref L2.x), some (.ref h10), some (.ref h14), v12, v13, v14, v15] ∧ Same F14 X) ?_ ?_ ?_ ?_
        · exact ⟨(), _, _, _, rfl, Same.refl _⟩
        · rintro i1 σ X _ ⟨_, v12, v13, v14, rfl, sX⟩
          exact SqL.of (sX _ _ e10)
        · rintro i1 v σ X hv ⟨_, v12, v13, v14, rfl, sX⟩
          have hvT := hTh v (List.mem_of_getElem? hv)
          have e14X := sX _ _ e14
          walk_at "rd"
          refine ⟨⟨_, SqL.of e14X⟩, ?_⟩
          refine for_list (xs := [.ref h11, .ref h12, .ref h13]) (fun i2 σ Y => ∃ (_ : Unit) (v13 v14 : Option V), σ = [some (.ref sa), some (.int (0 + (i : Int))), some (.ref p), some (.ref nm), some (.ref ot), some (.ref l), some (.ref rm2), some (.ref l2), some (.ref L.x), some (.ref L2.x), some (.ref h10), some (.ref h14), some v, v13, v14, v15] ∧ Same F14 Y) ?_ ?_ ?_ ?_
          · exact ⟨(), _, _, rfl, sX⟩
          · rintro i2 σ Y _ ⟨_, v13, v14, rfl, sY⟩
            exact SqL.of (sY _ _ e14)
          · rintro i2 u σ Y hu ⟨_, v13, v14, rfl, sY⟩
            obtain ⟨hT, dt, hD, hSh⟩ := hvT.same sY
            obtain ⟨t, Lu, lu, gu, rfl, eT, IU, lU, gU⟩ : ∃ (t : Addr) (Lu : LA) (lu : Addr) (gu : List FT), u = .ref t ∧ F14 t = some (.tup [.ref Lu.x, .ref lu]) ∧ LibAt a F14 Lu (textR (rowsF gu)) (linesOf (textR (rowsF gu))) (funsF 0 0 gu) (mksF 0 gu) ∧ F14 lu = some (.lst (strsR (rowsF gu))) ∧ GoodG gu := by
              have := List.mem_of_getElem? hu
              simp only [List.mem_cons, List.not_mem_nil, or_false] at this
              rcases this with rfl | rfl | rfl
              · exact ⟨h11, L, l, gs, rfl, e11, I1H, lH, gd⟩
              · exact ⟨h12, L2, l2, gs2, rfl, e12, I2H, l2H, gd2⟩
              · exact ⟨h13, L, l, gs, rfl, e13, I1H, lH, gd⟩
            have eY := sY _ _ eT
            walk_at "rd"
            refine ⟨(), Lu, _, _, _, lu, gu, v, dt, rfl, IU.same sY, sY _ _ lU, textR_lines (rowsF_ne gU.ne) (rowsF_good gU.ok), gU.ok, gU.nd, hT, gU.lg, gU.lr, gU.l1, hD, hSh, fun Z sZ => ?_⟩
            refine ⟨true, rfl, ?_⟩
            refine iteF ?_
            exact ⟨(), _, _, rfl, sY.trans sZ⟩
          · rintro σ Y ⟨_, v13, v14, rfl, sY⟩
            exact ⟨(), _, _, _, rfl, sY⟩
        · rintro σ X ⟨_, v12, v13, v14, rfl, sX⟩
          have I1X := I1H.same sX
          have I2X := I2H.same sX
          have x1X := I1X.ob
          have x2X := I2X.ob
          have lX := sX _ _ lH
          have l2X := sX _ _ l2H
          walk_at "rd"
          refine ⟨(), L, _, _, _, _, rfl, I1X, by rw [sizeLine_eq]; omega, ⟨_, rfl⟩, ?_⟩
          walk_at "rd"
          rw [join_S]
          refine ite2 (fun c0 => absurd c0 (by simp; rfl)) (fun _ => ?_)
          walk_at "rd"
          refine ⟨(), L2, _, _, _, _, rfl, I2X, by rw [sizeLine_eq]; omega, ⟨_, rfl⟩, ?_⟩
          walk_at "rd"
          rw [join_S]
          refine ite2 (fun c0 => absurd c0 (by simp; rfl)) (fun _ => ?_)
          have aR : ∀ z ∈ (rowsF gs).map lineR, asc z := fun z hz => by
            obtain ⟨r, hr, rfl⟩ := List.mem_map.mp hz
            exact (rowsF_good gd.ok r hr).asc
          have aR2 : ∀ z ∈ (rowsF gs2).map lineR, asc z := fun z hz => by
            obtain ⟨r, hr, rfl⟩ := List.mem_map.mp hz
            exact (rowsF_good gd2.ok r hr).asc
          walk_at "rd"
          refine ⟨_, _, .lst (SqL.of lX) (dp_strs _), .lst (SqL.of l2X) (dp_strs _), shaped_strs aR, shaped_strs aR2, ?_⟩
          rw [show PyData.eqv (.list (((rowsF gs).map lineR).map PyData.str)) (.list (((rowsF gs2).map lineR).map PyData.str)) = decide ((rowsF gs).map lineR = (rowsF gs2).map lineR) from eqv_strsL _ _]
          have te : decide (textR (rowsF gs) = textR (rowsF gs2)) = decide ((rowsF gs).map lineR = (rowsF gs2).map lineR) := decide_eq_decide.mpr ⟨fun e => by
            rw [← textR_lines (rowsF_ne gd.ne) (rowsF_good gd.ok), ← textR_lines (rowsF_ne gd2.ne) (rowsF_good gd2.ok), e], fun e => by
            exact congrArg (Str.join (Str.ofString "\n")) e⟩
          walk_at "rd"
          refine ⟨.ins x2X, (), L, _, _, _, _, .ref L2.x, rfl, I1X, .inl ⟨L2, _, _, _, _, rfl, I2X, _, rfl, ?_⟩⟩
          rw [te]
          walk_at "rd"
          refine ite2 (fun c0 => absurd c0 (by simp)) (fun _ => ?_)
          walk_at "rd"
          refine ⟨.ins x2X, (), L, _, _, _, _, .ref L2.x, rfl, I1X, .inl ⟨L2, _, _, _, _, rfl, I2X, _, rfl, ?_⟩⟩
          rw [te]
          walk_at "rd"
          refine ite2 (fun c0 => absurd c0 (by simp)) (fun _ => ?_)
          walk_at "rd"
          refine ⟨.str _ T.eq_Library.nS, (), L, _, _, _, _, .str _, rfl, I1X, .inr ⟨.inl ⟨_, rfl⟩, _, rfl, ?_⟩⟩
          refine ⟨_, rfl, ?_⟩
          refine iteF ?_
          walk_at "rd"
          refine ⟨.lst lX T.nl_Library, (), L, _, _, _, _, .ref l, rfl, I1X, .inr ⟨.inr ⟨_, _, rfl, lX⟩, _, rfl, ?_⟩⟩
          refine ⟨_, rfl, ?_⟩
          refine iteF ?_
          walk_at "rd"
          refine ⟨(), L, _, _, _, _, rfl, I1X, by rw [sizeLine_eq]; omega, ⟨_, rfl⟩, ?_⟩
          walk_at "rd"
          intro x3 dx3 hx3 hdx3 ndx3
          have sC3 : Same X (upd (upd X dx3 (.own x3)) x3 (.ins a.Library dx3 [])) := fun b u e => upd_old (upd_old e hdx3) (by rw [upd_ne (Ne.symm ndx3)]; exact hx3)
          have xC3 := upd_same (H := upd X dx3 (.own x3)) (a := x3) (o := .ins a.Library dx3 [])
          generalize upd (upd X dx3 (.own x3)) x3 (.ins a.Library dx3 []) = XC at sC3 xC3 ⊢
          refine ⟨(), x3, dx3, .str (textR (rowsF gs)), 6000, rfl, xC3, .inl ⟨_, kk, _, rfl, by rw [sizeLine_eq]; omega, fun _ => ⟨tok, hrd⟩, ?_⟩⟩
          rw [lib]
          rintro XD L3 I3 eL3 _ kx3
          have sXD : Same X XD := Kp.same sC3 kx3 fun c e => e ▸ hx3
          have I1D := I1X.same sXD
          have x1D := I1D.ob
          refine ⟨rfl, ?_⟩
          subst eL3
          walk_at "rd"
          refine ⟨.ins I3.ob, (), L, _, _, _, _, .ref L3.x, rfl, I1D, .inl ⟨L3, _, _, _, _, rfl, I3, _, rfl, ?_⟩⟩
          refine ⟨_, rfl, ?_⟩
          refine ite2 (fun c0 => absurd c0 (by simp)) (fun _ => ?_)
          exact ⟨(sFF.trans s14).trans (sX.trans sXD), _, _, _, _, _, _, _, _, _, _, _, _, _, _, _, rfl⟩
    · rintro σ H1 ⟨s1, v1, v2, v3, v4, v5, v6, v7, v8, v9, v10, v11, v12, v13, v14, v15, rfl⟩
      walk_at "rd"
      exact k _
end
theorem all_mk {w : World} {K : PySem.W.Frag} {h : Heap} {mg : Str → Option Value} {fa : Addr} (X : K.In h) (G : h.Ns mainGlobals mg) (hfa : mg "law" = some (.ref fa))
    {C1 : Addr}
    {t6 : Tok}
    {t8 : Tok}
    {t10 : Tok}
    {t12 : Tok}
    {t14 : Tok}
    {t16 : Tok}
    {t18 : Tok}
    {t20 : Tok}
    {t24 t25 t26 t27 t28 t29 t30 t31 : Tok} {p22 : Addr} {dd32 : Option Addr} {nn33 : Nat} {sl34 : Array (Option Value)}
    {f35 p36 : Addr} {rs39 : List Value}
    {od40 an40 : Option Addr} {sl40 : Array (Option Value)} {oc40 kV40 dc40 pm40 cd40 ct40 : Value}
    {f41 : Addr}
    {od43 an43 : Option Addr} {sl43 : Array (Option Value)} {oc43 kV43 dc43 pm43 cd43 ct43 : Value}
    {C45 : Addr}
    {f47 : Addr} {nm48 qn48 : Str} {N48 : Addr} {bs48 bm48 : List Value} {sn48 : List Str} {sub48 : List Value} {ab48 : Bool} {col48 : Option Bool} {dd48 : Option Addr} {k048 k148 k248 k348 k548 : Option Value}
    {oc48 : Value} {od48 : Option Addr} {doc48 pm48 : Value} {an48 : Option Addr} {cda48 cc48 : Addr} {ct48 : Value} {osl48 : Array (Option Value)} {ccl48 : Value} {cdd48 : Option Addr} {vs48 : Array Value} {ccs48 : Array (Option Value)} {tf48 : Tok} {cl48 : Value} {cld48 : Option Addr} {csl48 : Array (Option Value)}
    {C70 : Addr}
    {f72 : Addr} {nm73 qn73 : Str} {N73 : Addr} {bs73 bm73 : List Value} {sn73 : List Str} {sub73 : List Value} {ab73 : Bool} {col73 : Option Bool} {dd73 : Option Addr} {k073 k173 k273 k373 k573 : Option Value}
    {oc73 : Value} {od73 : Option Addr} {doc73 pm73 : Value} {an73 : Option Addr} {cda73 cc73 : Addr} {ct73 : Value} {osl73 : Array (Option Value)} {ccl73 : Value} {cdd73 : Option Addr} {vs73 : Array Value} {ccs73 : Array (Option Value)} {tf73 : Tok} {cl73 : Value} {cld73 : Option Addr} {csl73 : Array (Option Value)}
    {C95 : Addr}
    {f97 : Addr} {nm98 qn98 : Str} {N98 : Addr} {bs98 bm98 : List Value} {sn98 : List Str} {sub98 : List Value} {ab98 : Bool} {col98 : Option Bool} {dd98 : Option Addr} {k098 k198 k298 k398 k598 : Option Value}
    {oc98 : Value} {od98 : Option Addr} {doc98 pm98 : Value} {an98 : Option Addr} {cda98 cc98 : Addr} {ct98 : Value} {osl98 : Array (Option Value)} {ccl98 : Value} {cdd98 : Option Addr} {vs98 : Array Value} {ccs98 : Array (Option Value)} {tf98 : Tok} {cl98 : Value} {cld98 : Option Addr} {csl98 : Array (Option Value)}
    {C120 : Addr}
    {f122 : Addr} {nm123 qn123 : Str} {N123 : Addr} {bs123 bm123 : List Value} {sn123 : List Str} {sub123 : List Value} {ab123 : Bool} {col123 : Option Bool} {dd123 : Option Addr} {k0123 k1123 k2123 k3123 k5123 : Option Value}
    {oc123 : Value} {od123 : Option Addr} {doc123 pm123 : Value} {an123 : Option Addr} {cda123 cc123 : Addr} {ct123 : Value} {osl123 : Array (Option Value)} {ccl123 : Value} {cdd123 : Option Addr} {vs123 : Array Value} {ccs123 : Array (Option Value)} {tf123 : Tok} {cl123 : Value} {cld123 : Option Addr} {csl123 : Array (Option Value)}
    {t146 : Tok}
    {f147 : Addr}
    {od149 an149 : Option Addr} {sl149 : Array (Option Value)} {oc149 kV149 dc149 pm149 cd149 ct149 : Value}
    {C150 : Addr}
    {f161 : Addr}
    {od166 an166 : Option Addr} {sl166 : Array (Option Value)} {oc166 kV166 dc166 pm166 cd166 ct166 : Value}
    {f167 : Addr}
    {od170 an170 : Option Addr} {sl170 : Array (Option Value)} {oc170 kV170 dc170 pm170 cd170 ct170 : Value}
    {f171 : Addr}
    {od174 an174 : Option Addr} {sl174 : Array (Option Value)} {oc174 kV174 dc174 pm174 cd174 ct174 : Value}
    {f175 : Addr}
    {od178 an178 : Option Addr} {sl178 : Array (Option Value)} {oc178 kV178 dc178 pm178 cd178 ct178 : Value}
    {f179 : Addr}
    {od182 an182 : Option Addr} {sl182 : Array (Option Value)} {oc182 kV182 dc182 pm182 cd182 ct182 : Value}
    {f183 : Addr}
    {od186 an186 : Option Addr} {sl186 : Array (Option Value)} {oc186 kV186 dc186 pm186 cd186 ct186 : Value}
    {f187 : Addr}
    {od190 an190 : Option Addr} {sl190 : Array (Option Value)} {oc190 kV190 dc190 pm190 cd190 ct190 : Value}
    {f191 : Addr}
    {od194 an194 : Option Addr} {sl194 : Array (Option Value)} {oc194 kV194 dc194 pm194 cd194 ct194 : Value}
    {t196 : Tok}
    {t198 : Tok}
    {p200 : Addr}
    {dd202 : Option Addr} {nn203 : Nat} {sl204 : Array (Option Value)}
    {t205 : Tok}
    {t206 : Tok}
    {t207 : Tok}
    {t208 : Tok}
    {t209 : Tok}
    {p211 : Addr}
    {dd213 : Option Addr} {nn214 : Nat} {sl215 : Array (Option Value)}
    {p216 : Addr}
    {p217 : Addr}
    {p218 : Addr}
    {p219 : Addr}
    {p220 : Addr}
    {p221 : Addr}
    {dd223 : Option Addr} {nn224 : Nat} {sl225 : Array (Option Value)}
    {t226 : Tok}
    {t227 : Tok}
    {dd229 : Option Addr} {nn230 : Nat} {sl231 : Array (Option Value)}
    {t232 : Tok}
    {t233 : Tok}
    {dd235 : Option Addr} {nn236 : Nat} {sl237 : Array (Option Value)}
    {t238 : Tok}
    {t239 : Tok}
    {dd241 : Option Addr} {nn242 : Nat} {sl243 : Array (Option Value)}
    {t244 : Tok}
    {t245 : Tok}
    {dd247 : Option Addr} {nn248 : Nat} {sl249 : Array (Option Value)}
    {t250 : Tok}
    {t251 : Tok}
    {dd253 : Option Addr} {nn254 : Nat} {sl255 : Array (Option Value)}
    {t256 : Tok}
    {t257 : Tok}
    {C258 : Addr}
    {f270 : Addr}
    {od275 an275 : Option Addr} {sl275 : Array (Option Value)} {oc275 dc275 pm275 cd275 ct275 : Value}
    {T276 : Addr} {oc277 : Value} {od278 : Option Addr} {on279 : Nat} {os280 : Array (Option Value)}
    {t281 : Tok}
    {kV275 : Value}
    {f283 : Addr}
    {od285 an285 : Option Addr} {sl285 : Array (Option Value)} {oc285 kV285 dc285 pm285 cd285 ct285 : Value}
    {f286 : Addr}
    {od288 an288 : Option Addr} {sl288 : Array (Option Value)} {oc288 dc288 pm288 cd288 ct288 : Value}
    {T289 : Addr} {oc290 : Value} {od291 : Option Addr} {on292 : Nat} {os293 : Array (Option Value)}
    {kV288 : Value}
    {f296 : Addr}
    {od298 an298 : Option Addr} {sl298 : Array (Option Value)} {oc298 kV298 dc298 pm298 cd298 ct298 : Value}
    {f299 : Addr}
    {od301 an301 : Option Addr} {sl301 : Array (Option Value)} {oc301 kV301 dc301 pm301 cd301 ct301 : Value}
    {f302 : Addr}
    {od304 an304 : Option Addr} {sl304 : Array (Option Value)} {oc304 kV304 dc304 pm304 cd304 ct304 : Value}
    {f305 : Addr}
    {od307 an307 : Option Addr} {sl307 : Array (Option Value)} {oc307 kV307 dc307 pm307 cd307 ct307 : Value}
    {f308 : Addr}
    {od310 an310 : Option Addr} {sl310 : Array (Option Value)} {oc310 kV310 dc310 pm310 cd310 ct310 : Value}
    {f311 : Addr}
    {od314 an314 : Option Addr} {sl314 : Array (Option Value)} {oc314 kV314 dc314 pm314 cd314 ct314 : Value}
    {f315 : Addr}
    {od318 an318 : Option Addr} {sl318 : Array (Option Value)} {oc318 kV318 dc318 pm318 cd318 ct318 : Value}
    {f319 : Addr}
    {od322 an322 : Option Addr} {sl322 : Array (Option Value)} {oc322 kV322 dc322 pm322 cd322 ct322 : Value}
    {f323 : Addr}
    {od326 an326 : Option Addr} {sl326 : Array (Option Value)} {oc326 kV326 dc326 pm326 cd326 ct326 : Value}
    {f327 : Addr}
    {od330 an330 : Option Addr} {sl330 : Array (Option Value)} {oc330 kV330 dc330 pm330 cd330 ct330 : Value}
    {f331 : Addr}
    {od334 an334 : Option Addr} {sl334 : Array (Option Value)} {oc334 kV334 dc334 pm334 cd334 ct334 : Value}
    {f335 : Addr}
    {od338 an338 : Option Addr} {sl338 : Array (Option Value)} {oc338 kV338 dc338 pm338 cd338 ct338 : Value}
    {f339 : Addr}
    {od342 an342 : Option Addr} {sl342 : Array (Option Value)} {oc342 kV342 dc342 pm342 cd342 ct342 : Value}
    {f343 : Addr}
    {od346 an346 : Option Addr} {sl346 : Array (Option Value)} {oc346 kV346 dc346 pm346 cd346 ct346 : Value}
    {f347 : Addr}
    {od350 an350 : Option Addr} {sl350 : Array (Option Value)} {oc350 kV350 dc350 pm350 cd350 ct350 : Value}
    {f351 : Addr}
    {od354 an354 : Option Addr} {sl354 : Array (Option Value)} {oc354 kV354 dc354 pm354 cd354 ct354 : Value}
    {f355 : Addr}
    {od358 an358 : Option Addr} {sl358 : Array (Option Value)} {oc358 kV358 dc358 pm358 cd358 ct358 : Value}
    {f374 : Addr}
    {od376 an376 : Option Addr} {sl376 : Array (Option Value)} {oc376 kV376 dc376 pm376 cd376 ct376 : Value}
    {f377 : Addr}
    {od379 an379 : Option Addr} {sl379 : Array (Option Value)} {oc379 kV379 dc379 pm379 cd379 ct379 : Value}
    {f380 : Addr}
    {od382 an382 : Option Addr} {sl382 : Array (Option Value)} {oc382 kV382 dc382 pm382 cd382 ct382 : Value}
    {f383 : Addr}
    {od385 an385 : Option Addr} {sl385 : Array (Option Value)} {oc385 kV385 dc385 pm385 cd385 ct385 : Value}
    {f386 : Addr}
    {od388 an388 : Option Addr} {sl388 : Array (Option Value)} {oc388 kV388 dc388 pm388 cd388 ct388 : Value}
    {f389 : Addr}
    {od391 an391 : Option Addr} {sl391 : Array (Option Value)} {oc391 kV391 dc391 pm391 cd391 ct391 : Value}
    {f392 : Addr}
    {od394 an394 : Option Addr} {sl394 : Array (Option Value)} {oc394 kV394 dc394 pm394 cd394 ct394 : Value}
    {f395 : Addr}
    {od397 an397 : Option Addr} {sl397 : Array (Option Value)} {oc397 kV397 dc397 pm397 cd397 ct397 : Value}
    {f398 : Addr}
    {od400 an400 : Option Addr} {sl400 : Array (Option Value)} {oc400 kV400 dc400 pm400 cd400 ct400 : Value}
    {f401 : Addr}
    {od403 an403 : Option Addr} {sl403 : Array (Option Value)} {oc403 kV403 dc403 pm403 cd403 ct403 : Value}
    {f404 : Addr}
    {od406 an406 : Option Addr} {sl406 : Array (Option Value)} {oc406 kV406 dc406 pm406 cd406 ct406 : Value}
    {f407 : Addr}
    {od409 an409 : Option Addr} {sl409 : Array (Option Value)} {oc409 kV409 dc409 pm409 cd409 ct409 : Value}
    {f410 : Addr}
    {od412 an412 : Option Addr} {sl412 : Array (Option Value)} {oc412 kV412 dc412 pm412 cd412 ct412 : Value}
    {od413 an413 : Option Addr} {sl413 : Array (Option Value)} {oc413 kV413 dc413 pm413 cd413 ct413 : Value}
    (a2 : PySem.W.nsIn K mainGlobals "Mode" = some (some (.ref C1)))
    (r3 : PySem.W.readsIn K C1 (.type "type") = true)
    (s4 : PySem.W.specialIn K (.ref C1) "__getattribute__" = some (some (.builtin "type.__getattribute__")))
    (z5 : PySem.W.findCls K (.ref C1) (.type "type") "JOIN" = some (.val (.str "join" t6)))
    (z7 : PySem.W.findCls K (.ref C1) (.type "type") "INNER" = some (.val (.str "inner" t8)))
    (z9 : PySem.W.findCls K (.ref C1) (.type "type") "APART" = some (.val (.str "apart" t10)))
    (z11 : PySem.W.findCls K (.ref C1) (.type "type") "MUST" = some (.val (.str "must" t12)))
    (z13 : PySem.W.findCls K (.ref C1) (.type "type") "EITHER" = some (.val (.str "either" t14)))
    (z15 : PySem.W.findCls K (.ref C1) (.type "type") "NEVER" = some (.val (.str "never" t16)))
    (z17 : PySem.W.findCls K (.ref C1) (.type "type") "OUTSIDE" = some (.val (.str "outside" t18)))
    (z19 : PySem.W.findCls K (.ref C1) (.type "type") "ALONE" = some (.val (.str "alone" t20)))
    (z21 : PySem.W.findCls K (.ref C1) (.type "type") "ALL" = some (.val (.ref p22)))
    (l23 : K.lookup p22 = some ⟨.type "tuple", dd32, .seq #[.str "join" t24, .str "inner" t25, .str "apart" t26, .str "must" t27, .str "either" t28, .str "never" t29, .str "outside" t30, .str "alone" t31] nn33, sl34⟩)
    (z37 : PySem.W.findCls K (.ref C1) (.type "type") "is_mode" = some (.get (.builtin "staticmethod.__get__") (.ref p36) .none (.ref C1)))
    (r38 : PySem.W.recIn K p36 "staticmethod" = some (.ref f35 :: rs39))
    (l40 : K.lookup f35 = some ⟨oc40, od40, .func (PySem.W.fnOf "is_mode" "Mode.is_mode" (defArgs s_Mode_is_mode) (defBody s_Mode_is_mode) (defScope s_Mode_is_mode) .none kV40 dc40 pm40 an40 cd40 ct40), sl40⟩)
    (c40 : PySem.W.codeIn K cd40 "Mode.is_mode" = true)
    (k40 : PySem.W.keepIn K (.ref f35) = true)
    (a42 : PySem.W.nsIn K mainGlobals "is_word" = some (some (.ref f41)))
    (l43 : K.lookup f41 = some ⟨oc43, od43, .func (PySem.W.fnOf "is_word" "is_word" (defArgs s_is_word) (defBody s_is_word) (defScope s_is_word) .none kV43 dc43 pm43 an43 cd43 ct43), sl43⟩)
    (c43 : PySem.W.codeIn K cd43 "is_word" = true)
    (k43 : PySem.W.keepIn K (.ref f41) = true)
    (z44 : PySem.W.nsIn K cStatics "thirdparty.any" = some none)
    (a46 : PySem.W.nsIn K mainGlobals "TooMany" = some (some (.ref C45)))
    (e49 : K.lookup C45 = some (excClassObj nm48 qn48 C45 N48 bs48 bm48 true sn48 sub48 ab48 col48 dd48 k048 k148 k248 k348 k548 "ValueError.__new__"))
    (e50 : PySem.HandSPX.refsVE bm48 = true)
    (e51 : PySem.W.findIn K (.ref C45) "__setattr__" = some (some (.builtin "object.__setattr__")))
    (e52 : PySem.W.findIn K (.ref C45) "__getattribute__" = some (some (.builtin "BaseException.__getattribute__")))
    (e53 : PySem.W.findIn K (.ref C45) "__getattr__" = some none)
    (e54 : PySem.W.findIn K (.ref C45) "__init__" = some (some (.ref f47)))
    (e55 : PySem.W.typeIn K (.ref f47) = some (.type "function"))
    (e56 : PySem.W.keepIn K (.ref C45) = true)
    (e57 : PySem.W.subIn K (.ref C45) (.type "BaseException") = some true)
    (e58 : PySem.W.subIn K (.ref C45) (.type "ValueError") = some true)
    (e59 : PySem.W.typeIn K (.ref C45) = some (.type "type"))
    (e60 : PySem.W.hasDictIn K C45 = true)
    (e61 : PySem.W.ks_superIn K C45 C45 "__init__" = some (some (.builtin "ValueError.__init__")))
    (e62 : PySem.W.mroIn K C45 (.ref C45) = some true)
    (e63 : PySem.W.exmOne K (.ref C45) (.ref C45) = some true)
    (e64 : K.lookup f47 = some ⟨oc48, od48, .func (PySem.W.ksFn "__init__" "TooMany.__init__" (defArgs s_TooManyU_initU) (defBody s_TooManyU_initU) (defScope s_TooManyU_initU) .none .none doc48 pm48 an48 (.ref cda48) ct48 cc48), osl48⟩)
    (e65 : PySem.W.codeIn K (.ref cda48) "TooMany.__init__" = true)
    (e66 : K.lookup cda48 = some ⟨ccl48, cdd48, .fields vs48, ccs48⟩)
    (e67 : vs48[2]? = some (.str P.main.file tf48))
    (e68 : K.lookup cc48 = some ⟨cl48, cld48, .cell (some (.ref C45)), csl48⟩)
    (e69 : PySem.W.findIn K (.ref C45) "what" = some none)
    (a71 : PySem.W.nsIn K mainGlobals "BadLibrary" = some (some (.ref C70)))
    (e74 : K.lookup C70 = some (excClassObj nm73 qn73 C70 N73 bs73 bm73 true sn73 sub73 ab73 col73 dd73 k073 k173 k273 k373 k573 "ValueError.__new__"))
    (e75 : PySem.HandSPX.refsVE bm73 = true)
    (e76 : PySem.W.findIn K (.ref C70) "__setattr__" = some (some (.builtin "object.__setattr__")))
    (e77 : PySem.W.findIn K (.ref C70) "__getattribute__" = some (some (.builtin "BaseException.__getattribute__")))
    (e78 : PySem.W.findIn K (.ref C70) "__getattr__" = some none)
    (e79 : PySem.W.findIn K (.ref C70) "__init__" = some (some (.ref f72)))
    (e80 : PySem.W.typeIn K (.ref f72) = some (.type "function"))
    (e81 : PySem.W.keepIn K (.ref C70) = true)
    (e82 : PySem.W.subIn K (.ref C70) (.type "BaseException") = some true)
    (e83 : PySem.W.subIn K (.ref C70) (.type "ValueError") = some true)
    (e84 : PySem.W.typeIn K (.ref C70) = some (.type "type"))
    (e85 : PySem.W.hasDictIn K C70 = true)
    (e86 : PySem.W.ks_superIn K C70 C70 "__init__" = some (some (.builtin "ValueError.__init__")))
    (e87 : PySem.W.mroIn K C70 (.ref C70) = some true)
    (e88 : PySem.W.exmOne K (.ref C70) (.ref C70) = some true)
    (e89 : K.lookup f72 = some ⟨oc73, od73, .func (PySem.W.ksFn "__init__" "BadLibrary.__init__" (defArgs s_BadLibraryU_initU) (defBody s_BadLibraryU_initU) (defScope s_BadLibraryU_initU) .none .none doc73 pm73 an73 (.ref cda73) ct73 cc73), osl73⟩)
    (e90 : PySem.W.codeIn K (.ref cda73) "BadLibrary.__init__" = true)
    (e91 : K.lookup cda73 = some ⟨ccl73, cdd73, .fields vs73, ccs73⟩)
    (e92 : vs73[2]? = some (.str P.main.file tf73))
    (e93 : K.lookup cc73 = some ⟨cl73, cld73, .cell (some (.ref C70)), csl73⟩)
    (e94 : PySem.W.findIn K (.ref C70) "line" = some none)
    (a96 : PySem.W.nsIn K mainGlobals "Endless" = some (some (.ref C95)))
    (e99 : K.lookup C95 = some (excClassObj nm98 qn98 C95 N98 bs98 bm98 true sn98 sub98 ab98 col98 dd98 k098 k198 k298 k398 k598 "ValueError.__new__"))
    (e100 : PySem.HandSPX.refsVE bm98 = true)
    (e101 : PySem.W.findIn K (.ref C95) "__setattr__" = some (some (.builtin "object.__setattr__")))
    (e102 : PySem.W.findIn K (.ref C95) "__getattribute__" = some (some (.builtin "BaseException.__getattribute__")))
    (e103 : PySem.W.findIn K (.ref C95) "__getattr__" = some none)
    (e104 : PySem.W.findIn K (.ref C95) "__init__" = some (some (.ref f97)))
    (e105 : PySem.W.typeIn K (.ref f97) = some (.type "function"))
    (e106 : PySem.W.keepIn K (.ref C95) = true)
    (e107 : PySem.W.subIn K (.ref C95) (.type "BaseException") = some true)
    (e108 : PySem.W.subIn K (.ref C95) (.type "ValueError") = some true)
    (e109 : PySem.W.typeIn K (.ref C95) = some (.type "type"))
    (e110 : PySem.W.hasDictIn K C95 = true)
    (e111 : PySem.W.ks_superIn K C95 C95 "__init__" = some (some (.builtin "ValueError.__init__")))
    (e112 : PySem.W.mroIn K C95 (.ref C95) = some true)
    (e113 : PySem.W.exmOne K (.ref C95) (.ref C95) = some true)
    (e114 : K.lookup f97 = some ⟨oc98, od98, .func (PySem.W.ksFn "__init__" "Endless.__init__" (defArgs s_EndlessU_initU) (defBody s_EndlessU_initU) (defScope s_EndlessU_initU) .none .none doc98 pm98 an98 (.ref cda98) ct98 cc98), osl98⟩)
    (e115 : PySem.W.codeIn K (.ref cda98) "Endless.__init__" = true)
    (e116 : K.lookup cda98 = some ⟨ccl98, cdd98, .fields vs98, ccs98⟩)
    (e117 : vs98[2]? = some (.str P.main.file tf98))
    (e118 : K.lookup cc98 = some ⟨cl98, cld98, .cell (some (.ref C95)), csl98⟩)
    (e119 : PySem.W.findIn K (.ref C95) "name" = some none)
    (a121 : PySem.W.nsIn K mainGlobals "NoFunction" = some (some (.ref C120)))
    (e124 : K.lookup C120 = some (excClassObj nm123 qn123 C120 N123 bs123 bm123 true sn123 sub123 ab123 col123 dd123 k0123 k1123 k2123 k3123 k5123 "ValueError.__new__"))
    (e125 : PySem.HandSPX.refsVE bm123 = true)
    (e126 : PySem.W.findIn K (.ref C120) "__setattr__" = some (some (.builtin "object.__setattr__")))
    (e127 : PySem.W.findIn K (.ref C120) "__getattribute__" = some (some (.builtin "BaseException.__getattribute__")))
    (e128 : PySem.W.findIn K (.ref C120) "__getattr__" = some none)
    (e129 : PySem.W.findIn K (.ref C120) "__init__" = some (some (.ref f122)))
    (e130 : PySem.W.typeIn K (.ref f122) = some (.type "function"))
    (e131 : PySem.W.keepIn K (.ref C120) = true)
    (e132 : PySem.W.subIn K (.ref C120) (.type "BaseException") = some true)
    (e133 : PySem.W.subIn K (.ref C120) (.type "ValueError") = some true)
    (e134 : PySem.W.typeIn K (.ref C120) = some (.type "type"))
    (e135 : PySem.W.hasDictIn K C120 = true)
    (e136 : PySem.W.ks_superIn K C120 C120 "__init__" = some (some (.builtin "ValueError.__init__")))
    (e137 : PySem.W.mroIn K C120 (.ref C120) = some true)
    (e138 : PySem.W.exmOne K (.ref C120) (.ref C120) = some true)
    (e139 : K.lookup f122 = some ⟨oc123, od123, .func (PySem.W.ksFn "__init__" "NoFunction.__init__" (defArgs s_NoFunctionU_initU) (defBody s_NoFunctionU_initU) (defScope s_NoFunctionU_initU) .none .none doc123 pm123 an123 (.ref cda123) ct123 cc123), osl123⟩)
    (e140 : PySem.W.codeIn K (.ref cda123) "NoFunction.__init__" = true)
    (e141 : K.lookup cda123 = some ⟨ccl123, cdd123, .fields vs123, ccs123⟩)
    (e142 : vs123[2]? = some (.str P.main.file tf123))
    (e143 : K.lookup cc123 = some ⟨cl123, cld123, .cell (some (.ref C120)), csl123⟩)
    (e144 : PySem.W.findIn K (.ref C120) "name" = some none)
    (z145 : PySem.W.nsIn K mainGlobals "DEEPEST" = some (some (.int 8 t146)))
    (a148 : PySem.W.nsIn K mainGlobals "split_line" = some (some (.ref f147)))
    (l149 : K.lookup f147 = some ⟨oc149, od149, .func (PySem.W.fnOf "split_line" "split_line" (defArgs s_split_line) (defBody s_split_line) (defScope s_split_line) .none kV149 dc149 pm149 an149 cd149 ct149), sl149⟩)
    (c149 : PySem.W.codeIn K cd149 "split_line" = true)
    (k149 : PySem.W.keepIn K (.ref f147) = true)
    (a151 : PySem.W.nsIn K mainGlobals "Reader" = some (some (.ref C150)))
    (q152 : PySem.W.plainGet K C150 Str.empty = true)
    (q153 : PySem.W.hasDictIn K C150 = true)
    (q154 : PySem.W.plainOver K C150 = true)
    (q155 : PySem.W.findIn K (.ref C150) "__setattr__" = some (some (.builtin "object.__setattr__")))
    (z156 : PySem.W.findIn K (.ref C150) "rows" = some none)
    (z157 : PySem.W.findIn K (.ref C150) "at" = some none)
    (z158 : PySem.W.findIn K (.ref C150) "starts" = some none)
    (z159 : PySem.W.findIn K (.ref C150) "bodies" = some none)
    (z160 : PySem.W.findIn K (.ref C150) "marks" = some none)
    (q162 : PySem.W.makesIn K C150 = true)
    (q163 : PySem.W.findIn K (.ref C150) "__init__" = some (some (.ref f161)))
    (q164 : PySem.W.isFn K (.ref f161) = true)
    (q165 : PySem.W.keepIn K (.ref C150) = true)
    (l166 : K.lookup f161 = some ⟨oc166, od166, .func (PySem.W.fnOf "__init__" "Reader.__init__" (defArgs s_ReaderU_initU) (defBody s_ReaderU_initU) (defScope s_ReaderU_initU) .none kV166 dc166 pm166 an166 cd166 ct166), sl166⟩)
    (c166 : PySem.W.codeIn K cd166 "Reader.__init__" = true)
    (k166 : PySem.W.keepIn K (.ref f161) = true)
    (q168 : PySem.W.findIn K (.ref C150) "words_at" = some (some (.ref f167)))
    (q169 : PySem.W.isFn K (.ref f167) = true)
    (l170 : K.lookup f167 = some ⟨oc170, od170, .func (PySem.W.fnOf "words_at" "Reader.words_at" (defArgs s_Reader_words_at) (defBody s_Reader_words_at) (defScope s_Reader_words_at) .none kV170 dc170 pm170 an170 cd170 ct170), sl170⟩)
    (c170 : PySem.W.codeIn K cd170 "Reader.words_at" = true)
    (k170 : PySem.W.keepIn K (.ref f167) = true)
    (q172 : PySem.W.findIn K (.ref C150) "wrong_if" = some (some (.ref f171)))
    (q173 : PySem.W.isFn K (.ref f171) = true)
    (l174 : K.lookup f171 = some ⟨oc174, od174, .func (PySem.W.fnOf "wrong_if" "Reader.wrong_if" (defArgs s_Reader_wrong_if) (defBody s_Reader_wrong_if) (defScope s_Reader_wrong_if) .none kV174 dc174 pm174 an174 cd174 ct174), sl174⟩)
    (c174 : PySem.W.codeIn K cd174 "Reader.wrong_if" = true)
    (k174 : PySem.W.keepIn K (.ref f171) = true)
    (q176 : PySem.W.findIn K (.ref C150) "read_all" = some (some (.ref f175)))
    (q177 : PySem.W.isFn K (.ref f175) = true)
    (l178 : K.lookup f175 = some ⟨oc178, od178, .func (PySem.W.fnOf "read_all" "Reader.read_all" (defArgs s_Reader_read_all) (defBody s_Reader_read_all) (defScope s_Reader_read_all) .none kV178 dc178 pm178 an178 cd178 ct178), sl178⟩)
    (c178 : PySem.W.codeIn K cd178 "Reader.read_all" = true)
    (k178 : PySem.W.keepIn K (.ref f175) = true)
    (q180 : PySem.W.findIn K (.ref C150) "read_body" = some (some (.ref f179)))
    (q181 : PySem.W.isFn K (.ref f179) = true)
    (l182 : K.lookup f179 = some ⟨oc182, od182, .func (PySem.W.fnOf "read_body" "Reader.read_body" (defArgs s_Reader_read_body) (defBody s_Reader_read_body) (defScope s_Reader_read_body) .none kV182 dc182 pm182 an182 cd182 ct182), sl182⟩)
    (c182 : PySem.W.codeIn K cd182 "Reader.read_body" = true)
    (k182 : PySem.W.keepIn K (.ref f179) = true)
    (q184 : PySem.W.findIn K (.ref C150) "read_statement" = some (some (.ref f183)))
    (q185 : PySem.W.isFn K (.ref f183) = true)
    (l186 : K.lookup f183 = some ⟨oc186, od186, .func (PySem.W.fnOf "read_statement" "Reader.read_statement" (defArgs s_Reader_read_statement) (defBody s_Reader_read_statement) (defScope s_Reader_read_statement) .none kV186 dc186 pm186 an186 cd186 ct186), sl186⟩)
    (c186 : PySem.W.codeIn K cd186 "Reader.read_statement" = true)
    (k186 : PySem.W.keepIn K (.ref f183) = true)
    (q188 : PySem.W.findIn K (.ref C150) "read_block" = some (some (.ref f187)))
    (q189 : PySem.W.isFn K (.ref f187) = true)
    (l190 : K.lookup f187 = some ⟨oc190, od190, .func (PySem.W.fnOf "read_block" "Reader.read_block" (defArgs s_Reader_read_block) (defBody s_Reader_read_block) (defScope s_Reader_read_block) .none kV190 dc190 pm190 an190 cd190 ct190), sl190⟩)
    (c190 : PySem.W.codeIn K cd190 "Reader.read_block" = true)
    (k190 : PySem.W.keepIn K (.ref f187) = true)
    (q192 : PySem.W.findIn K (.ref C150) "read_try" = some (some (.ref f191)))
    (q193 : PySem.W.isFn K (.ref f191) = true)
    (l194 : K.lookup f191 = some ⟨oc194, od194, .func (PySem.W.fnOf "read_try" "Reader.read_try" (defArgs s_Reader_read_try) (defBody s_Reader_read_try) (defScope s_Reader_read_try) .none kV194 dc194 pm194 an194 cd194 ct194), sl194⟩)
    (c194 : PySem.W.codeIn K cd194 "Reader.read_try" = true)
    (k194 : PySem.W.keepIn K (.ref f191) = true)
    (z195 : PySem.W.nsIn K mainGlobals "MOST_CHARACTERS" = some (some (.int 6000 t196)))
    (z197 : PySem.W.nsIn K mainGlobals "MOST_WEIGHT" = some (some (.int 400 t198)))
    (a199 : PySem.W.nsIn K mainGlobals "DATABASE_ERRORS" = some (some (.ref p200)))
    (l201 : K.lookup p200 = some ⟨.type "tuple", dd202, .seq #[.str "doomed" t205, .str "missing" t206, .str "present" t207, .str "refused" t208, .str "waits" t209] nn203, sl204⟩)
    (a210 : PySem.W.nsIn K mainGlobals "BOUNDS" = some (some (.ref p211)))
    (l212 : K.lookup p211 = some ⟨.type "tuple", dd213, .seq #[.ref p216, .ref p217, .ref p218, .ref p219, .ref p220, .ref p221] nn214, sl215⟩)
    (l222 : K.lookup p216 = some ⟨.type "tuple", dd223, .seq #[.str "functions" t226, .int 12 t227] nn224, sl225⟩)
    (l228 : K.lookup p217 = some ⟨.type "tuple", dd229, .seq #[.str "statements" t232, .int 80 t233] nn230, sl231⟩)
    (l234 : K.lookup p218 = some ⟨.type "tuple", dd235, .seq #[.str "records" t238, .int 6 t239] nn236, sl237⟩)
    (l240 : K.lookup p219 = some ⟨.type "tuple", dd241, .seq #[.str "errors" t244, .int 11 t245] nn242, sl243⟩)
    (l246 : K.lookup p220 = some ⟨.type "tuple", dd247, .seq #[.str "blocks" t250, .int 16 t251] nn248, sl249⟩)
    (l252 : K.lookup p221 = some ⟨.type "tuple", dd253, .seq #[.str "unknown" t256, .int 4 t257] nn254, sl255⟩)
    (a259 : PySem.W.nsIn K mainGlobals "Library" = some (some (.ref C258)))
    (q260 : PySem.W.plainGet K C258 Str.empty = true)
    (q261 : PySem.W.hasDictIn K C258 = true)
    (q262 : PySem.W.plainOver K C258 = true)
    (q263 : PySem.W.findIn K (.ref C258) "__setattr__" = some (some (.builtin "object.__setattr__")))
    (z264 : PySem.W.findIn K (.ref C258) "text" = some none)
    (z265 : PySem.W.findIn K (.ref C258) "lines" = some none)
    (z266 : PySem.W.findIn K (.ref C258) "starts" = some none)
    (z267 : PySem.W.findIn K (.ref C258) "bodies" = some none)
    (z268 : PySem.W.findIn K (.ref C258) "marks" = some none)
    (z269 : PySem.W.findIn K (.ref C258) "pairs" = some none)
    (q271 : PySem.W.makesIn K C258 = true)
    (q272 : PySem.W.findIn K (.ref C258) "__init__" = some (some (.ref f270)))
    (q273 : PySem.W.isFn K (.ref f270) = true)
    (q274 : PySem.W.keepIn K (.ref C258) = true)
    (l275 : K.lookup f270 = some ⟨oc275, od275, .func (PySem.W.fnOf "__init__" "Library.__init__" (defArgs s_LibraryU_initU) (defBody s_LibraryU_initU) (defScope s_LibraryU_initU) (.ref T276) kV275 dc275 pm275 an275 cd275 ct275), sl275⟩)
    (c275 : PySem.W.codeIn K cd275 "Library.__init__" = true)
    (k275 : PySem.W.keepIn K (.ref f270) = true)
    (lT282 : K.lookup T276 = some ⟨oc277, od278, .seq #[.int 6000 t281] on279, os280⟩)
    (a284 : PySem.W.nsIn K mainGlobals "parts_of" = some (some (.ref f283)))
    (l285 : K.lookup f283 = some ⟨oc285, od285, .func (PySem.W.fnOf "parts_of" "parts_of" (defArgs s_parts_of) (defBody s_parts_of) (defScope s_parts_of) .none kV285 dc285 pm285 an285 cd285 ct285), sl285⟩)
    (c285 : PySem.W.codeIn K cd285 "parts_of" = true)
    (k285 : PySem.W.keepIn K (.ref f283) = true)
    (a287 : PySem.W.nsIn K mainGlobals "listed_statements" = some (some (.ref f286)))
    (l288 : K.lookup f286 = some ⟨oc288, od288, .func (PySem.W.fnOf "listed_statements" "listed_statements" (defArgs s_listed_statements) (defBody s_listed_statements) (defScope s_listed_statements) (.ref T289) kV288 dc288 pm288 an288 cd288 ct288), sl288⟩)
    (c288 : PySem.W.codeIn K cd288 "listed_statements" = true)
    (k288 : PySem.W.keepIn K (.ref f286) = true)
    (lT295 : K.lookup T289 = some ⟨oc290, od291, .seq #[.bool false] on292, os293⟩)
    (a297 : PySem.W.nsIn K mainGlobals "words_of" = some (some (.ref f296)))
    (l298 : K.lookup f296 = some ⟨oc298, od298, .func (PySem.W.fnOf "words_of" "words_of" (defArgs s_words_of) (defBody s_words_of) (defScope s_words_of) .none kV298 dc298 pm298 an298 cd298 ct298), sl298⟩)
    (c298 : PySem.W.codeIn K cd298 "words_of" = true)
    (k298 : PySem.W.keepIn K (.ref f296) = true)
    (a300 : PySem.W.nsIn K mainGlobals "comes_back" = some (some (.ref f299)))
    (l301 : K.lookup f299 = some ⟨oc301, od301, .func (PySem.W.fnOf "comes_back" "comes_back" (defArgs s_comes_back) (defBody s_comes_back) (defScope s_comes_back) .none kV301 dc301 pm301 an301 cd301 ct301), sl301⟩)
    (c301 : PySem.W.codeIn K cd301 "comes_back" = true)
    (k301 : PySem.W.keepIn K (.ref f299) = true)
    (a303 : PySem.W.nsIn K mainGlobals "free_statements" = some (some (.ref f302)))
    (l304 : K.lookup f302 = some ⟨oc304, od304, .func (PySem.W.fnOf "free_statements" "free_statements" (defArgs s_free_statements) (defBody s_free_statements) (defScope s_free_statements) .none kV304 dc304 pm304 an304 cd304 ct304), sl304⟩)
    (c304 : PySem.W.codeIn K cd304 "free_statements" = true)
    (k304 : PySem.W.keepIn K (.ref f302) = true)
    (a306 : PySem.W.nsIn K mainGlobals "weight_of" = some (some (.ref f305)))
    (l307 : K.lookup f305 = some ⟨oc307, od307, .func (PySem.W.fnOf "weight_of" "weight_of" (defArgs s_weight_of) (defBody s_weight_of) (defScope s_weight_of) .none kV307 dc307 pm307 an307 cd307 ct307), sl307⟩)
    (c307 : PySem.W.codeIn K cd307 "weight_of" = true)
    (k307 : PySem.W.keepIn K (.ref f305) = true)
    (a309 : PySem.W.nsIn K mainGlobals "body_weight" = some (some (.ref f308)))
    (l310 : K.lookup f308 = some ⟨oc310, od310, .func (PySem.W.fnOf "body_weight" "body_weight" (defArgs s_body_weight) (defBody s_body_weight) (defScope s_body_weight) .none kV310 dc310 pm310 an310 cd310 ct310), sl310⟩)
    (c310 : PySem.W.codeIn K cd310 "body_weight" = true)
    (k310 : PySem.W.keepIn K (.ref f308) = true)
    (q312 : PySem.W.findIn K (.ref C258) "stay_in_bounds" = some (some (.ref f311)))
    (q313 : PySem.W.isFn K (.ref f311) = true)
    (l314 : K.lookup f311 = some ⟨oc314, od314, .func (PySem.W.fnOf "stay_in_bounds" "Library.stay_in_bounds" (defArgs s_Library_stay_in_bounds) (defBody s_Library_stay_in_bounds) (defScope s_Library_stay_in_bounds) .none kV314 dc314 pm314 an314 cd314 ct314), sl314⟩)
    (c314 : PySem.W.codeIn K cd314 "Library.stay_in_bounds" = true)
    (k314 : PySem.W.keepIn K (.ref f311) = true)
    (q316 : PySem.W.findIn K (.ref C258) "come_to_an_end" = some (some (.ref f315)))
    (q317 : PySem.W.isFn K (.ref f315) = true)
    (l318 : K.lookup f315 = some ⟨oc318, od318, .func (PySem.W.fnOf "come_to_an_end" "Library.come_to_an_end" (defArgs s_Library_come_to_an_end) (defBody s_Library_come_to_an_end) (defScope s_Library_come_to_an_end) .none kV318 dc318 pm318 an318 cd318 ct318), sl318⟩)
    (c318 : PySem.W.codeIn K cd318 "Library.come_to_an_end" = true)
    (k318 : PySem.W.keepIn K (.ref f315) = true)
    (q320 : PySem.W.findIn K (.ref C258) "functions" = some (some (.ref f319)))
    (q321 : PySem.W.isFn K (.ref f319) = true)
    (l322 : K.lookup f319 = some ⟨oc322, od322, .func (PySem.W.fnOf "functions" "Library.functions" (defArgs s_Library_functions) (defBody s_Library_functions) (defScope s_Library_functions) .none kV322 dc322 pm322 an322 cd322 ct322), sl322⟩)
    (c322 : PySem.W.codeIn K cd322 "Library.functions" = true)
    (k322 : PySem.W.keepIn K (.ref f319) = true)
    (q324 : PySem.W.findIn K (.ref C258) "records" = some (some (.ref f323)))
    (q325 : PySem.W.isFn K (.ref f323) = true)
    (l326 : K.lookup f323 = some ⟨oc326, od326, .func (PySem.W.fnOf "records" "Library.records" (defArgs s_Library_records) (defBody s_Library_records) (defScope s_Library_records) .none kV326 dc326 pm326 an326 cd326 ct326), sl326⟩)
    (c326 : PySem.W.codeIn K cd326 "Library.records" = true)
    (k326 : PySem.W.keepIn K (.ref f323) = true)
    (q328 : PySem.W.findIn K (.ref C258) "errors" = some (some (.ref f327)))
    (q329 : PySem.W.isFn K (.ref f327) = true)
    (l330 : K.lookup f327 = some ⟨oc330, od330, .func (PySem.W.fnOf "errors" "Library.errors" (defArgs s_Library_errors) (defBody s_Library_errors) (defScope s_Library_errors) .none kV330 dc330 pm330 an330 cd330 ct330), sl330⟩)
    (c330 : PySem.W.codeIn K cd330 "Library.errors" = true)
    (k330 : PySem.W.keepIn K (.ref f327) = true)
    (q332 : PySem.W.findIn K (.ref C258) "unknown" = some (some (.ref f331)))
    (q333 : PySem.W.isFn K (.ref f331) = true)
    (l334 : K.lookup f331 = some ⟨oc334, od334, .func (PySem.W.fnOf "unknown" "Library.unknown" (defArgs s_Library_unknown) (defBody s_Library_unknown) (defScope s_Library_unknown) .none kV334 dc334 pm334 an334 cd334 ct334), sl334⟩)
    (c334 : PySem.W.codeIn K cd334 "Library.unknown" = true)
    (k334 : PySem.W.keepIn K (.ref f331) = true)
    (q336 : PySem.W.findIn K (.ref C258) "blocks" = some (some (.ref f335)))
    (q337 : PySem.W.isFn K (.ref f335) = true)
    (l338 : K.lookup f335 = some ⟨oc338, od338, .func (PySem.W.fnOf "blocks" "Library.blocks" (defArgs s_Library_blocks) (defBody s_Library_blocks) (defScope s_Library_blocks) .none kV338 dc338 pm338 an338 cd338 ct338), sl338⟩)
    (c338 : PySem.W.codeIn K cd338 "Library.blocks" = true)
    (k338 : PySem.W.keepIn K (.ref f335) = true)
    (q340 : PySem.W.findIn K (.ref C258) "__len__" = some (some (.ref f339)))
    (q341 : PySem.W.isFn K (.ref f339) = true)
    (l342 : K.lookup f339 = some ⟨oc342, od342, .func (PySem.W.fnOf "__len__" "Library.__len__" (defArgs s_LibraryU_lenU) (defBody s_LibraryU_lenU) (defScope s_LibraryU_lenU) .none kV342 dc342 pm342 an342 cd342 ct342), sl342⟩)
    (c342 : PySem.W.codeIn K cd342 "Library.__len__" = true)
    (k342 : PySem.W.keepIn K (.ref f339) = true)
    (q344 : PySem.W.findIn K (.ref C258) "__contains__" = some (some (.ref f343)))
    (q345 : PySem.W.isFn K (.ref f343) = true)
    (l346 : K.lookup f343 = some ⟨oc346, od346, .func (PySem.W.fnOf "__contains__" "Library.__contains__" (defArgs s_LibraryU_containsU) (defBody s_LibraryU_containsU) (defScope s_LibraryU_containsU) .none kV346 dc346 pm346 an346 cd346 ct346), sl346⟩)
    (c346 : PySem.W.codeIn K cd346 "Library.__contains__" = true)
    (k346 : PySem.W.keepIn K (.ref f343) = true)
    (q348 : PySem.W.findIn K (.ref C258) "__getitem__" = some (some (.ref f347)))
    (q349 : PySem.W.isFn K (.ref f347) = true)
    (l350 : K.lookup f347 = some ⟨oc350, od350, .func (PySem.W.fnOf "__getitem__" "Library.__getitem__" (defArgs s_LibraryU_getitemU) (defBody s_LibraryU_getitemU) (defScope s_LibraryU_getitemU) .none kV350 dc350 pm350 an350 cd350 ct350), sl350⟩)
    (c350 : PySem.W.codeIn K cd350 "Library.__getitem__" = true)
    (k350 : PySem.W.keepIn K (.ref f347) = true)
    (q352 : PySem.W.findIn K (.ref C258) "__str__" = some (some (.ref f351)))
    (q353 : PySem.W.isFn K (.ref f351) = true)
    (l354 : K.lookup f351 = some ⟨oc354, od354, .func (PySem.W.fnOf "__str__" "Library.__str__" (defArgs s_LibraryU_strU) (defBody s_LibraryU_strU) (defScope s_LibraryU_strU) .none kV354 dc354 pm354 an354 cd354 ct354), sl354⟩)
    (c354 : PySem.W.codeIn K cd354 "Library.__str__" = true)
    (k354 : PySem.W.keepIn K (.ref f351) = true)
    (q356 : PySem.W.findIn K (.ref C258) "__eq__" = some (some (.ref f355)))
    (q357 : PySem.W.isFn K (.ref f355) = true)
    (l358 : K.lookup f355 = some ⟨oc358, od358, .func (PySem.W.fnOf "__eq__" "Library.__eq__" (defArgs s_LibraryU_eqU) (defBody s_LibraryU_eqU) (defScope s_LibraryU_eqU) .none kV358 dc358 pm358 an358 cd358 ct358), sl358⟩)
    (c358 : PySem.W.codeIn K cd358 "Library.__eq__" = true)
    (k358 : PySem.W.keepIn K (.ref f355) = true)
    (z359 : PySem.W.fnIn K f347 = true)
    (q360 : PySem.W.findIn K (.ref C258) "__class__" = some (some (.builtin "object.__class__")))
    (q361 : PySem.W.specialIn K (.builtin "object.__class__") "__get__" = some (some (.builtin "getset_descriptor.__get__")))
    (q362 : PySem.W.takesIn K (.builtin "object.__class__") = some true)
    (q363 : PySem.W.mroIn K C258 (.type "object") = some true)
    (q364 : PySem.W.kitOne K (.ref C258) (.ref C258) = some true)
    (q365 : PySem.W.kitOne K (.type "tuple") (.ref C258) = some false)
    (q366 : PySem.W.kitOne K (.type "str") (.ref C258) = some false)
    (q367 : PySem.W.kitOne K (.type "NoneType") (.ref C258) = some false)
    (q368 : PySem.W.notFirst K C258 (.type "tuple") = true)
    (q369 : PySem.W.notFirst K C258 (.type "str") = true)
    (q370 : PySem.W.notFirst K C258 (.type "NoneType") = true)
    (q371 : PySem.W.findIn K (.ref C258) "__ne__" = some (some (.builtin "object.__ne__")))
    (q372 : PySem.W.kitOne K (.type "list") (.ref C258) = some false)
    (q373 : PySem.W.notFirst K C258 (.type "list") = true)
    (a375 : PySem.W.nsIn K mainGlobals "_law_pool" = some (some (.ref f374)))
    (l376 : K.lookup f374 = some ⟨oc376, od376, .func (PySem.W.fnOf "_law_pool" "_law_pool" (defArgs s_law_pool) (defBody s_law_pool) (defScope s_law_pool) .none kV376 dc376 pm376 an376 cd376 ct376), sl376⟩)
    (c376 : PySem.W.codeIn K cd376 "_law_pool" = true)
    (k376 : PySem.W.keepIn K (.ref f374) = true)
    (a378 : PySem.W.nsIn K mainGlobals "_law_draw" = some (some (.ref f377)))
    (l379 : K.lookup f377 = some ⟨oc379, od379, .func (PySem.W.fnOf "_law_draw" "_law_draw" (defArgs s_law_draw) (defBody s_law_draw) (defScope s_law_draw) .none kV379 dc379 pm379 an379 cd379 ct379), sl379⟩)
    (c379 : PySem.W.codeIn K cd379 "_law_draw" = true)
    (k379 : PySem.W.keepIn K (.ref f377) = true)
    (a381 : PySem.W.nsIn K mainGlobals "_law_word" = some (some (.ref f380)))
    (l382 : K.lookup f380 = some ⟨oc382, od382, .func (PySem.W.fnOf "_law_word" "_law_word" (defArgs s_law_word) (defBody s_law_word) (defScope s_law_word) .none kV382 dc382 pm382 an382 cd382 ct382), sl382⟩)
    (c382 : PySem.W.codeIn K cd382 "_law_word" = true)
    (k382 : PySem.W.keepIn K (.ref f380) = true)
    (a384 : PySem.W.nsIn K mainGlobals "_law_different" = some (some (.ref f383)))
    (l385 : K.lookup f383 = some ⟨oc385, od385, .func (PySem.W.fnOf "_law_different" "_law_different" (defArgs s_law_different) (defBody s_law_different) (defScope s_law_different) .none kV385 dc385 pm385 an385 cd385 ct385), sl385⟩)
    (c385 : PySem.W.codeIn K cd385 "_law_different" = true)
    (k385 : PySem.W.keepIn K (.ref f383) = true)
    (a387 : PySem.W.nsIn K mainGlobals "_law_pick" = some (some (.ref f386)))
    (l388 : K.lookup f386 = some ⟨oc388, od388, .func (PySem.W.fnOf "_law_pick" "_law_pick" (defArgs s_law_pick) (defBody s_law_pick) (defScope s_law_pick) .none kV388 dc388 pm388 an388 cd388 ct388), sl388⟩)
    (c388 : PySem.W.codeIn K cd388 "_law_pick" = true)
    (k388 : PySem.W.keepIn K (.ref f386) = true)
    (a390 : PySem.W.nsIn K mainGlobals "_law_row" = some (some (.ref f389)))
    (l391 : K.lookup f389 = some ⟨oc391, od391, .func (PySem.W.fnOf "_law_row" "_law_row" (defArgs s_law_row) (defBody s_law_row) (defScope s_law_row) .none kV391 dc391 pm391 an391 cd391 ct391), sl391⟩)
    (c391 : PySem.W.codeIn K cd391 "_law_row" = true)
    (k391 : PySem.W.keepIn K (.ref f389) = true)
    (a393 : PySem.W.nsIn K mainGlobals "_law_body" = some (some (.ref f392)))
    (l394 : K.lookup f392 = some ⟨oc394, od394, .func (PySem.W.fnOf "_law_body" "_law_body" (defArgs s_law_body) (defBody s_law_body) (defScope s_law_body) .none kV394 dc394 pm394 an394 cd394 ct394), sl394⟩)
    (c394 : PySem.W.codeIn K cd394 "_law_body" = true)
    (k394 : PySem.W.keepIn K (.ref f392) = true)
    (a396 : PySem.W.nsIn K mainGlobals "_law_statement" = some (some (.ref f395)))
    (l397 : K.lookup f395 = some ⟨oc397, od397, .func (PySem.W.fnOf "_law_statement" "_law_statement" (defArgs s_law_statement) (defBody s_law_statement) (defScope s_law_statement) .none kV397 dc397 pm397 an397 cd397 ct397), sl397⟩)
    (c397 : PySem.W.codeIn K cd397 "_law_statement" = true)
    (k397 : PySem.W.keepIn K (.ref f395) = true)
    (a399 : PySem.W.nsIn K mainGlobals "_law_try" = some (some (.ref f398)))
    (l400 : K.lookup f398 = some ⟨oc400, od400, .func (PySem.W.fnOf "_law_try" "_law_try" (defArgs s_law_try) (defBody s_law_try) (defScope s_law_try) .none kV400 dc400 pm400 an400 cd400 ct400), sl400⟩)
    (c400 : PySem.W.codeIn K cd400 "_law_try" = true)
    (k400 : PySem.W.keepIn K (.ref f398) = true)
    (a402 : PySem.W.nsIn K mainGlobals "_law_library" = some (some (.ref f401)))
    (l403 : K.lookup f401 = some ⟨oc403, od403, .func (PySem.W.fnOf "_law_library" "_law_library" (defArgs s_law_library) (defBody s_law_library) (defScope s_law_library) .none kV403 dc403 pm403 an403 cd403 ct403), sl403⟩)
    (c403 : PySem.W.codeIn K cd403 "_law_library" = true)
    (k403 : PySem.W.keepIn K (.ref f401) = true)
    (a405 : PySem.W.nsIn K mainGlobals "_law_lines" = some (some (.ref f404)))
    (l406 : K.lookup f404 = some ⟨oc406, od406, .func (PySem.W.fnOf "_law_lines" "_law_lines" (defArgs s_law_lines) (defBody s_law_lines) (defScope s_law_lines) .none kV406 dc406 pm406 an406 cd406 ct406), sl406⟩)
    (c406 : PySem.W.codeIn K cd406 "_law_lines" = true)
    (k406 : PySem.W.keepIn K (.ref f404) = true)
    (a408 : PySem.W.nsIn K mainGlobals "_law_asked" = some (some (.ref f407)))
    (l409 : K.lookup f407 = some ⟨oc409, od409, .func (PySem.W.fnOf "_law_asked" "_law_asked" (defArgs s_law_asked) (defBody s_law_asked) (defScope s_law_asked) .none kV409 dc409 pm409 an409 cd409 ct409), sl409⟩)
    (c409 : PySem.W.codeIn K cd409 "_law_asked" = true)
    (k409 : PySem.W.keepIn K (.ref f407) = true)
    (a411 : PySem.W.nsIn K mainGlobals "_law_due" = some (some (.ref f410)))
    (l412 : K.lookup f410 = some ⟨oc412, od412, .func (PySem.W.fnOf "_law_due" "_law_due" (defArgs s_law_due) (defBody s_law_due) (defScope s_law_due) .none kV412 dc412 pm412 an412 cd412 ct412), sl412⟩)
    (c412 : PySem.W.codeIn K cd412 "_law_due" = true)
    (k412 : PySem.W.keepIn K (.ref f410) = true)
    (l413 : K.lookup fa = some ⟨oc413, od413, .func (PySem.W.fnOf "law" "law" (defArgs s_law) (defBody s_law) (defScope s_law) .none kV413 dc413 pm413 an413 cd413 ct413), sl413⟩)
    (c413 : PySem.W.codeIn K cd413 "law" = true)
    (k413 : PySem.W.keepIn K (.ref fa) = true)
    (z414 : PySem.W.nsIn K mainGlobals "len" = some none)
    (z415 : PySem.W.nsIn K mainGlobals "isinstance" = some none)
    (z416 : PySem.W.nsIn K mainGlobals "str" = some none)
    (z417 : PySem.W.nsIn K mainGlobals "all" = some none)
    (z418 : PySem.W.nsIn K mainGlobals "super" = some none)
    (z419 : PySem.W.nsIn K mainGlobals "tuple" = some none)
    (z420 : PySem.W.nsIn K mainGlobals "list" = some none)
    (z421 : PySem.W.nsIn K mainGlobals "sorted" = some none)
    (z422 : PySem.W.nsIn K mainGlobals "set" = some none)
    (z423 : PySem.W.nsIn K mainGlobals "min" = some none)
    (z424 : PySem.W.nsIn K mainGlobals "abs" = some none)
    (z425 : PySem.W.nsIn K mainGlobals "int" = some none)
    (z426 : PySem.W.nsIn K mainGlobals "range" = some none)
    (z427 : PySem.W.nsIn K mainGlobals "max" = some none)
    : ∃ fd : FuncData, (∀ (s : Shared) (v : Value), BindsTo s fd ⟨[v], []⟩ [("_law_script", v)]) ∧ ∀ base : Heap, K.In base → base.Ns mainGlobals mg → FnOk P w K mg base CX0 54 fa fd ["_law_script"] (spLaw K) := by
  have F40 := fun_mk (st := s_Mode_is_mode) l40 c40 k40
  have b40 := F40.binds (ps := ["thing"]) fun _ _ _ _ _ _ us hl => match us, hl with | [_], _ => rfl
  have F43 := fun_mk (st := s_is_word) l43 c43 k43
  have b43 := F43.binds (ps := ["thing"]) fun _ _ _ _ _ _ us hl => match us, hl with | [_], _ => rfl
  have F149 := fun_mk (st := s_split_line) l149 c149 k149
  have b149 := F149.binds (ps := ["line"]) fun _ _ _ _ _ _ us hl => match us, hl with | [_], _ => rfl
  have F166 := fun_mk (st := s_ReaderU_initU) l166 c166 k166
  have b166 := F166.binds (ps := ["self", "lines"]) fun _ _ _ _ _ _ us hl => match us, hl with | [_, _], _ => rfl
  have F170 := fun_mk (st := s_Reader_words_at) l170 c170 k170
  have b170 := F170.binds (ps := ["self", "nesting"]) fun _ _ _ _ _ _ us hl => match us, hl with | [_, _], _ => rfl
  have F174 := fun_mk (st := s_Reader_wrong_if) l174 c174 k174
  have b174 := F174.binds (ps := ["self", "is_wrong"]) fun _ _ _ _ _ _ us hl => match us, hl with | [_, _], _ => rfl
  have F178 := fun_mk (st := s_Reader_read_all) l178 c178 k178
  have b178 := F178.binds (ps := ["self"]) fun _ _ _ _ _ _ us hl => match us, hl with | [_], _ => rfl
  have F182 := fun_mk (st := s_Reader_read_body) l182 c182 k182
  have b182 := F182.binds (ps := ["self", "nesting"]) fun _ _ _ _ _ _ us hl => match us, hl with | [_, _], _ => rfl
  have F186 := fun_mk (st := s_Reader_read_statement) l186 c186 k186
  have b186 := F186.binds (ps := ["self", "words", "nesting"]) fun _ _ _ _ _ _ us hl => match us, hl with | [_, _, _], _ => rfl
  have F190 := fun_mk (st := s_Reader_read_block) l190 c190 k190
  have b190 := F190.binds (ps := ["self", "words", "nesting"]) fun _ _ _ _ _ _ us hl => match us, hl with | [_, _, _], _ => rfl
  have F194 := fun_mk (st := s_Reader_read_try) l194 c194 k194
  have b194 := F194.binds (ps := ["self", "nesting"]) fun _ _ _ _ _ _ us hl => match us, hl with | [_, _], _ => rfl
  have F275 : FunD K "__init__" "Library.__init__" (defArgs s_LibraryU_initU) (defBody s_LibraryU_initU) (defScope s_LibraryU_initU) [.int 6000] []  f270 (PySem.W.fnOf "__init__" "Library.__init__" (defArgs s_LibraryU_initU) (defBody s_LibraryU_initU) (defScope s_LibraryU_initU) (.ref T276) kV275 dc275 pm275 an275 cd275 ct275) := ⟨⟨_, _, _, _, _, _, _, _, _, _, rfl, l275, c275, .inr ⟨by decide, _, _, _, _, rfl, lT282, rfl, (.cons ⟨_, rfl⟩ .nil)⟩, .inl rfl⟩, k275⟩
  have F285 := fun_mk (st := s_parts_of) l285 c285 k285
  have b285 := F285.binds (ps := ["statement"]) fun _ _ _ _ _ _ us hl => match us, hl with | [_], _ => rfl
  have F288 : FunD K "listed_statements" "listed_statements" (defArgs s_listed_statements) (defBody s_listed_statements) (defScope s_listed_statements) [.bl false] []  f286 (PySem.W.fnOf "listed_statements" "listed_statements" (defArgs s_listed_statements) (defBody s_listed_statements) (defScope s_listed_statements) (.ref T289) kV288 dc288 pm288 an288 cd288 ct288) := ⟨⟨_, _, _, _, _, _, _, _, _, _, rfl, l288, c288, .inr ⟨by decide, _, _, _, _, rfl, lT295, rfl, (.cons rfl .nil)⟩, .inl rfl⟩, k288⟩
  have F298 := fun_mk (st := s_words_of) l298 c298 k298
  have b298 := F298.binds (ps := ["statement"]) fun _ _ _ _ _ _ us hl => match us, hl with | [_], _ => rfl
  have F301 := fun_mk (st := s_comes_back) l301 c301 k301
  have b301 := F301.binds (ps := ["name", "calls"]) fun _ _ _ _ _ _ us hl => match us, hl with | [_, _], _ => rfl
  have F304 := fun_mk (st := s_free_statements) l304 c304 k304
  have b304 := F304.binds (ps := ["body"]) fun _ _ _ _ _ _ us hl => match us, hl with | [_], _ => rfl
  have F307 := fun_mk (st := s_weight_of) l307 c307 k307
  have b307 := F307.binds (ps := ["name", "bodies", "known"]) fun _ _ _ _ _ _ us hl => match us, hl with | [_, _, _], _ => rfl
  have F310 := fun_mk (st := s_body_weight) l310 c310 k310
  have b310 := F310.binds (ps := ["body", "bodies", "known"]) fun _ _ _ _ _ _ us hl => match us, hl with | [_, _, _], _ => rfl
  have F314 := fun_mk (st := s_Library_stay_in_bounds) l314 c314 k314
  have b314 := F314.binds (ps := ["self"]) fun _ _ _ _ _ _ us hl => match us, hl with | [_], _ => rfl
  have F318 := fun_mk (st := s_Library_come_to_an_end) l318 c318 k318
  have b318 := F318.binds (ps := ["self"]) fun _ _ _ _ _ _ us hl => match us, hl with | [_], _ => rfl
  have F322 := fun_mk (st := s_Library_functions) l322 c322 k322
  have b322 := F322.binds (ps := ["self"]) fun _ _ _ _ _ _ us hl => match us, hl with | [_], _ => rfl
  have F326 := fun_mk (st := s_Library_records) l326 c326 k326
  have b326 := F326.binds (ps := ["self"]) fun _ _ _ _ _ _ us hl => match us, hl with | [_], _ => rfl
  have F330 := fun_mk (st := s_Library_errors) l330 c330 k330
  have b330 := F330.binds (ps := ["self"]) fun _ _ _ _ _ _ us hl => match us, hl with | [_], _ => rfl
  have F334 := fun_mk (st := s_Library_unknown) l334 c334 k334
  have b334 := F334.binds (ps := ["self"]) fun _ _ _ _ _ _ us hl => match us, hl with | [_], _ => rfl
  have F338 := fun_mk (st := s_Library_blocks) l338 c338 k338
  have b338 := F338.binds (ps := ["self"]) fun _ _ _ _ _ _ us hl => match us, hl with | [_], _ => rfl
  have F342 := fun_mk (st := s_LibraryU_lenU) l342 c342 k342
  have b342 := F342.binds (ps := ["self"]) fun _ _ _ _ _ _ us hl => match us, hl with | [_], _ => rfl
  have F346 := fun_mk (st := s_LibraryU_containsU) l346 c346 k346
  have b346 := F346.binds (ps := ["self", "name"]) fun _ _ _ _ _ _ us hl => match us, hl with | [_, _], _ => rfl
  have F350 := fun_mk (st := s_LibraryU_getitemU) l350 c350 k350
  have b350 := F350.binds (ps := ["self", "name"]) fun _ _ _ _ _ _ us hl => match us, hl with | [_, _], _ => rfl
  have F354 := fun_mk (st := s_LibraryU_strU) l354 c354 k354
  have b354 := F354.binds (ps := ["self"]) fun _ _ _ _ _ _ us hl => match us, hl with | [_], _ => rfl
  have F358 := fun_mk (st := s_LibraryU_eqU) l358 c358 k358
  have b358 := F358.binds (ps := ["self", "other"]) fun _ _ _ _ _ _ us hl => match us, hl with | [_, _], _ => rfl
  have F376 := fun_mk (st := s_law_pool) l376 c376 k376
  have b376 := F376.binds (ps := ["_law_script", "_law_at"]) fun _ _ _ _ _ _ us hl => match us, hl with | [_, _], _ => rfl
  have F379 := fun_mk (st := s_law_draw) l379 c379 k379
  have b379 := F379.binds (ps := ["_law_pool_here", "_law_many"]) fun _ _ _ _ _ _ us hl => match us, hl with | [_, _], _ => rfl
  have F382 := fun_mk (st := s_law_word) l382 c382 k382
  have b382 := F382.binds (ps := ["_law_pool_here"]) fun _ _ _ _ _ _ us hl => match us, hl with | [_], _ => rfl
  have F385 := fun_mk (st := s_law_different) l385 c385 k385
  have b385 := F385.binds (ps := ["_law_pool_here", "_law_many", "_law_taken"]) fun _ _ _ _ _ _ us hl => match us, hl with | [_, _, _], _ => rfl
  have F388 := fun_mk (st := s_law_pick) l388 c388 k388
  have b388 := F388.binds (ps := ["_law_pool_here", "_law_some"]) fun _ _ _ _ _ _ us hl => match us, hl with | [_, _], _ => rfl
  have F391 := fun_mk (st := s_law_row) l391 c391 k391
  have b391 := F391.binds (ps := ["_law_nesting", "_law_words"]) fun _ _ _ _ _ _ us hl => match us, hl with | [_, _], _ => rfl
  have F394 := fun_mk (st := s_law_body) l394 c394 k394
  have b394 := F394.binds (ps := ["_law_pool_here", "_law_nesting", "_law_words", "_law_room"]) fun _ _ _ _ _ _ us hl => match us, hl with | [_, _, _, _], _ => rfl
  have F397 := fun_mk (st := s_law_statement) l397 c397 k397
  have b397 := F397.binds (ps := ["_law_pool_here", "_law_nesting", "_law_words", "_law_room"]) fun _ _ _ _ _ _ us hl => match us, hl with | [_, _, _, _], _ => rfl
  have F400 := fun_mk (st := s_law_try) l400 c400 k400
  have b400 := F400.binds (ps := ["_law_pool_here", "_law_nesting", "_law_words", "_law_room"]) fun _ _ _ _ _ _ us hl => match us, hl with | [_, _, _, _], _ => rfl
  have F403 := fun_mk (st := s_law_library) l403 c403 k403
  have b403 := F403.binds (ps := ["_law_pool_here", "_law_names", "_law_others", "_law_room"]) fun _ _ _ _ _ _ us hl => match us, hl with | [_, _, _, _], _ => rfl
  have F406 := fun_mk (st := s_law_lines) l406 c406 k406
  have b406 := F406.binds (ps := ["_law_library_here", "_law_name"]) fun _ _ _ _ _ _ us hl => match us, hl with | [_, _], _ => rfl
  have F409 := fun_mk (st := s_law_asked) l409 c409 k409
  have b409 := F409.binds (ps := ["_law_library_here", "_law_lines_here", "_law_thing"]) fun _ _ _ _ _ _ us hl => match us, hl with | [_, _, _], _ => rfl
  have F412 := fun_mk (st := s_law_due) l412 c412 k412
  have b412 := F412.binds (ps := ["_law_rows", "_law_name"]) fun _ _ _ _ _ _ us hl => match us, hl with | [_, _], _ => rfl
  have F413 := fun_mk (st := s_law) l413 c413 k413
  have b413 := F413.binds (ps := ["_law_script"]) fun _ _ _ _ _ _ us hl => match us, hl with | [_], _ => rfl
  have T : Txt K mg ⟨C1, p22, f35, p36, f41, C45, f47, C70, f72, C95, f97, C120, f122, f147, C150, f161, f167, f171, f175, f179, f183, f187, f191, p200, p211, p216, p217, p218, p219, p220, p221, C258, f270, f283, f286, f296, f299, f302, f305, f308, f311, f315, f319, f323, f327, f331, f335, f339, f343, f347, f351, f355, f374, f377, f380, f383, f386, f389, f392, f395, f398, f401, f404, f407, f410, fa⟩ ⟨PySem.W.fnOf "is_mode" "Mode.is_mode" (defArgs s_Mode_is_mode) (defBody s_Mode_is_mode) (defScope s_Mode_is_mode) .none kV40 dc40 pm40 an40 cd40 ct40, PySem.W.fnOf "is_word" "is_word" (defArgs s_is_word) (defBody s_is_word) (defScope s_is_word) .none kV43 dc43 pm43 an43 cd43 ct43, PySem.W.fnOf "split_line" "split_line" (defArgs s_split_line) (defBody s_split_line) (defScope s_split_line) .none kV149 dc149 pm149 an149 cd149 ct149, PySem.W.fnOf "__init__" "Reader.__init__" (defArgs s_ReaderU_initU) (defBody s_ReaderU_initU) (defScope s_ReaderU_initU) .none kV166 dc166 pm166 an166 cd166 ct166, PySem.W.fnOf "words_at" "Reader.words_at" (defArgs s_Reader_words_at) (defBody s_Reader_words_at) (defScope s_Reader_words_at) .none kV170 dc170 pm170 an170 cd170 ct170, PySem.W.fnOf "wrong_if" "Reader.wrong_if" (defArgs s_Reader_wrong_if) (defBody s_Reader_wrong_if) (defScope s_Reader_wrong_if) .none kV174 dc174 pm174 an174 cd174 ct174, PySem.W.fnOf "read_all" "Reader.read_all" (defArgs s_Reader_read_all) (defBody s_Reader_read_all) (defScope s_Reader_read_all) .none kV178 dc178 pm178 an178 cd178 ct178, PySem.W.fnOf "read_body" "Reader.read_body" (defArgs s_Reader_read_body) (defBody s_Reader_read_body) (defScope s_Reader_read_body) .none kV182 dc182 pm182 an182 cd182 ct182, PySem.W.fnOf "read_statement" "Reader.read_statement" (defArgs s_Reader_read_statement) (defBody s_Reader_read_statement) (defScope s_Reader_read_statement) .none kV186 dc186 pm186 an186 cd186 ct186, PySem.W.fnOf "read_block" "Reader.read_block" (defArgs s_Reader_read_block) (defBody s_Reader_read_block) (defScope s_Reader_read_block) .none kV190 dc190 pm190 an190 cd190 ct190, PySem.W.fnOf "read_try" "Reader.read_try" (defArgs s_Reader_read_try) (defBody s_Reader_read_try) (defScope s_Reader_read_try) .none kV194 dc194 pm194 an194 cd194 ct194, PySem.W.fnOf "__init__" "Library.__init__" (defArgs s_LibraryU_initU) (defBody s_LibraryU_initU) (defScope s_LibraryU_initU) (.ref T276) kV275 dc275 pm275 an275 cd275 ct275, PySem.W.fnOf "parts_of" "parts_of" (defArgs s_parts_of) (defBody s_parts_of) (defScope s_parts_of) .none kV285 dc285 pm285 an285 cd285 ct285, PySem.W.fnOf "listed_statements" "listed_statements" (defArgs s_listed_statements) (defBody s_listed_statements) (defScope s_listed_statements) (.ref T289) kV288 dc288 pm288 an288 cd288 ct288, PySem.W.fnOf "words_of" "words_of" (defArgs s_words_of) (defBody s_words_of) (defScope s_words_of) .none kV298 dc298 pm298 an298 cd298 ct298, PySem.W.fnOf "comes_back" "comes_back" (defArgs s_comes_back) (defBody s_comes_back) (defScope s_comes_back) .none kV301 dc301 pm301 an301 cd301 ct301, PySem.W.fnOf "free_statements" "free_statements" (defArgs s_free_statements) (defBody s_free_statements) (defScope s_free_statements) .none kV304 dc304 pm304 an304 cd304 ct304, PySem.W.fnOf "weight_of" "weight_of" (defArgs s_weight_of) (defBody s_weight_of) (defScope s_weight_of) .none kV307 dc307 pm307 an307 cd307 ct307, PySem.W.fnOf "body_weight" "body_weight" (defArgs s_body_weight) (defBody s_body_weight) (defScope s_body_weight) .none kV310 dc310 pm310 an310 cd310 ct310, PySem.W.fnOf "stay_in_bounds" "Library.stay_in_bounds" (defArgs s_Library_stay_in_bounds) (defBody s_Library_stay_in_bounds) (defScope s_Library_stay_in_bounds) .none kV314 dc314 pm314 an314 cd314 ct314, PySem.W.fnOf "come_to_an_end" "Library.come_to_an_end" (defArgs s_Library_come_to_an_end) (defBody s_Library_come_to_an_end) (defScope s_Library_come_to_an_end) .none kV318 dc318 pm318 an318 cd318 ct318, PySem.W.fnOf "functions" "Library.functions" (defArgs s_Library_functions) (defBody s_Library_functions) (defScope s_Library_functions) .none kV322 dc322 pm322 an322 cd322 ct322, PySem.W.fnOf "records" "Library.records" (defArgs s_Library_records) (defBody s_Library_records) (defScope s_Library_records) .none kV326 dc326 pm326 an326 cd326 ct326, PySem.W.fnOf "errors" "Library.errors" (defArgs s_Library_errors) (defBody s_Library_errors) (defScope s_Library_errors) .none kV330 dc330 pm330 an330 cd330 ct330, PySem.W.fnOf "unknown" "Library.unknown" (defArgs s_Library_unknown) (defBody s_Library_unknown) (defScope s_Library_unknown) .none kV334 dc334 pm334 an334 cd334 ct334, PySem.W.fnOf "blocks" "Library.blocks" (defArgs s_Library_blocks) (defBody s_Library_blocks) (defScope s_Library_blocks) .none kV338 dc338 pm338 an338 cd338 ct338, PySem.W.fnOf "__len__" "Library.__len__" (defArgs s_LibraryU_lenU) (defBody s_LibraryU_lenU) (defScope s_LibraryU_lenU) .none kV342 dc342 pm342 an342 cd342 ct342, PySem.W.fnOf "__contains__" "Library.__contains__" (defArgs s_LibraryU_containsU) (defBody s_LibraryU_containsU) (defScope s_LibraryU_containsU) .none kV346 dc346 pm346 an346 cd346 ct346, PySem.W.fnOf "__getitem__" "Library.__getitem__" (defArgs s_LibraryU_getitemU) (defBody s_LibraryU_getitemU) (defScope s_LibraryU_getitemU) .none kV350 dc350 pm350 an350 cd350 ct350, PySem.W.fnOf "__str__" "Library.__str__" (defArgs s_LibraryU_strU) (defBody s_LibraryU_strU) (defScope s_LibraryU_strU) .none kV354 dc354 pm354 an354 cd354 ct354, PySem.W.fnOf "__eq__" "Library.__eq__" (defArgs s_LibraryU_eqU) (defBody s_LibraryU_eqU) (defScope s_LibraryU_eqU) .none kV358 dc358 pm358 an358 cd358 ct358, PySem.W.fnOf "_law_pool" "_law_pool" (defArgs s_law_pool) (defBody s_law_pool) (defScope s_law_pool) .none kV376 dc376 pm376 an376 cd376 ct376, PySem.W.fnOf "_law_draw" "_law_draw" (defArgs s_law_draw) (defBody s_law_draw) (defScope s_law_draw) .none kV379 dc379 pm379 an379 cd379 ct379, PySem.W.fnOf "_law_word" "_law_word" (defArgs s_law_word) (defBody s_law_word) (defScope s_law_word) .none kV382 dc382 pm382 an382 cd382 ct382, PySem.W.fnOf "_law_different" "_law_different" (defArgs s_law_different) (defBody s_law_different) (defScope s_law_different) .none kV385 dc385 pm385 an385 cd385 ct385, PySem.W.fnOf "_law_pick" "_law_pick" (defArgs s_law_pick) (defBody s_law_pick) (defScope s_law_pick) .none kV388 dc388 pm388 an388 cd388 ct388, PySem.W.fnOf "_law_row" "_law_row" (defArgs s_law_row) (defBody s_law_row) (defScope s_law_row) .none kV391 dc391 pm391 an391 cd391 ct391, PySem.W.fnOf "_law_body" "_law_body" (defArgs s_law_body) (defBody s_law_body) (defScope s_law_body) .none kV394 dc394 pm394 an394 cd394 ct394, PySem.W.fnOf "_law_statement" "_law_statement" (defArgs s_law_statement) (defBody s_law_statement) (defScope s_law_statement) .none kV397 dc397 pm397 an397 cd397 ct397, PySem.W.fnOf "_law_try" "_law_try" (defArgs s_law_try) (defBody s_law_try) (defScope s_law_try) .none kV400 dc400 pm400 an400 cd400 ct400, PySem.W.fnOf "_law_library" "_law_library" (defArgs s_law_library) (defBody s_law_library) (defScope s_law_library) .none kV403 dc403 pm403 an403 cd403 ct403, PySem.W.fnOf "_law_lines" "_law_lines" (defArgs s_law_lines) (defBody s_law_lines) (defScope s_law_lines) .none kV406 dc406 pm406 an406 cd406 ct406, PySem.W.fnOf "_law_asked" "_law_asked" (defArgs s_law_asked) (defBody s_law_asked) (defScope s_law_asked) .none kV409 dc409 pm409 an409 cd409 ct409, PySem.W.fnOf "_law_due" "_law_due" (defArgs s_law_due) (defBody s_law_due) (defScope s_law_due) .none kV412 dc412 pm412 an412 cd412 ct412, PySem.W.fnOf "law" "law" (defArgs s_law) (defBody s_law) (defScope s_law) .none kV413 dc413 pm413 an413 cd413 ct413⟩ := ⟨PySem.W.mg_of X G a2, ⟨r3, s4⟩, ⟨_, z5, ⟨_, rfl⟩⟩, ⟨_, z7, ⟨_, rfl⟩⟩, ⟨_, z9, ⟨_, rfl⟩⟩, ⟨_, z11, ⟨_, rfl⟩⟩, ⟨_, z13, ⟨_, rfl⟩⟩, ⟨_, z15, ⟨_, rfl⟩⟩, ⟨_, z17, ⟨_, rfl⟩⟩, ⟨_, z19, ⟨_, rfl⟩⟩, ⟨_, z21, rfl⟩, fun H => .inr ⟨_, _, _, l23, rfl, rfl, sz_le rfl, (.cons ⟨_, rfl⟩ (.cons ⟨_, rfl⟩ (.cons ⟨_, rfl⟩ (.cons ⟨_, rfl⟩ (.cons ⟨_, rfl⟩ (.cons ⟨_, rfl⟩ (.cons ⟨_, rfl⟩ (.cons ⟨_, rfl⟩ .nil))))))))⟩, ⟨_, l23, rfl⟩, F40, b40, ⟨z37, _, r38⟩, F43, b43, PySem.W.mg_of X G a42, PySem.W.mg_of X G a46, ec_TooMany e49 e50 e51 e52 e53 e54 e55 e56 e57 e58 e59 e60 e61 e62 e63 z44 e64 e65 e66 e67 e68 e69, PySem.W.mg_of X G a71, ec_BadLibrary e74 e75 e76 e77 e78 e79 e80 e81 e82 e83 e84 e85 e86 e87 e88 z44 e89 e90 e91 e92 e93 e94, PySem.W.mg_of X G a96, ec_Endless e99 e100 e101 e102 e103 e104 e105 e106 e107 e108 e109 e110 e111 e112 e113 z44 e114 e115 e116 e117 e118 e119, PySem.W.mg_of X G a121, ec_NoFunction e124 e125 e126 e127 e128 e129 e130 e131 e132 e133 e134 e135 e136 e137 e138 z44 e139 e140 e141 e142 e143 e144, ⟨_, PySem.W.mg_of X G z145, ⟨_, rfl⟩⟩, F149, b149, PySem.W.mg_of X G a148, PySem.W.mg_of X G a151, ⟨q152, q153, q154, q155⟩, z156, z157, z158, z159, z160, F166, b166, ⟨q162, q163, q164, q165⟩, F170, b170, ⟨q168, q169, k170⟩, F174, b174, ⟨q172, q173, k174⟩, F178, b178, ⟨q176, q177, k178⟩, F182, b182, ⟨q180, q181, k182⟩, F186, b186, ⟨q184, q185, k186⟩, F190, b190, ⟨q188, q189, k190⟩, F194, b194, ⟨q192, q193, k194⟩, ⟨_, PySem.W.mg_of X G z195, ⟨_, rfl⟩⟩, ⟨_, PySem.W.mg_of X G z197, ⟨_, rfl⟩⟩, PySem.W.mg_of X G a199, fun H => .inr ⟨_, _, _, l201, rfl, rfl, sz_le rfl, (.cons ⟨_, rfl⟩ (.cons ⟨_, rfl⟩ (.cons ⟨_, rfl⟩ (.cons ⟨_, rfl⟩ (.cons ⟨_, rfl⟩ .nil)))))⟩, PySem.W.mg_of X G a210, fun H => .inr ⟨_, _, _, l222, rfl, rfl, sz_le rfl, (.cons ⟨_, rfl⟩ (.cons ⟨_, rfl⟩ .nil))⟩, fun H => .inr ⟨_, _, _, l228, rfl, rfl, sz_le rfl, (.cons ⟨_, rfl⟩ (.cons ⟨_, rfl⟩ .nil))⟩, fun H => .inr ⟨_, _, _, l234, rfl, rfl, sz_le rfl, (.cons ⟨_, rfl⟩ (.cons ⟨_, rfl⟩ .nil))⟩, fun H => .inr ⟨_, _, _, l240, rfl, rfl, sz_le rfl, (.cons ⟨_, rfl⟩ (.cons ⟨_, rfl⟩ .nil))⟩, fun H => .inr ⟨_, _, _, l246, rfl, rfl, sz_le rfl, (.cons ⟨_, rfl⟩ (.cons ⟨_, rfl⟩ .nil))⟩, fun H => .inr ⟨_, _, _, l252, rfl, rfl, sz_le rfl, (.cons ⟨_, rfl⟩ (.cons ⟨_, rfl⟩ .nil))⟩, fun H => .inr ⟨_, _, _, l212, rfl, rfl, sz_le rfl, (.cons rfl (.cons rfl (.cons rfl (.cons rfl (.cons rfl (.cons rfl .nil))))))⟩, PySem.W.mg_of X G a259, ⟨q260, q261, q262, q263⟩, z264, z265, z266, z267, z268, z269, F275, ⟨q271, q272, q273, q274⟩, F285, b285, PySem.W.mg_of X G a284, F288, PySem.W.mg_of X G a287, F298, b298, PySem.W.mg_of X G a297, F301, b301, PySem.W.mg_of X G a300, F304, b304, PySem.W.mg_of X G a303, F307, b307, PySem.W.mg_of X G a306, F310, b310, PySem.W.mg_of X G a309, F314, b314, ⟨q312, q313, k314⟩, F318, b318, ⟨q316, q317, k318⟩, F322, b322, ⟨q320, q321, k322⟩, F326, b326, ⟨q324, q325, k326⟩, F330, b330, ⟨q328, q329, k330⟩, F334, b334, ⟨q332, q333, k334⟩, F338, b338, ⟨q336, q337, k338⟩, F342, b342, ⟨q340, q341, k342⟩, F346, b346, ⟨q344, q345, k346⟩, F350, b350, ⟨q348, q349, k350⟩, F354, b354, ⟨q352, q353, k354⟩, F358, b358, ⟨q356, q357, k358⟩, z359, ⟨q360, q361, q362, q363, q364, q365, q366, q367, q368, q369, q370, q371⟩, q372, q373, F376, b376, PySem.W.mg_of X G a375, F379, b379, PySem.W.mg_of X G a378, F382, b382, PySem.W.mg_of X G a381, F385, b385, PySem.W.mg_of X G a384, F388, b388, PySem.W.mg_of X G a387, F391, b391, PySem.W.mg_of X G a390, F394, b394, PySem.W.mg_of X G a393, F397, b397, PySem.W.mg_of X G a396, F400, b400, PySem.W.mg_of X G a399, F403, b403, PySem.W.mg_of X G a402, F406, b406, PySem.W.mg_of X G a405, F409, b409, PySem.W.mg_of X G a408, F412, b412, PySem.W.mg_of X G a411, F413, b413, hfa, PySem.W.mg_none_of X G z414, PySem.W.mg_none_of X G z415, PySem.W.mg_none_of X G z416, PySem.W.mg_none_of X G z417, PySem.W.mg_none_of X G z418, PySem.W.mg_none_of X G z419, PySem.W.mg_none_of X G z420, PySem.W.mg_none_of X G z421, PySem.W.mg_none_of X G z422, PySem.W.mg_none_of X G z423, PySem.W.mg_none_of X G z424, PySem.W.mg_none_of X G z425, PySem.W.mg_none_of X G z426, PySem.W.mg_none_of X G z427⟩
  exact ⟨_, fun s v => .of_eq rfl, fun base _ _ => ok_law T⟩
theorem all_mk' {w : World} {K : PySem.W.Frag} {h : Heap} {mg : Str → Option Value} {fa f0 : Addr} (X : K.In h) (G : h.Ns mainGlobals mg) (hfa0 : mg "law" = some (.ref fa))
    {C1 : Addr}
    {t6 : Tok}
    {t8 : Tok}
    {t10 : Tok}
    {t12 : Tok}
    {t14 : Tok}
    {t16 : Tok}
    {t18 : Tok}
    {t20 : Tok}
    {t24 t25 t26 t27 t28 t29 t30 t31 : Tok} {p22 : Addr} {dd32 : Option Addr} {nn33 : Nat} {sl34 : Array (Option Value)}
    {f35 p36 : Addr} {rs39 : List Value}
    {od40 an40 : Option Addr} {sl40 : Array (Option Value)} {oc40 kV40 dc40 pm40 cd40 ct40 : Value}
    {f41 : Addr}
    {od43 an43 : Option Addr} {sl43 : Array (Option Value)} {oc43 kV43 dc43 pm43 cd43 ct43 : Value}
    {C45 : Addr}
    {f47 : Addr} {nm48 qn48 : Str} {N48 : Addr} {bs48 bm48 : List Value} {sn48 : List Str} {sub48 : List Value} {ab48 : Bool} {col48 : Option Bool} {dd48 : Option Addr} {k048 k148 k248 k348 k548 : Option Value}
    {oc48 : Value} {od48 : Option Addr} {doc48 pm48 : Value} {an48 : Option Addr} {cda48 cc48 : Addr} {ct48 : Value} {osl48 : Array (Option Value)} {ccl48 : Value} {cdd48 : Option Addr} {vs48 : Array Value} {ccs48 : Array (Option Value)} {tf48 : Tok} {cl48 : Value} {cld48 : Option Addr} {csl48 : Array (Option Value)}
    {C70 : Addr}
    {f72 : Addr} {nm73 qn73 : Str} {N73 : Addr} {bs73 bm73 : List Value} {sn73 : List Str} {sub73 : List Value} {ab73 : Bool} {col73 : Option Bool} {dd73 : Option Addr} {k073 k173 k273 k373 k573 : Option Value}
    {oc73 : Value} {od73 : Option Addr} {doc73 pm73 : Value} {an73 : Option Addr} {cda73 cc73 : Addr} {ct73 : Value} {osl73 : Array (Option Value)} {ccl73 : Value} {cdd73 : Option Addr} {vs73 : Array Value} {ccs73 : Array (Option Value)} {tf73 : Tok} {cl73 : Value} {cld73 : Option Addr} {csl73 : Array (Option Value)}
    {C95 : Addr}
    {f97 : Addr} {nm98 qn98 : Str} {N98 : Addr} {bs98 bm98 : List Value} {sn98 : List Str} {sub98 : List Value} {ab98 : Bool} {col98 : Option Bool} {dd98 : Option Addr} {k098 k198 k298 k398 k598 : Option Value}
    {oc98 : Value} {od98 : Option Addr} {doc98 pm98 : Value} {an98 : Option Addr} {cda98 cc98 : Addr} {ct98 : Value} {osl98 : Array (Option Value)} {ccl98 : Value} {cdd98 : Option Addr} {vs98 : Array Value} {ccs98 : Array (Option Value)} {tf98 : Tok} {cl98 : Value} {cld98 : Option Addr} {csl98 : Array (Option Value)}
    {C120 : Addr}
    {f122 : Addr} {nm123 qn123 : Str} {N123 : Addr} {bs123 bm123 : List Value} {sn123 : List Str} {sub123 : List Value} {ab123 : Bool} {col123 : Option Bool} {dd123 : Option Addr} {k0123 k1123 k2123 k3123 k5123 : Option Value}
    {oc123 : Value} {od123 : Option Addr} {doc123 pm123 : Value} {an123 : Option Addr} {cda123 cc123 : Addr} {ct123 : Value} {osl123 : Array (Option Value)} {ccl123 : Value} {cdd123 : Option Addr} {vs123 : Array Value} {ccs123 : Array (Option Value)} {tf123 : Tok} {cl123 : Value} {cld123 : Option Addr} {csl123 : Array (Option Value)}
    {t146 : Tok}
    {f147 : Addr}
    {od149 an149 : Option Addr} {sl149 : Array (Option Value)} {oc149 kV149 dc149 pm149 cd149 ct149 : Value}
    {C150 : Addr}
    {f161 : Addr}
    {od166 an166 : Option Addr} {sl166 : Array (Option Value)} {oc166 kV166 dc166 pm166 cd166 ct166 : Value}
    {f167 : Addr}
    {od170 an170 : Option Addr} {sl170 : Array (Option Value)} {oc170 kV170 dc170 pm170 cd170 ct170 : Value}
    {f171 : Addr}
    {od174 an174 : Option Addr} {sl174 : Array (Option Value)} {oc174 kV174 dc174 pm174 cd174 ct174 : Value}
    {f175 : Addr}
    {od178 an178 : Option Addr} {sl178 : Array (Option Value)} {oc178 kV178 dc178 pm178 cd178 ct178 : Value}
    {f179 : Addr}
    {od182 an182 : Option Addr} {sl182 : Array (Option Value)} {oc182 kV182 dc182 pm182 cd182 ct182 : Value}
    {f183 : Addr}
    {od186 an186 : Option Addr} {sl186 : Array (Option Value)} {oc186 kV186 dc186 pm186 cd186 ct186 : Value}
    {f187 : Addr}
    {od190 an190 : Option Addr} {sl190 : Array (Option Value)} {oc190 kV190 dc190 pm190 cd190 ct190 : Value}
    {f191 : Addr}
    {od194 an194 : Option Addr} {sl194 : Array (Option Value)} {oc194 kV194 dc194 pm194 cd194 ct194 : Value}
    {t196 : Tok}
    {t198 : Tok}
    {p200 : Addr}
    {dd202 : Option Addr} {nn203 : Nat} {sl204 : Array (Option Value)}
    {t205 : Tok}
    {t206 : Tok}
    {t207 : Tok}
    {t208 : Tok}
    {t209 : Tok}
    {p211 : Addr}
    {dd213 : Option Addr} {nn214 : Nat} {sl215 : Array (Option Value)}
    {p216 : Addr}
    {p217 : Addr}
    {p218 : Addr}
    {p219 : Addr}
    {p220 : Addr}
    {p221 : Addr}
    {dd223 : Option Addr} {nn224 : Nat} {sl225 : Array (Option Value)}
    {t226 : Tok}
    {t227 : Tok}
    {dd229 : Option Addr} {nn230 : Nat} {sl231 : Array (Option Value)}
    {t232 : Tok}
    {t233 : Tok}
    {dd235 : Option Addr} {nn236 : Nat} {sl237 : Array (Option Value)}
    {t238 : Tok}
    {t239 : Tok}
    {dd241 : Option Addr} {nn242 : Nat} {sl243 : Array (Option Value)}
    {t244 : Tok}
    {t245 : Tok}
    {dd247 : Option Addr} {nn248 : Nat} {sl249 : Array (Option Value)}
    {t250 : Tok}
    {t251 : Tok}
    {dd253 : Option Addr} {nn254 : Nat} {sl255 : Array (Option Value)}
    {t256 : Tok}
    {t257 : Tok}
    {C258 : Addr}
    {f270 : Addr}
    {od275 an275 : Option Addr} {sl275 : Array (Option Value)} {oc275 dc275 pm275 cd275 ct275 : Value}
    {T276 : Addr} {oc277 : Value} {od278 : Option Addr} {on279 : Nat} {os280 : Array (Option Value)}
    {t281 : Tok}
    {kV275 : Value}
    {f283 : Addr}
    {od285 an285 : Option Addr} {sl285 : Array (Option Value)} {oc285 kV285 dc285 pm285 cd285 ct285 : Value}
    {f286 : Addr}
    {od288 an288 : Option Addr} {sl288 : Array (Option Value)} {oc288 dc288 pm288 cd288 ct288 : Value}
    {T289 : Addr} {oc290 : Value} {od291 : Option Addr} {on292 : Nat} {os293 : Array (Option Value)}
    {kV288 : Value}
    {f296 : Addr}
    {od298 an298 : Option Addr} {sl298 : Array (Option Value)} {oc298 kV298 dc298 pm298 cd298 ct298 : Value}
    {f299 : Addr}
    {od301 an301 : Option Addr} {sl301 : Array (Option Value)} {oc301 kV301 dc301 pm301 cd301 ct301 : Value}
    {f302 : Addr}
    {od304 an304 : Option Addr} {sl304 : Array (Option Value)} {oc304 kV304 dc304 pm304 cd304 ct304 : Value}
    {f305 : Addr}
    {od307 an307 : Option Addr} {sl307 : Array (Option Value)} {oc307 kV307 dc307 pm307 cd307 ct307 : Value}
    {f308 : Addr}
    {od310 an310 : Option Addr} {sl310 : Array (Option Value)} {oc310 kV310 dc310 pm310 cd310 ct310 : Value}
    {f311 : Addr}
    {od314 an314 : Option Addr} {sl314 : Array (Option Value)} {oc314 kV314 dc314 pm314 cd314 ct314 : Value}
    {f315 : Addr}
    {od318 an318 : Option Addr} {sl318 : Array (Option Value)} {oc318 kV318 dc318 pm318 cd318 ct318 : Value}
    {f319 : Addr}
    {od322 an322 : Option Addr} {sl322 : Array (Option Value)} {oc322 kV322 dc322 pm322 cd322 ct322 : Value}
    {f323 : Addr}
    {od326 an326 : Option Addr} {sl326 : Array (Option Value)} {oc326 kV326 dc326 pm326 cd326 ct326 : Value}
    {f327 : Addr}
    {od330 an330 : Option Addr} {sl330 : Array (Option Value)} {oc330 kV330 dc330 pm330 cd330 ct330 : Value}
    {f331 : Addr}
    {od334 an334 : Option Addr} {sl334 : Array (Option Value)} {oc334 kV334 dc334 pm334 cd334 ct334 : Value}
    {f335 : Addr}
    {od338 an338 : Option Addr} {sl338 : Array (Option Value)} {oc338 kV338 dc338 pm338 cd338 ct338 : Value}
    {f339 : Addr}
    {od342 an342 : Option Addr} {sl342 : Array (Option Value)} {oc342 kV342 dc342 pm342 cd342 ct342 : Value}
    {f343 : Addr}
    {od346 an346 : Option Addr} {sl346 : Array (Option Value)} {oc346 kV346 dc346 pm346 cd346 ct346 : Value}
    {f347 : Addr}
    {od350 an350 : Option Addr} {sl350 : Array (Option Value)} {oc350 kV350 dc350 pm350 cd350 ct350 : Value}
    {f351 : Addr}
    {od354 an354 : Option Addr} {sl354 : Array (Option Value)} {oc354 kV354 dc354 pm354 cd354 ct354 : Value}
    {f355 : Addr}
    {od358 an358 : Option Addr} {sl358 : Array (Option Value)} {oc358 kV358 dc358 pm358 cd358 ct358 : Value}
    {f374 : Addr}
    {od376 an376 : Option Addr} {sl376 : Array (Option Value)} {oc376 kV376 dc376 pm376 cd376 ct376 : Value}
    {f377 : Addr}
    {od379 an379 : Option Addr} {sl379 : Array (Option Value)} {oc379 kV379 dc379 pm379 cd379 ct379 : Value}
    {f380 : Addr}
    {od382 an382 : Option Addr} {sl382 : Array (Option Value)} {oc382 kV382 dc382 pm382 cd382 ct382 : Value}
    {f383 : Addr}
    {od385 an385 : Option Addr} {sl385 : Array (Option Value)} {oc385 kV385 dc385 pm385 cd385 ct385 : Value}
    {f386 : Addr}
    {od388 an388 : Option Addr} {sl388 : Array (Option Value)} {oc388 kV388 dc388 pm388 cd388 ct388 : Value}
    {f389 : Addr}
    {od391 an391 : Option Addr} {sl391 : Array (Option Value)} {oc391 kV391 dc391 pm391 cd391 ct391 : Value}
    {f392 : Addr}
    {od394 an394 : Option Addr} {sl394 : Array (Option Value)} {oc394 kV394 dc394 pm394 cd394 ct394 : Value}
    {f395 : Addr}
    {od397 an397 : Option Addr} {sl397 : Array (Option Value)} {oc397 kV397 dc397 pm397 cd397 ct397 : Value}
    {f398 : Addr}
    {od400 an400 : Option Addr} {sl400 : Array (Option Value)} {oc400 kV400 dc400 pm400 cd400 ct400 : Value}
    {f401 : Addr}
    {od403 an403 : Option Addr} {sl403 : Array (Option Value)} {oc403 kV403 dc403 pm403 cd403 ct403 : Value}
    {f404 : Addr}
    {od406 an406 : Option Addr} {sl406 : Array (Option Value)} {oc406 kV406 dc406 pm406 cd406 ct406 : Value}
    {f407 : Addr}
    {od409 an409 : Option Addr} {sl409 : Array (Option Value)} {oc409 kV409 dc409 pm409 cd409 ct409 : Value}
    {f410 : Addr}
    {od412 an412 : Option Addr} {sl412 : Array (Option Value)} {oc412 kV412 dc412 pm412 cd412 ct412 : Value}
    {od413 an413 : Option Addr} {sl413 : Array (Option Value)} {oc413 kV413 dc413 pm413 cd413 ct413 : Value}
    (a0 : PySem.W.nsIn K mainGlobals "law" = some (some (.ref f0)))
    (a2 : PySem.W.nsIn K mainGlobals "Mode" = some (some (.ref C1)))
    (r3 : PySem.W.readsIn K C1 (.type "type") = true)
    (s4 : PySem.W.specialIn K (.ref C1) "__getattribute__" = some (some (.builtin "type.__getattribute__")))
    (z5 : PySem.W.findCls K (.ref C1) (.type "type") "JOIN" = some (.val (.str "join" t6)))
    (z7 : PySem.W.findCls K (.ref C1) (.type "type") "INNER" = some (.val (.str "inner" t8)))
    (z9 : PySem.W.findCls K (.ref C1) (.type "type") "APART" = some (.val (.str "apart" t10)))
    (z11 : PySem.W.findCls K (.ref C1) (.type "type") "MUST" = some (.val (.str "must" t12)))
    (z13 : PySem.W.findCls K (.ref C1) (.type "type") "EITHER" = some (.val (.str "either" t14)))
    (z15 : PySem.W.findCls K (.ref C1) (.type "type") "NEVER" = some (.val (.str "never" t16)))
    (z17 : PySem.W.findCls K (.ref C1) (.type "type") "OUTSIDE" = some (.val (.str "outside" t18)))
    (z19 : PySem.W.findCls K (.ref C1) (.type "type") "ALONE" = some (.val (.str "alone" t20)))
    (z21 : PySem.W.findCls K (.ref C1) (.type "type") "ALL" = some (.val (.ref p22)))
    (l23 : K.lookup p22 = some ⟨.type "tuple", dd32, .seq #[.str "join" t24, .str "inner" t25, .str "apart" t26, .str "must" t27, .str "either" t28, .str "never" t29, .str "outside" t30, .str "alone" t31] nn33, sl34⟩)
    (z37 : PySem.W.findCls K (.ref C1) (.type "type") "is_mode" = some (.get (.builtin "staticmethod.__get__") (.ref p36) .none (.ref C1)))
    (r38 : PySem.W.recIn K p36 "staticmethod" = some (.ref f35 :: rs39))
    (l40 : K.lookup f35 = some ⟨oc40, od40, .func (PySem.W.fnOf "is_mode" "Mode.is_mode" (defArgs s_Mode_is_mode) (defBody s_Mode_is_mode) (defScope s_Mode_is_mode) .none kV40 dc40 pm40 an40 cd40 ct40), sl40⟩)
    (c40 : PySem.W.codeIn K cd40 "Mode.is_mode" = true)
    (k40 : PySem.W.keepIn K (.ref f35) = true)
    (a42 : PySem.W.nsIn K mainGlobals "is_word" = some (some (.ref f41)))
    (l43 : K.lookup f41 = some ⟨oc43, od43, .func (PySem.W.fnOf "is_word" "is_word" (defArgs s_is_word) (defBody s_is_word) (defScope s_is_word) .none kV43 dc43 pm43 an43 cd43 ct43), sl43⟩)
    (c43 : PySem.W.codeIn K cd43 "is_word" = true)
    (k43 : PySem.W.keepIn K (.ref f41) = true)
    (z44 : PySem.W.nsIn K cStatics "thirdparty.any" = some none)
    (a46 : PySem.W.nsIn K mainGlobals "TooMany" = some (some (.ref C45)))
    (e49 : K.lookup C45 = some (excClassObj nm48 qn48 C45 N48 bs48 bm48 true sn48 sub48 ab48 col48 dd48 k048 k148 k248 k348 k548 "ValueError.__new__"))
    (e50 : PySem.HandSPX.refsVE bm48 = true)
    (e51 : PySem.W.findIn K (.ref C45) "__setattr__" = some (some (.builtin "object.__setattr__")))
    (e52 : PySem.W.findIn K (.ref C45) "__getattribute__" = some (some (.builtin "BaseException.__getattribute__")))
    (e53 : PySem.W.findIn K (.ref C45) "__getattr__" = some none)
    (e54 : PySem.W.findIn K (.ref C45) "__init__" = some (some (.ref f47)))
    (e55 : PySem.W.typeIn K (.ref f47) = some (.type "function"))
    (e56 : PySem.W.keepIn K (.ref C45) = true)
    (e57 : PySem.W.subIn K (.ref C45) (.type "BaseException") = some true)
    (e58 : PySem.W.subIn K (.ref C45) (.type "ValueError") = some true)
    (e59 : PySem.W.typeIn K (.ref C45) = some (.type "type"))
    (e60 : PySem.W.hasDictIn K C45 = true)
    (e61 : PySem.W.ks_superIn K C45 C45 "__init__" = some (some (.builtin "ValueError.__init__")))
    (e62 : PySem.W.mroIn K C45 (.ref C45) = some true)
    (e63 : PySem.W.exmOne K (.ref C45) (.ref C45) = some true)
    (e64 : K.lookup f47 = some ⟨oc48, od48, .func (PySem.W.ksFn "__init__" "TooMany.__init__" (defArgs s_TooManyU_initU) (defBody s_TooManyU_initU) (defScope s_TooManyU_initU) .none .none doc48 pm48 an48 (.ref cda48) ct48 cc48), osl48⟩)
    (e65 : PySem.W.codeIn K (.ref cda48) "TooMany.__init__" = true)
    (e66 : K.lookup cda48 = some ⟨ccl48, cdd48, .fields vs48, ccs48⟩)
    (e67 : vs48[2]? = some (.str P.main.file tf48))
    (e68 : K.lookup cc48 = some ⟨cl48, cld48, .cell (some (.ref C45)), csl48⟩)
    (e69 : PySem.W.findIn K (.ref C45) "what" = some none)
    (a71 : PySem.W.nsIn K mainGlobals "BadLibrary" = some (some (.ref C70)))
    (e74 : K.lookup C70 = some (excClassObj nm73 qn73 C70 N73 bs73 bm73 true sn73 sub73 ab73 col73 dd73 k073 k173 k273 k373 k573 "ValueError.__new__"))
    (e75 : PySem.HandSPX.refsVE bm73 = true)
    (e76 : PySem.W.findIn K (.ref C70) "__setattr__" = some (some (.builtin "object.__setattr__")))
    (e77 : PySem.W.findIn K (.ref C70) "__getattribute__" = some (some (.builtin "BaseException.__getattribute__")))
    (e78 : PySem.W.findIn K (.ref C70) "__getattr__" = some none)
    (e79 : PySem.W.findIn K (.ref C70) "__init__" = some (some (.ref f72)))
    (e80 : PySem.W.typeIn K (.ref f72) = some (.type "function"))
    (e81 : PySem.W.keepIn K (.ref C70) = true)
    (e82 : PySem.W.subIn K (.ref C70) (.type "BaseException") = some true)
    (e83 : PySem.W.subIn K (.ref C70) (.type "ValueError") = some true)
    (e84 : PySem.W.typeIn K (.ref C70) = some (.type "type"))
    (e85 : PySem.W.hasDictIn K C70 = true)
    (e86 : PySem.W.ks_superIn K C70 C70 "__init__" = some (some (.builtin "ValueError.__init__")))
    (e87 : PySem.W.mroIn K C70 (.ref C70) = some true)
    (e88 : PySem.W.exmOne K (.ref C70) (.ref C70) = some true)
    (e89 : K.lookup f72 = some ⟨oc73, od73, .func (PySem.W.ksFn "__init__" "BadLibrary.__init__" (defArgs s_BadLibraryU_initU) (defBody s_BadLibraryU_initU) (defScope s_BadLibraryU_initU) .none .none doc73 pm73 an73 (.ref cda73) ct73 cc73), osl73⟩)
    (e90 : PySem.W.codeIn K (.ref cda73) "BadLibrary.__init__" = true)
    (e91 : K.lookup cda73 = some ⟨ccl73, cdd73, .fields vs73, ccs73⟩)
    (e92 : vs73[2]? = some (.str P.main.file tf73))
    (e93 : K.lookup cc73 = some ⟨cl73, cld73, .cell (some (.ref C70)), csl73⟩)
    (e94 : PySem.W.findIn K (.ref C70) "line" = some none)
    (a96 : PySem.W.nsIn K mainGlobals "Endless" = some (some (.ref C95)))
    (e99 : K.lookup C95 = some (excClassObj nm98 qn98 C95 N98 bs98 bm98 true sn98 sub98 ab98 col98 dd98 k098 k198 k298 k398 k598 "ValueError.__new__"))
    (e100 : PySem.HandSPX.refsVE bm98 = true)
    (e101 : PySem.W.findIn K (.ref C95) "__setattr__" = some (some (.builtin "object.__setattr__")))
    (e102 : PySem.W.findIn K (.ref C95) "__getattribute__" = some (some (.builtin "BaseException.__getattribute__")))
    (e103 : PySem.W.findIn K (.ref C95) "__getattr__" = some none)
    (e104 : PySem.W.findIn K (.ref C95) "__init__" = some (some (.ref f97)))
    (e105 : PySem.W.typeIn K (.ref f97) = some (.type "function"))
    (e106 : PySem.W.keepIn K (.ref C95) = true)
    (e107 : PySem.W.subIn K (.ref C95) (.type "BaseException") = some true)
    (e108 : PySem.W.subIn K (.ref C95) (.type "ValueError") = some true)
    (e109 : PySem.W.typeIn K (.ref C95) = some (.type "type"))
    (e110 : PySem.W.hasDictIn K C95 = true)
    (e111 : PySem.W.ks_superIn K C95 C95 "__init__" = some (some (.builtin "ValueError.__init__")))
    (e112 : PySem.W.mroIn K C95 (.ref C95) = some true)
    (e113 : PySem.W.exmOne K (.ref C95) (.ref C95) = some true)
    (e114 : K.lookup f97 = some ⟨oc98, od98, .func (PySem.W.ksFn "__init__" "Endless.__init__" (defArgs s_EndlessU_initU) (defBody s_EndlessU_initU) (defScope s_EndlessU_initU) .none .none doc98 pm98 an98 (.ref cda98) ct98 cc98), osl98⟩)
    (e115 : PySem.W.codeIn K (.ref cda98) "Endless.__init__" = true)
    (e116 : K.lookup cda98 = some ⟨ccl98, cdd98, .fields vs98, ccs98⟩)
    (e117 : vs98[2]? = some (.str P.main.file tf98))
    (e118 : K.lookup cc98 = some ⟨cl98, cld98, .cell (some (.ref C95)), csl98⟩)
    (e119 : PySem.W.findIn K (.ref C95) "name" = some none)
    (a121 : PySem.W.nsIn K mainGlobals "NoFunction" = some (some (.ref C120)))
    (e124 : K.lookup C120 = some (excClassObj nm123 qn123 C120 N123 bs123 bm123 true sn123 sub123 ab123 col123 dd123 k0123 k1123 k2123 k3123 k5123 "ValueError.__new__"))
    (e125 : PySem.HandSPX.refsVE bm123 = true)
    (e126 : PySem.W.findIn K (.ref C120) "__setattr__" = some (some (.builtin "object.__setattr__")))
    (e127 : PySem.W.findIn K (.ref C120) "__getattribute__" = some (some (.builtin "BaseException.__getattribute__")))
    (e128 : PySem.W.findIn K (.ref C120) "__getattr__" = some none)
    (e129 : PySem.W.findIn K (.ref C120) "__init__" = some (some (.ref f122)))
    (e130 : PySem.W.typeIn K (.ref f122) = some (.type "function"))
    (e131 : PySem.W.keepIn K (.ref C120) = true)
    (e132 : PySem.W.subIn K (.ref C120) (.type "BaseException") = some true)
    (e133 : PySem.W.subIn K (.ref C120) (.type "ValueError") = some true)
    (e134 : PySem.W.typeIn K (.ref C120) = some (.type "type"))
    (e135 : PySem.W.hasDictIn K C120 = true)
    (e136 : PySem.W.ks_superIn K C120 C120 "__init__" = some (some (.builtin "ValueError.__init__")))
    (e137 : PySem.W.mroIn K C120 (.ref C120) = some true)
    (e138 : PySem.W.exmOne K (.ref C120) (.ref C120) = some true)
    (e139 : K.lookup f122 = some ⟨oc123, od123, .func (PySem.W.ksFn "__init__" "NoFunction.__init__" (defArgs s_NoFunctionU_initU) (defBody s_NoFunctionU_initU) (defScope s_NoFunctionU_initU) .none .none doc123 pm123 an123 (.ref cda123) ct123 cc123), osl123⟩)
    (e140 : PySem.W.codeIn K (.ref cda123) "NoFunction.__init__" = true)
    (e141 : K.lookup cda123 = some ⟨ccl123, cdd123, .fields vs123, ccs123⟩)
    (e142 : vs123[2]? = some (.str P.main.file tf123))
    (e143 : K.lookup cc123 = some ⟨cl123, cld123, .cell (some (.ref C120)), csl123⟩)
    (e144 : PySem.W.findIn K (.ref C120) "name" = some none)
    (z145 : PySem.W.nsIn K mainGlobals "DEEPEST" = some (some (.int 8 t146)))
    (a148 : PySem.W.nsIn K mainGlobals "split_line" = some (some (.ref f147)))
    (l149 : K.lookup f147 = some ⟨oc149, od149, .func (PySem.W.fnOf "split_line" "split_line" (defArgs s_split_line) (defBody s_split_line) (defScope s_split_line) .none kV149 dc149 pm149 an149 cd149 ct149), sl149⟩)
    (c149 : PySem.W.codeIn K cd149 "split_line" = true)
    (k149 : PySem.W.keepIn K (.ref f147) = true)
    (a151 : PySem.W.nsIn K mainGlobals "Reader" = some (some (.ref C150)))
    (q152 : PySem.W.plainGet K C150 Str.empty = true)
    (q153 : PySem.W.hasDictIn K C150 = true)
    (q154 : PySem.W.plainOver K C150 = true)
    (q155 : PySem.W.findIn K (.ref C150) "__setattr__" = some (some (.builtin "object.__setattr__")))
    (z156 : PySem.W.findIn K (.ref C150) "rows" = some none)
    (z157 : PySem.W.findIn K (.ref C150) "at" = some none)
    (z158 : PySem.W.findIn K (.ref C150) "starts" = some none)
    (z159 : PySem.W.findIn K (.ref C150) "bodies" = some none)
    (z160 : PySem.W.findIn K (.ref C150) "marks" = some none)
    (q162 : PySem.W.makesIn K C150 = true)
    (q163 : PySem.W.findIn K (.ref C150) "__init__" = some (some (.ref f161)))
    (q164 : PySem.W.isFn K (.ref f161) = true)
    (q165 : PySem.W.keepIn K (.ref C150) = true)
    (l166 : K.lookup f161 = some ⟨oc166, od166, .func (PySem.W.fnOf "__init__" "Reader.__init__" (defArgs s_ReaderU_initU) (defBody s_ReaderU_initU) (defScope s_ReaderU_initU) .none kV166 dc166 pm166 an166 cd166 ct166), sl166⟩)
    (c166 : PySem.W.codeIn K cd166 "Reader.__init__" = true)
    (k166 : PySem.W.keepIn K (.ref f161) = true)
    (q168 : PySem.W.findIn K (.ref C150) "words_at" = some (some (.ref f167)))
    (q169 : PySem.W.isFn K (.ref f167) = true)
    (l170 : K.lookup f167 = some ⟨oc170, od170, .func (PySem.W.fnOf "words_at" "Reader.words_at" (defArgs s_Reader_words_at) (defBody s_Reader_words_at) (defScope s_Reader_words_at) .none kV170 dc170 pm170 an170 cd170 ct170), sl170⟩)
    (c170 : PySem.W.codeIn K cd170 "Reader.words_at" = true)
    (k170 : PySem.W.keepIn K (.ref f167) = true)
    (q172 : PySem.W.findIn K (.ref C150) "wrong_if" = some (some (.ref f171)))
    (q173 : PySem.W.isFn K (.ref f171) = true)
    (l174 : K.lookup f171 = some ⟨oc174, od174, .func (PySem.W.fnOf "wrong_if" "Reader.wrong_if" (defArgs s_Reader_wrong_if) (defBody s_Reader_wrong_if) (defScope s_Reader_wrong_if) .none kV174 dc174 pm174 an174 cd174 ct174), sl174⟩)
    (c174 : PySem.W.codeIn K cd174 "Reader.wrong_if" = true)
    (k174 : PySem.W.keepIn K (.ref f171) = true)
    (q176 : PySem.W.findIn K (.ref C150) "read_all" = some (some (.ref f175)))
    (q177 : PySem.W.isFn K (.ref f175) = true)
    (l178 : K.lookup f175 = some ⟨oc178, od178, .func (PySem.W.fnOf "read_all" "Reader.read_all" (defArgs s_Reader_read_all) (defBody s_Reader_read_all) (defScope s_Reader_read_all) .none kV178 dc178 pm178 an178 cd178 ct178), sl178⟩)
    (c178 : PySem.W.codeIn K cd178 "Reader.read_all" = true)
    (k178 : PySem.W.keepIn K (.ref f175) = true)
    (q180 : PySem.W.findIn K (.ref C150) "read_body" = some (some (.ref f179)))
    (q181 : PySem.W.isFn K (.ref f179) = true)
    (l182 : K.lookup f179 = some ⟨oc182, od182, .func (PySem.W.fnOf "read_body" "Reader.read_body" (defArgs s_Reader_read_body) (defBody s_Reader_read_body) (defScope s_Reader_read_body) .none kV182 dc182 pm182 an182 cd182 ct182), sl182⟩)
    (c182 : PySem.W.codeIn K cd182 "Reader.read_body" = true)
    (k182 : PySem.W.keepIn K (.ref f179) = true)
    (q184 : PySem.W.findIn K (.ref C150) "read_statement" = some (some (.ref f183)))
    (q185 : PySem.W.isFn K (.ref f183) = true)
    (l186 : K.lookup f183 = some ⟨oc186, od186, .func (PySem.W.fnOf "read_statement" "Reader.read_statement" (defArgs s_Reader_read_statement) (defBody s_Reader_read_statement) (defScope s_Reader_read_statement) .none kV186 dc186 pm186 an186 cd186 ct186), sl186⟩)
    (c186 : PySem.W.codeIn K cd186 "Reader.read_statement" = true)
    (k186 : PySem.W.keepIn K (.ref f183) = true)
    (q188 : PySem.W.findIn K (.ref C150) "read_block" = some (some (.ref f187)))
    (q189 : PySem.W.isFn K (.ref f187) = true)
    (l190 : K.lookup f187 = some ⟨oc190, od190, .func (PySem.W.fnOf "read_block" "Reader.read_block" (defArgs s_Reader_read_block) (defBody s_Reader_read_block) (defScope s_Reader_read_block) .none kV190 dc190 pm190 an190 cd190 ct190), sl190⟩)
    (c190 : PySem.W.codeIn K cd190 "Reader.read_block" = true)
    (k190 : PySem.W.keepIn K (.ref f187) = true)
    (q192 : PySem.W.findIn K (.ref C150) "read_try" = some (some (.ref f191)))
    (q193 : PySem.W.isFn K (.ref f191) = true)
    (l194 : K.lookup f191 = some ⟨oc194, od194, .func (PySem.W.fnOf "read_try" "Reader.read_try" (defArgs s_Reader_read_try) (defBody s_Reader_read_try) (defScope s_Reader_read_try) .none kV194 dc194 pm194 an194 cd194 ct194), sl194⟩)
    (c194 : PySem.W.codeIn K cd194 "Reader.read_try" = true)
    (k194 : PySem.W.keepIn K (.ref f191) = true)
    (z195 : PySem.W.nsIn K mainGlobals "MOST_CHARACTERS" = some (some (.int 6000 t196)))
    (z197 : PySem.W.nsIn K mainGlobals "MOST_WEIGHT" = some (some (.int 400 t198)))
    (a199 : PySem.W.nsIn K mainGlobals "DATABASE_ERRORS" = some (some (.ref p200)))
    (l201 : K.lookup p200 = some ⟨.type "tuple", dd202, .seq #[.str "doomed" t205, .str "missing" t206, .str "present" t207, .str "refused" t208, .str "waits" t209] nn203, sl204⟩)
    (a210 : PySem.W.nsIn K mainGlobals "BOUNDS" = some (some (.ref p211)))
    (l212 : K.lookup p211 = some ⟨.type "tuple", dd213, .seq #[.ref p216, .ref p217, .ref p218, .ref p219, .ref p220, .ref p221] nn214, sl215⟩)
    (l222 : K.lookup p216 = some ⟨.type "tuple", dd223, .seq #[.str "functions" t226, .int 12 t227] nn224, sl225⟩)
    (l228 : K.lookup p217 = some ⟨.type "tuple", dd229, .seq #[.str "statements" t232, .int 80 t233] nn230, sl231⟩)
    (l234 : K.lookup p218 = some ⟨.type "tuple", dd235, .seq #[.str "records" t238, .int 6 t239] nn236, sl237⟩)
    (l240 : K.lookup p219 = some ⟨.type "tuple", dd241, .seq #[.str "errors" t244, .int 11 t245] nn242, sl243⟩)
    (l246 : K.lookup p220 = some ⟨.type "tuple", dd247, .seq #[.str "blocks" t250, .int 16 t251] nn248, sl249⟩)
    (l252 : K.lookup p221 = some ⟨.type "tuple", dd253, .seq #[.str "unknown" t256, .int 4 t257] nn254, sl255⟩)
    (a259 : PySem.W.nsIn K mainGlobals "Library" = some (some (.ref C258)))
    (q260 : PySem.W.plainGet K C258 Str.empty = true)
    (q261 : PySem.W.hasDictIn K C258 = true)
    (q262 : PySem.W.plainOver K C258 = true)
    (q263 : PySem.W.findIn K (.ref C258) "__setattr__" = some (some (.builtin "object.__setattr__")))
    (z264 : PySem.W.findIn K (.ref C258) "text" = some none)
    (z265 : PySem.W.findIn K (.ref C258) "lines" = some none)
    (z266 : PySem.W.findIn K (.ref C258) "starts" = some none)
    (z267 : PySem.W.findIn K (.ref C258) "bodies" = some none)
    (z268 : PySem.W.findIn K (.ref C258) "marks" = some none)
    (z269 : PySem.W.findIn K (.ref C258) "pairs" = some none)
    (q271 : PySem.W.makesIn K C258 = true)
    (q272 : PySem.W.findIn K (.ref C258) "__init__" = some (some (.ref f270)))
    (q273 : PySem.W.isFn K (.ref f270) = true)
    (q274 : PySem.W.keepIn K (.ref C258) = true)
    (l275 : K.lookup f270 = some ⟨oc275, od275, .func (PySem.W.fnOf "__init__" "Library.__init__" (defArgs s_LibraryU_initU) (defBody s_LibraryU_initU) (defScope s_LibraryU_initU) (.ref T276) kV275 dc275 pm275 an275 cd275 ct275), sl275⟩)
    (c275 : PySem.W.codeIn K cd275 "Library.__init__" = true)
    (k275 : PySem.W.keepIn K (.ref f270) = true)
    (lT282 : K.lookup T276 = some ⟨oc277, od278, .seq #[.int 6000 t281] on279, os280⟩)
    (a284 : PySem.W.nsIn K mainGlobals "parts_of" = some (some (.ref f283)))
    (l285 : K.lookup f283 = some ⟨oc285, od285, .func (PySem.W.fnOf "parts_of" "parts_of" (defArgs s_parts_of) (defBody s_parts_of) (defScope s_parts_of) .none kV285 dc285 pm285 an285 cd285 ct285), sl285⟩)
    (c285 : PySem.W.codeIn K cd285 "parts_of" = true)
    (k285 : PySem.W.keepIn K (.ref f283) = true)
    (a287 : PySem.W.nsIn K mainGlobals "listed_statements" = some (some (.ref f286)))
    (l288 : K.lookup f286 = some ⟨oc288, od288, .func (PySem.W.fnOf "listed_statements" "listed_statements" (defArgs s_listed_statements) (defBody s_listed_statements) (defScope s_listed_statements) (.ref T289) kV288 dc288 pm288 an288 cd288 ct288), sl288⟩)
    (c288 : PySem.W.codeIn K cd288 "listed_statements" = true)
    (k288 : PySem.W.keepIn K (.ref f286) = true)
    (lT295 : K.lookup T289 = some ⟨oc290, od291, .seq #[.bool false] on292, os293⟩)
    (a297 : PySem.W.nsIn K mainGlobals "words_of" = some (some (.ref f296)))
    (l298 : K.lookup f296 = some ⟨oc298, od298, .func (PySem.W.fnOf "words_of" "words_of" (defArgs s_words_of) (defBody s_words_of) (defScope s_words_of) .none kV298 dc298 pm298 an298 cd298 ct298), sl298⟩)
    (c298 : PySem.W.codeIn K cd298 "words_of" = true)
    (k298 : PySem.W.keepIn K (.ref f296) = true)
    (a300 : PySem.W.nsIn K mainGlobals "comes_back" = some (some (.ref f299)))
    (l301 : K.lookup f299 = some ⟨oc301, od301, .func (PySem.W.fnOf "comes_back" "comes_back" (defArgs s_comes_back) (defBody s_comes_back) (defScope s_comes_back) .none kV301 dc301 pm301 an301 cd301 ct301), sl301⟩)
    (c301 : PySem.W.codeIn K cd301 "comes_back" = true)
    (k301 : PySem.W.keepIn K (.ref f299) = true)
    (a303 : PySem.W.nsIn K mainGlobals "free_statements" = some (some (.ref f302)))
    (l304 : K.lookup f302 = some ⟨oc304, od304, .func (PySem.W.fnOf "free_statements" "free_statements" (defArgs s_free_statements) (defBody s_free_statements) (defScope s_free_statements) .none kV304 dc304 pm304 an304 cd304 ct304), sl304⟩)
    (c304 : PySem.W.codeIn K cd304 "free_statements" = true)
    (k304 : PySem.W.keepIn K (.ref f302) = true)
    (a306 : PySem.W.nsIn K mainGlobals "weight_of" = some (some (.ref f305)))
    (l307 : K.lookup f305 = some ⟨oc307, od307, .func (PySem.W.fnOf "weight_of" "weight_of" (defArgs s_weight_of) (defBody s_weight_of) (defScope s_weight_of) .none kV307 dc307 pm307 an307 cd307 ct307), sl307⟩)
    (c307 : PySem.W.codeIn K cd307 "weight_of" = true)
    (k307 : PySem.W.keepIn K (.ref f305) = true)
    (a309 : PySem.W.nsIn K mainGlobals "body_weight" = some (some (.ref f308)))
    (l310 : K.lookup f308 = some ⟨oc310, od310, .func (PySem.W.fnOf "body_weight" "body_weight" (defArgs s_body_weight) (defBody s_body_weight) (defScope s_body_weight) .none kV310 dc310 pm310 an310 cd310 ct310), sl310⟩)
    (c310 : PySem.W.codeIn K cd310 "body_weight" = true)
    (k310 : PySem.W.keepIn K (.ref f308) = true)
    (q312 : PySem.W.findIn K (.ref C258) "stay_in_bounds" = some (some (.ref f311)))
    (q313 : PySem.W.isFn K (.ref f311) = true)
    (l314 : K.lookup f311 = some ⟨oc314, od314, .func (PySem.W.fnOf "stay_in_bounds" "Library.stay_in_bounds" (defArgs s_Library_stay_in_bounds) (defBody s_Library_stay_in_bounds) (defScope s_Library_stay_in_bounds) .none kV314 dc314 pm314 an314 cd314 ct314), sl314⟩)
    (c314 : PySem.W.codeIn K cd314 "Library.stay_in_bounds" = true)
    (k314 : PySem.W.keepIn K (.ref f311) = true)
    (q316 : PySem.W.findIn K (.ref C258) "come_to_an_end" = some (some (.ref f315)))
    (q317 : PySem.W.isFn K (.ref f315) = true)
    (l318 : K.lookup f315 = some ⟨oc318, od318, .func (PySem.W.fnOf "come_to_an_end" "Library.come_to_an_end" (defArgs s_Library_come_to_an_end) (defBody s_Library_come_to_an_end) (defScope s_Library_come_to_an_end) .none kV318 dc318 pm318 an318 cd318 ct318), sl318⟩)
    (c318 : PySem.W.codeIn K cd318 "Library.come_to_an_end" = true)
    (k318 : PySem.W.keepIn K (.ref f315) = true)
    (q320 : PySem.W.findIn K (.ref C258) "functions" = some (some (.ref f319)))
    (q321 : PySem.W.isFn K (.ref f319) = true)
    (l322 : K.lookup f319 = some ⟨oc322, od322, .func (PySem.W.fnOf "functions" "Library.functions" (defArgs s_Library_functions) (defBody s_Library_functions) (defScope s_Library_functions) .none kV322 dc322 pm322 an322 cd322 ct322), sl322⟩)
    (c322 : PySem.W.codeIn K cd322 "Library.functions" = true)
    (k322 : PySem.W.keepIn K (.ref f319) = true)
    (q324 : PySem.W.findIn K (.ref C258) "records" = some (some (.ref f323)))
    (q325 : PySem.W.isFn K (.ref f323) = true)
    (l326 : K.lookup f323 = some ⟨oc326, od326, .func (PySem.W.fnOf "records" "Library.records" (defArgs s_Library_records) (defBody s_Library_records) (defScope s_Library_records) .none kV326 dc326 pm326 an326 cd326 ct326), sl326⟩)
    (c326 : PySem.W.codeIn K cd326 "Library.records" = true)
    (k326 : PySem.W.keepIn K (.ref f323) = true)
    (q328 : PySem.W.findIn K (.ref C258) "errors" = some (some (.ref f327)))
    (q329 : PySem.W.isFn K (.ref f327) = true)
    (l330 : K.lookup f327 = some ⟨oc330, od330, .func (PySem.W.fnOf "errors" "Library.errors" (defArgs s_Library_errors) (defBody s_Library_errors) (defScope s_Library_errors) .none kV330 dc330 pm330 an330 cd330 ct330), sl330⟩)
    (c330 : PySem.W.codeIn K cd330 "Library.errors" = true)
    (k330 : PySem.W.keepIn K (.ref f327) = true)
    (q332 : PySem.W.findIn K (.ref C258) "unknown" = some (some (.ref f331)))
    (q333 : PySem.W.isFn K (.ref f331) = true)
    (l334 : K.lookup f331 = some ⟨oc334, od334, .func (PySem.W.fnOf "unknown" "Library.unknown" (defArgs s_Library_unknown) (defBody s_Library_unknown) (defScope s_Library_unknown) .none kV334 dc334 pm334 an334 cd334 ct334), sl334⟩)
    (c334 : PySem.W.codeIn K cd334 "Library.unknown" = true)
    (k334 : PySem.W.keepIn K (.ref f331) = true)
    (q336 : PySem.W.findIn K (.ref C258) "blocks" = some (some (.ref f335)))
    (q337 : PySem.W.isFn K (.ref f335) = true)
    (l338 : K.lookup f335 = some ⟨oc338, od338, .func (PySem.W.fnOf "blocks" "Library.blocks" (defArgs s_Library_blocks) (defBody s_Library_blocks) (defScope s_Library_blocks) .none kV338 dc338 pm338 an338 cd338 ct338), sl338⟩)
    (c338 : PySem.W.codeIn K cd338 "Library.blocks" = true)
    (k338 : PySem.W.keepIn K (.ref f335) = true)
    (q340 : PySem.W.findIn K (.ref C258) "__len__" = some (some (.ref f339)))
    (q341 : PySem.W.isFn K (.ref f339) = true)
    (l342 : K.lookup f339 = some ⟨oc342, od342, .func (PySem.W.fnOf "__len__" "Library.__len__" (defArgs s_LibraryU_lenU) (defBody s_LibraryU_lenU) (defScope s_LibraryU_lenU) .none kV342 dc342 pm342 an342 cd342 ct342), sl342⟩)
    (c342 : PySem.W.codeIn K cd342 "Library.__len__" = true)
    (k342 : PySem.W.keepIn K (.ref f339) = true)
    (q344 : PySem.W.findIn K (.ref C258) "__contains__" = some (some (.ref f343)))
    (q345 : PySem.W.isFn K (.ref f343) = true)
    (l346 : K.lookup f343 = some ⟨oc346, od346, .func (PySem.W.fnOf "__contains__" "Library.__contains__" (defArgs s_LibraryU_containsU) (defBody s_LibraryU_containsU) (defScope s_LibraryU_containsU) .none kV346 dc346 pm346 an346 cd346 ct346), sl346⟩)
    (c346 : PySem.W.codeIn K cd346 "Library.__contains__" = true)
    (k346 : PySem.W.keepIn K (.ref f343) = true)
    (q348 : PySem.W.findIn K (.ref C258) "__getitem__" = some (some (.ref f347)))
    (q349 : PySem.W.isFn K (.ref f347) = true)
    (l350 : K.lookup f347 = some ⟨oc350, od350, .func (PySem.W.fnOf "__getitem__" "Library.__getitem__" (defArgs s_LibraryU_getitemU) (defBody s_LibraryU_getitemU) (defScope s_LibraryU_getitemU) .none kV350 dc350 pm350 an350 cd350 ct350), sl350⟩)
    (c350 : PySem.W.codeIn K cd350 "Library.__getitem__" = true)
    (k350 : PySem.W.keepIn K (.ref f347) = true)
    (q352 : PySem.W.findIn K (.ref C258) "__str__" = some (some (.ref f351)))
    (q353 : PySem.W.isFn K (.ref f351) = true)
    (l354 : K.lookup f351 = some ⟨oc354, od354, .func (PySem.W.fnOf "__str__" "Library.__str__" (defArgs s_LibraryU_strU) (defBody s_LibraryU_strU) (defScope s_LibraryU_strU) .none kV354 dc354 pm354 an354 cd354 ct354), sl354⟩)
    (c354 : PySem.W.codeIn K cd354 "Library.__str__" = true)
    (k354 : PySem.W.keepIn K (.ref f351) = true)
    (q356 : PySem.W.findIn K (.ref C258) "__eq__" = some (some (.ref f355)))
    (q357 : PySem.W.isFn K (.ref f355) = true)
    (l358 : K.lookup f355 = some ⟨oc358, od358, .func (PySem.W.fnOf "__eq__" "Library.__eq__" (defArgs s_LibraryU_eqU) (defBody s_LibraryU_eqU) (defScope s_LibraryU_eqU) .none kV358 dc358 pm358 an358 cd358 ct358), sl358⟩)
    (c358 : PySem.W.codeIn K cd358 "Library.__eq__" = true)
    (k358 : PySem.W.keepIn K (.ref f355) = true)
    (z359 : PySem.W.fnIn K f347 = true)
    (q360 : PySem.W.findIn K (.ref C258) "__class__" = some (some (.builtin "object.__class__")))
    (q361 : PySem.W.specialIn K (.builtin "object.__class__") "__get__" = some (some (.builtin "getset_descriptor.__get__")))
    (q362 : PySem.W.takesIn K (.builtin "object.__class__") = some true)
    (q363 : PySem.W.mroIn K C258 (.type "object") = some true)
    (q364 : PySem.W.kitOne K (.ref C258) (.ref C258) = some true)
    (q365 : PySem.W.kitOne K (.type "tuple") (.ref C258) = some false)
    (q366 : PySem.W.kitOne K (.type "str") (.ref C258) = some false)
    (q367 : PySem.W.kitOne K (.type "NoneType") (.ref C258) = some false)
    (q368 : PySem.W.notFirst K C258 (.type "tuple") = true)
    (q369 : PySem.W.notFirst K C258 (.type "str") = true)
    (q370 : PySem.W.notFirst K C258 (.type "NoneType") = true)
    (q371 : PySem.W.findIn K (.ref C258) "__ne__" = some (some (.builtin "object.__ne__")))
    (q372 : PySem.W.kitOne K (.type "list") (.ref C258) = some false)
    (q373 : PySem.W.notFirst K C258 (.type "list") = true)
    (a375 : PySem.W.nsIn K mainGlobals "_law_pool" = some (some (.ref f374)))
    (l376 : K.lookup f374 = some ⟨oc376, od376, .func (PySem.W.fnOf "_law_pool" "_law_pool" (defArgs s_law_pool) (defBody s_law_pool) (defScope s_law_pool) .none kV376 dc376 pm376 an376 cd376 ct376), sl376⟩)
    (c376 : PySem.W.codeIn K cd376 "_law_pool" = true)
    (k376 : PySem.W.keepIn K (.ref f374) = true)
    (a378 : PySem.W.nsIn K mainGlobals "_law_draw" = some (some (.ref f377)))
    (l379 : K.lookup f377 = some ⟨oc379, od379, .func (PySem.W.fnOf "_law_draw" "_law_draw" (defArgs s_law_draw) (defBody s_law_draw) (defScope s_law_draw) .none kV379 dc379 pm379 an379 cd379 ct379), sl379⟩)
    (c379 : PySem.W.codeIn K cd379 "_law_draw" = true)
    (k379 : PySem.W.keepIn K (.ref f377) = true)
    (a381 : PySem.W.nsIn K mainGlobals "_law_word" = some (some (.ref f380)))
    (l382 : K.lookup f380 = some ⟨oc382, od382, .func (PySem.W.fnOf "_law_word" "_law_word" (defArgs s_law_word) (defBody s_law_word) (defScope s_law_word) .none kV382 dc382 pm382 an382 cd382 ct382), sl382⟩)
    (c382 : PySem.W.codeIn K cd382 "_law_word" = true)
    (k382 : PySem.W.keepIn K (.ref f380) = true)
    (a384 : PySem.W.nsIn K mainGlobals "_law_different" = some (some (.ref f383)))
    (l385 : K.lookup f383 = some ⟨oc385, od385, .func (PySem.W.fnOf "_law_different" "_law_different" (defArgs s_law_different) (defBody s_law_different) (defScope s_law_different) .none kV385 dc385 pm385 an385 cd385 ct385), sl385⟩)
    (c385 : PySem.W.codeIn K cd385 "_law_different" = true)
    (k385 : PySem.W.keepIn K (.ref f383) = true)
    (a387 : PySem.W.nsIn K mainGlobals "_law_pick" = some (some (.ref f386)))
    (l388 : K.lookup f386 = some ⟨oc388, od388, .func (PySem.W.fnOf "_law_pick" "_law_pick" (defArgs s_law_pick) (defBody s_law_pick) (defScope s_law_pick) .none kV388 dc388 pm388 an388 cd388 ct388), sl388⟩)
    (c388 : PySem.W.codeIn K cd388 "_law_pick" = true)
    (k388 : PySem.W.keepIn K (.ref f386) = true)
    (a390 : PySem.W.nsIn K mainGlobals "_law_row" = some (some (.ref f389)))
    (l391 : K.lookup f389 = some ⟨oc391, od391, .func (PySem.W.fnOf "_law_row" "_law_row" (defArgs s_law_row) (defBody s_law_row) (defScope s_law_row) .none kV391 dc391 pm391 an391 cd391 ct391), sl391⟩)
    (c391 : PySem.W.codeIn K cd391 "_law_row" = true)
    (k391 : PySem.W.keepIn K (.ref f389) = true)
    (a393 : PySem.W.nsIn K mainGlobals "_law_body" = some (some (.ref f392)))
    (l394 : K.lookup f392 = some ⟨oc394, od394, .func (PySem.W.fnOf "_law_body" "_law_body" (defArgs s_law_body) (defBody s_law_body) (defScope s_law_body) .none kV394 dc394 pm394 an394 cd394 ct394), sl394⟩)
    (c394 : PySem.W.codeIn K cd394 "_law_body" = true)
    (k394 : PySem.W.keepIn K (.ref f392) = true)
    (a396 : PySem.W.nsIn K mainGlobals "_law_statement" = some (some (.ref f395)))
    (l397 : K.lookup f395 = some ⟨oc397, od397, .func (PySem.W.fnOf "_law_statement" "_law_statement" (defArgs s_law_statement) (defBody s_law_statement) (defScope s_law_statement) .none kV397 dc397 pm397 an397 cd397 ct397), sl397⟩)
    (c397 : PySem.W.codeIn K cd397 "_law_statement" = true)
    (k397 : PySem.W.keepIn K (.ref f395) = true)
    (a399 : PySem.W.nsIn K mainGlobals "_law_try" = some (some (.ref f398)))
    (l400 : K.lookup f398 = some ⟨oc400, od400, .func (PySem.W.fnOf "_law_try" "_law_try" (defArgs s_law_try) (defBody s_law_try) (defScope s_law_try) .none kV400 dc400 pm400 an400 cd400 ct400), sl400⟩)
    (c400 : PySem.W.codeIn K cd400 "_law_try" = true)
    (k400 : PySem.W.keepIn K (.ref f398) = true)
    (a402 : PySem.W.nsIn K mainGlobals "_law_library" = some (some (.ref f401)))
    (l403 : K.lookup f401 = some ⟨oc403, od403, .func (PySem.W.fnOf "_law_library" "_law_library" (defArgs s_law_library) (defBody s_law_library) (defScope s_law_library) .none kV403 dc403 pm403 an403 cd403 ct403), sl403⟩)
    (c403 : PySem.W.codeIn K cd403 "_law_library" = true)
    (k403 : PySem.W.keepIn K (.ref f401) = true)
    (a405 : PySem.W.nsIn K mainGlobals "_law_lines" = some (some (.ref f404)))
    (l406 : K.lookup f404 = some ⟨oc406, od406, .func (PySem.W.fnOf "_law_lines" "_law_lines" (defArgs s_law_lines) (defBody s_law_lines) (defScope s_law_lines) .none kV406 dc406 pm406 an406 cd406 ct406), sl406⟩)
    (c406 : PySem.W.codeIn K cd406 "_law_lines" = true)
    (k406 : PySem.W.keepIn K (.ref f404) = true)
    (a408 : PySem.W.nsIn K mainGlobals "_law_asked" = some (some (.ref f407)))
    (l409 : K.lookup f407 = some ⟨oc409, od409, .func (PySem.W.fnOf "_law_asked" "_law_asked" (defArgs s_law_asked) (defBody s_law_asked) (defScope s_law_asked) .none kV409 dc409 pm409 an409 cd409 ct409), sl409⟩)
    (c409 : PySem.W.codeIn K cd409 "_law_asked" = true)
    (k409 : PySem.W.keepIn K (.ref f407) = true)
    (a411 : PySem.W.nsIn K mainGlobals "_law_due" = some (some (.ref f410)))
    (l412 : K.lookup f410 = some ⟨oc412, od412, .func (PySem.W.fnOf "_law_due" "_law_due" (defArgs s_law_due) (defBody s_law_due) (defScope s_law_due) .none kV412 dc412 pm412 an412 cd412 ct412), sl412⟩)
    (c412 : PySem.W.codeIn K cd412 "_law_due" = true)
    (k412 : PySem.W.keepIn K (.ref f410) = true)
    (l413 : K.lookup f0 = some ⟨oc413, od413, .func (PySem.W.fnOf "law" "law" (defArgs s_law) (defBody s_law) (defScope s_law) .none kV413 dc413 pm413 an413 cd413 ct413), sl413⟩)
    (c413 : PySem.W.codeIn K cd413 "law" = true)
    (k413 : PySem.W.keepIn K (.ref f0) = true)
    (z414 : PySem.W.nsIn K mainGlobals "len" = some none)
    (z415 : PySem.W.nsIn K mainGlobals "isinstance" = some none)
    (z416 : PySem.W.nsIn K mainGlobals "str" = some none)
    (z417 : PySem.W.nsIn K mainGlobals "all" = some none)
    (z418 : PySem.W.nsIn K mainGlobals "super" = some none)
    (z419 : PySem.W.nsIn K mainGlobals "tuple" = some none)
    (z420 : PySem.W.nsIn K mainGlobals "list" = some none)
    (z421 : PySem.W.nsIn K mainGlobals "sorted" = some none)
    (z422 : PySem.W.nsIn K mainGlobals "set" = some none)
    (z423 : PySem.W.nsIn K mainGlobals "min" = some none)
    (z424 : PySem.W.nsIn K mainGlobals "abs" = some none)
    (z425 : PySem.W.nsIn K mainGlobals "int" = some none)
    (z426 : PySem.W.nsIn K mainGlobals "range" = some none)
    (z427 : PySem.W.nsIn K mainGlobals "max" = some none)
    : ∃ fd : FuncData, (∀ (s : Shared) (v : Value), BindsTo s fd ⟨[v], []⟩ [("_law_script", v)]) ∧ ∀ base : Heap, K.In base → base.Ns mainGlobals mg → FnOk P w K mg base CX0 54 fa fd ["_law_script"] (spLaw K) := by
  have e := hfa0.symm.trans (PySem.W.mg_of X G a0)
  cases e
  exact all_mk X G hfa0 a2 r3 s4 z5 z7 z9 z11 z13 z15 z17 z19 z21 l23 z37 r38 l40 c40 k40 a42 l43 c43 k43 z44 a46 e49 e50 e51 e52 e53 e54 e55 e56 e57 e58 e59 e60 e61 e62 e63 e64 e65 e66 e67 e68 e69 a71 e74 e75 e76 e77 e78 e79 e80 e81 e82 e83 e84 e85 e86 e87 e88 e89 e90 e91 e92 e93 e94 a96 e99 e100 e101 e102 e103 e104 e105 e106 e107 e108 e109 e110 e111 e112 e113 e114 e115 e116 e117 e118 e119 a121 e124 e125 e126 e127 e128 e129 e130 e131 e132 e133 e134 e135 e136 e137 e138 e139 e140 e141 e142 e143 e144 z145 a148 l149 c149 k149 a151 q152 q153 q154 q155 z156 z157 z158 z159 z160 q162 q163 q164 q165 l166 c166 k166 q168 q169 l170 c170 k170 q172 q173 l174 c174 k174 q176 q177 l178 c178 k178 q180 q181 l182 c182 k182 q184 q185 l186 c186 k186 q188 q189 l190 c190 k190 q192 q193 l194 c194 k194 z195 z197 a199 l201 a210 l212 l222 l228 l234 l240 l246 l252 a259 q260 q261 q262 q263 z264 z265 z266 z267 z268 z269 q271 q272 q273 q274 l275 c275 k275 lT282 a284 l285 c285 k285 a287 l288 c288 k288 lT295 a297 l298 c298 k298 a300 l301 c301 k301 a303 l304 c304 k304 a306 l307 c307 k307 a309 l310 c310 k310 q312 q313 l314 c314 k314 q316 q317 l318 c318 k318 q320 q321 l322 c322 k322 q324 q325 l326 c326 k326 q328 q329 l330 c330 k330 q332 q333 l334 c334 k334 q336 q337 l338 c338 k338 q340 q341 l342 c342 k342 q344 q345 l346 c346 k346 q348 q349 l350 c350 k350 q352 q353 l354 c354 k354 q356 q357 l358 c358 k358 z359 q360 q361 q362 q363 q364 q365 q366 q367 q368 q369 q370 q371 q372 q373 a375 l376 c376 k376 a378 l379 c379 k379 a381 l382 c382 k382 a384 l385 c385 k385 a387 l388 c388 k388 a390 l391 c391 k391 a393 l394 c394 k394 a396 l397 c397 k397 a399 l400 c400 k400 a402 l403 c403 k403 a405 l406 c406 k406 a408 l409 c409 k409 a411 l412 c412 k412 l413 c413 k413 z414 z415 z416 z417 z418 z419 z420 z421 z422 z423 z424 z425 z426 z427
end Ic
open PySem PySem.W PyProof.Rows
set_option maxRecDepth 100000 in
set_option maxHeartbeats 0 in
theorem PySem.Challenge.cw_innercommits_k20_parts_of_libraries_holds : PySem.Challenge.rw_innercommits_k20_parts_of_libraries.Holds := by
  w_on; o_law; k_head; (case hw => w_witness2)
  k_fill
  refine L2.walk_ofB (l := PySem.Challenge.rw_innercommits_k20_parts_of_libraries) (n := 63) (k := 54) (x := "_law_script") (CX := fun _ => L2.CX0) (sp := fun w => Ic.spLaw _) rfl (by decide) rfl ⟨rfl, by decide, by decide⟩ (fun w h Y => PySem.W.kIn_of Y) ?F (fun _ _ a ns hl _ _ hS => ⟨a, ns, rfl, hS, hl, fun _ => rfl⟩) (fun _ _ _ _ _ h => h)
  case F =>
    intro w mg fa h KX G hmg
    refine' Ic.all_mk' KX G hmg ?a0 ?a2 ?r3 ?s4 ?z5 ?z7 ?z9 ?z11 ?z13 ?z15 ?z17 ?z19 ?z21 ?l23 ?z37 ?r38 ?l40 ?c40 ?k40 ?a42 ?l43 ?c43 ?k43 ?z44 ?a46 ?e49 ?e50 ?e51 ?e52 ?e53 ?e54 ?e55 ?e56 ?e57 ?e58 ?e59 ?e60 ?e61 ?e62 ?e63 ?e64 ?e65 ?e66 ?e67 ?e68 ?e69 ?a71 ?e74 ?e75 ?e76 ?e77 ?e78 ?e79 ?e80 ?e81 ?e82 ?e83 ?e84 ?e85 ?e86 ?e87 ?e88 ?e89 ?e90 ?e91 ?e92 ?e93 ?e94 ?a96 ?e99 ?e100 ?e101 ?e102 ?e103 ?e104 ?e105 ?e106 ?e107 ?e108 ?e109 ?e110 ?e111 ?e112 ?e113 ?e114 ?e115 ?e116 ?e117 ?e118 ?e119 ?a121 ?e124 ?e125 ?e126 ?e127 ?e128 ?e129 ?e130 ?e131 ?e132 ?e133 ?e134 ?e135 ?e136 ?e137 ?e138 ?e139 ?e140 ?e141 ?e142 ?e143 ?e144 ?z145 ?a148 ?l149 ?c149 ?k149 ?a151 ?q152 ?q153 ?q154 ?q155 ?z156 ?z157 ?z158 ?z159 ?z160 ?q162 ?q163 ?q164 ?q165 ?l166 ?c166 ?k166 ?q168 ?q169 ?l170 ?c170 ?k170 ?q172 ?q173 ?l174 ?c174 ?k174 ?q176 ?q177 ?l178 ?c178 ?k178 ?q180 ?q181 ?l182 ?c182 ?k182 ?q184 ?q185 ?l186 ?c186 ?k186 ?q188 ?q189 ?l190 ?c190 ?k190 ?q192 ?q193 ?l194 ?c194 ?k194 ?z195 ?z197 ?a199 ?l201 ?a210 ?l212 ?l222 ?l228 ?l234 ?l240 ?l246 ?l252 ?a259 ?q260 ?q261 ?q262 ?q263 ?z264 ?z265 ?z266 ?z267 ?z268 ?z269 ?q271 ?q272 ?q273 ?q274 ?l275 ?c275 ?k275 ?lT282 ?a284 ?l285 ?c285 ?k285 ?a287 ?l288 ?c288 ?k288 ?lT295 ?a297 ?l298 ?c298 ?k298 ?a300 ?l301 ?c301 ?k301 ?a303 ?l304 ?c304 ?k304 ?a306 ?l307 ?c307 ?k307 ?a309 ?l310 ?c310 ?k310 ?q312 ?q313 ?l314 ?c314 ?k314 ?q316 ?q317 ?l318 ?c318 ?k318 ?q320 ?q321 ?l322 ?c322 ?k322 ?q324 ?q325 ?l326 ?c326 ?k326 ?q328 ?q329 ?l330 ?c330 ?k330 ?q332 ?q333 ?l334 ?c334 ?k334 ?q336 ?q337 ?l338 ?c338 ?k338 ?q340 ?q341 ?l342 ?c342 ?k342 ?q344 ?q345 ?l346 ?c346 ?k346 ?q348 ?q349 ?l350 ?c350 ?k350 ?q352 ?q353 ?l354 ?c354 ?k354 ?q356 ?q357 ?l358 ?c358 ?k358 ?z359 ?q360 ?q361 ?q362 ?q363 ?q364 ?q365 ?q366 ?q367 ?q368 ?q369 ?q370 ?q371 ?q372 ?q373 ?a375 ?l376 ?c376 ?k376 ?a378 ?l379 ?c379 ?k379 ?a381 ?l382 ?c382 ?k382 ?a384 ?l385 ?c385 ?k385 ?a387 ?l388 ?c388 ?k388 ?a390 ?l391 ?c391 ?k391 ?a393 ?l394 ?c394 ?k394 ?a396 ?l397 ?c397 ?k397 ?a399 ?l400 ?c400 ?k400 ?a402 ?l403 ?c403 ?k403 ?a405 ?l406 ?c406 ?k406 ?a408 ?l409 ?c409 ?k409 ?a411 ?l412 ?c412 ?k412 ?l413 ?c413 ?k413 ?z414 ?z415 ?z416 ?z417 ?z418 ?z419 ?z420 ?z421 ?z422 ?z423 ?z424 ?z425 ?z426 ?z427
    (case a0 => k_is)
    (case a2 => k_is)
    (case r3 => k_is)
    (case s4 => k_is)
    (case z5 => k_is)
    (case z7 => k_is)
    (case z9 => k_is)
    (case z11 => k_is)
    (case z13 => k_is)
    (case z15 => k_is)
    (case z17 => k_is)
    (case z19 => k_is)
    (case z21 => k_is)
    (case l23 => k_is)
    (case z37 => k_is)
    (case r38 => k_is)
    (case l40 => k_is)
    (case c40 => k_is)
    (case k40 => k_is)
    (case a42 => k_is)
    (case l43 => k_is)
    (case c43 => k_is)
    (case k43 => k_is)
    (case z44 => k_is)
    (case a46 => k_is)
    (case e49 => k_is)
    (case e50 => kernel_rfl)
    (case e51 => k_is)
    (case e52 => k_is)
    (case e53 => k_is)
    (case e54 => k_is)
    (case e55 => k_is)
    (case e56 => k_is)
    (case e57 => k_is)
    (case e58 => k_is)
    (case e59 => k_is)
    (case e60 => k_is)
    (case e61 => kernel_rfl)
    (case e62 => k_is)
    (case e63 => kernel_rfl)
    (case e64 => k_is)
    (case e65 => k_is)
    (case e66 => k_is)
    (case e67 => exact rfl)
    (case e68 => k_is)
    (case e69 => k_is)
    (case a71 => k_is)
    (case e74 => k_is)
    (case e75 => kernel_rfl)
    (case e76 => k_is)
    (case e77 => k_is)
    (case e78 => k_is)
    (case e79 => k_is)
    (case e80 => k_is)
    (case e81 => k_is)
    (case e82 => k_is)
    (case e83 => k_is)
    (case e84 => k_is)
    (case e85 => k_is)
    (case e86 => kernel_rfl)
    (case e87 => k_is)
    (case e88 => kernel_rfl)
    (case e89 => k_is)
    (case e90 => k_is)
    (case e91 => k_is)
    (case e92 => exact rfl)
    (case e93 => k_is)
    (case e94 => k_is)
    (case a96 => k_is)
    (case e99 => k_is)
    (case e100 => kernel_rfl)
    (case e101 => k_is)
    (case e102 => k_is)
    (case e103 => k_is)
    (case e104 => k_is)
    (case e105 => k_is)
    (case e106 => k_is)
    (case e107 => k_is)
    (case e108 => k_is)
    (case e109 => k_is)
    (case e110 => k_is)
    (case e111 => kernel_rfl)
    (case e112 => k_is)
    (case e113 => kernel_rfl)
    (case e114 => k_is)
    (case e115 => k_is)
    (case e116 => k_is)
    (case e117 => exact rfl)
    (case e118 => k_is)
    (case e119 => k_is)
    (case a121 => k_is)
    (case e124 => k_is)
    (case e125 => kernel_rfl)
    (case e126 => k_is)
    (case e127 => k_is)
    (case e128 => k_is)
    (case e129 => k_is)
    (case e130 => k_is)
    (case e131 => k_is)
    (case e132 => k_is)
    (case e133 => k_is)
    (case e134 => k_is)
    (case e135 => k_is)
    (case e136 => kernel_rfl)
    (case e137 => k_is)
    (case e138 => kernel_rfl)
    (case e139 => k_is)
    (case e140 => k_is)
    (case e141 => k_is)
    (case e142 => exact rfl)
    (case e143 => k_is)
    (case e144 => k_is)
    (case z145 => k_is)
    (case a148 => k_is)
    (case l149 => k_is)
    (case c149 => k_is)
    (case k149 => k_is)
    (case a151 => k_is)
    (case q152 => k_is)
    (case q153 => k_is)
    (case q154 => k_is)
    (case q155 => k_is)
    (case z156 => k_is)
    (case z157 => k_is)
    (case z158 => k_is)
    (case z159 => k_is)
    (case z160 => k_is)
    (case q162 => k_is)
    (case q163 => k_is)
    (case q164 => k_is)
    (case q165 => k_is)
    (case l166 => k_is)
    (case c166 => k_is)
    (case k166 => k_is)
    (case q168 => k_is)
    (case q169 => k_is)
    (case l170 => k_is)
    (case c170 => k_is)
    (case k170 => k_is)
    (case q172 => k_is)
    (case q173 => k_is)
    (case l174 => k_is)
    (case c174 => k_is)
    (case k174 => k_is)
    (case q176 => k_is)
    (case q177 => k_is)
    (case l178 => k_is)
    (case c178 => k_is)
    (case k178 => k_is)
    (case q180 => k_is)
    (case q181 => k_is)
    (case l182 => k_is)
    (case c182 => k_is)
    (case k182 => k_is)
    (case q184 => k_is)
    (case q185 => k_is)
    (case l186 => k_is)
    (case c186 => k_is)
    (case k186 => k_is)
    (case q188 => k_is)
    (case q189 => k_is)
    (case l190 => k_is)
    (case c190 => k_is)
    (case k190 => k_is)
    (case q192 => k_is)
    (case q193 => k_is)
    (case l194 => k_is)
    (case c194 => k_is)
    (case k194 => k_is)
    (case z195 => k_is)
    (case z197 => k_is)
    (case a199 => k_is)
    (case l201 => k_is)
    (case a210 => k_is)
    (case l212 => k_is)
    (case l222 => k_is)
    (case l228 => k_is)
    (case l234 => k_is)
    (case l240 => k_is)
    (case l246 => k_is)
    (case l252 => k_is)
    (case a259 => k_is)
    (case q260 => k_is)
    (case q261 => k_is)
    (case q262 => k_is)
    (case q263 => k_is)
    (case z264 => k_is)
    (case z265 => k_is)
    (case z266 => k_is)
    (case z267 => k_is)
    (case z268 => k_is)
    (case z269 => k_is)
    (case q271 => k_is)
    (case q272 => k_is)
    (case q273 => k_is)
    (case q274 => k_is)
    (case l275 => k_is)
    (case c275 => k_is)
    (case k275 => k_is)
    (case lT282 => k_is)
    (case a284 => k_is)
    (case l285 => k_is)
    (case c285 => k_is)
    (case k285 => k_is)
    (case a287 => k_is)
    (case l288 => k_is)
    (case c288 => k_is)
    (case k288 => k_is)
    (case lT295 => k_is)
    (case a297 => k_is)
    (case l298 => k_is)
    (case c298 => k_is)
    (case k298 => k_is)
    (case a300 => k_is)
    (case l301 => k_is)
    (case c301 => k_is)
    (case k301 => k_is)
    (case a303 => k_is)
    (case l304 => k_is)
    (case c304 => k_is)
    (case k304 => k_is)
    (case a306 => k_is)
    (case l307 => k_is)
    (case c307 => k_is)
    (case k307 => k_is)
    (case a309 => k_is)
    (case l310 => k_is)
    (case c310 => k_is)
    (case k310 => k_is)
    (case q312 => k_is)
    (case q313 => k_is)
    (case l314 => k_is)
    (case c314 => k_is)
    (case k314 => k_is)
    (case q316 => k_is)
    (case q317 => k_is)
    (case l318 => k_is)
    (case c318 => k_is)
    (case k318 => k_is)
    (case q320 => k_is)
    (case q321 => k_is)
    (case l322 => k_is)
    (case c322 => k_is)
    (case k322 => k_is)
    (case q324 => k_is)
    (case q325 => k_is)
    (case l326 => k_is)
    (case c326 => k_is)
    (case k326 => k_is)
    (case q328 => k_is)
    (case q329 => k_is)
    (case l330 => k_is)
    (case c330 => k_is)
    (case k330 => k_is)
    (case q332 => k_is)
    (case q333 => k_is)
    (case l334 => k_is)
    (case c334 => k_is)
    (case k334 => k_is)
    (case q336 => k_is)
    (case q337 => k_is)
    (case l338 => k_is)
    (case c338 => k_is)
    (case k338 => k_is)
    (case q340 => k_is)
    (case q341 => k_is)
    (case l342 => k_is)
    (case c342 => k_is)
    (case k342 => k_is)
    (case q344 => k_is)
    (case q345 => k_is)
    (case l346 => k_is)
    (case c346 => k_is)
    (case k346 => k_is)
    (case q348 => k_is)
    (case q349 => k_is)
    (case l350 => k_is)
    (case c350 => k_is)
    (case k350 => k_is)
    (case q352 => k_is)
    (case q353 => k_is)
    (case l354 => k_is)
    (case c354 => k_is)
    (case k354 => k_is)
    (case q356 => k_is)
    (case q357 => k_is)
    (case l358 => k_is)
    (case c358 => k_is)
    (case k358 => k_is)
    (case z359 => k_is)
    (case q360 => k_is)
    (case q361 => k_is)
    (case q362 => k_is)
    (case q363 => k_is)
    (case q364 => (first | k_is | kernel_rfl))
    (case q365 => (first | k_is | kernel_rfl))
    (case q366 => (first | k_is | kernel_rfl))
    (case q367 => (first | k_is | kernel_rfl))
    (case q368 => k_is)
    (case q369 => k_is)
    (case q370 => k_is)
    (case q371 => k_is)
    (case q372 => (first | k_is | kernel_rfl))
    (case q373 => k_is)
    (case a375 => k_is)
    (case l376 => k_is)
    (case c376 => k_is)
    (case k376 => k_is)
    (case a378 => k_is)
    (case l379 => k_is)
    (case c379 => k_is)
    (case k379 => k_is)
    (case a381 => k_is)
    (case l382 => k_is)
    (case c382 => k_is)
    (case k382 => k_is)
    (case a384 => k_is)
    (case l385 => k_is)
    (case c385 => k_is)
    (case k385 => k_is)
    (case a387 => k_is)
    (case l388 => k_is)
    (case c388 => k_is)
    (case k388 => k_is)
    (case a390 => k_is)
    (case l391 => k_is)
    (case c391 => k_is)
    (case k391 => k_is)
    (case a393 => k_is)
    (case l394 => k_is)
    (case c394 => k_is)
    (case k394 => k_is)
    (case a396 => k_is)
    (case l397 => k_is)
    (case c397 => k_is)
    (case k397 => k_is)
    (case a399 => k_is)
    (case l400 => k_is)
    (case c400 => k_is)
    (case k400 => k_is)
    (case a402 => k_is)
    (case l403 => k_is)
    (case c403 => k_is)
    (case k403 => k_is)
    (case a405 => k_is)
    (case l406 => k_is)
    (case c406 => k_is)
    (case k406 => k_is)
    (case a408 => k_is)
    (case l409 => k_is)
    (case c409 => k_is)
    (case k409 => k_is)
    (case a411 => k_is)
    (case l412 => k_is)
    (case c412 => k_is)
    (case k412 => k_is)
    (case l413 => k_is)
    (case c413 => k_is)
    (case k413 => k_is)
    (case z414 => k_is)
    (case z415 => k_is)
    (case z416 => k_is)
    (case z417 => k_is)
    (case z418 => k_is)
    (case z419 => k_is)
    (case z420 => k_is)
    (case z421 => k_is)
    (case z422 => k_is)
    (case z423 => k_is)
    (case z424 => k_is)
    (case z425 => k_is)
    (case z426 => k_is)
    (case z427 => k_is)
#print axioms PySem.Challenge.cw_innercommits_k20_parts_of_libraries_holds
