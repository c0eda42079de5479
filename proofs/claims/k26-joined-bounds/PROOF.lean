import PyProof.Rows.All
import Wide.All
import OpenK.AllK
import Wide.FinOn
import HandS.ForMost
import HandS.EndBits
import HandS.Wide
import HandS.IsInst
import HandS.Style
import HandS.Walk
import HandS.ClsMeth
import HandS.Conv
import HandS.ForExc
import HandS.ExcInit
import HandS.CallSlots
import HandS.Defaults
import HandS.ExcField
import HandS.Property
import HandS.WordsExc
import HandS.TryMany
import KE.KExcSuper
import HandS.HotCalls
import HandS.Dict
import HandS.Set
import HandS.SetBool
import HandS.SetFor
import HandS.Strs
import HandS.More
import PyProof.Rows.SortShellAny
import PyProof.Rows.SetFrom
import PyProof.Rows.SetObj
import HandS.TryOnly
import KE.SortData
import HandS.TupAny
import HandS.DictComp
import HandS.MakeKwOnly
import HandS.Codes
import HandS.StrMore
import HandS.Text
import HandS.List
import HandS.WideBits
import HandS.SetKeys
import KE.KxIndex
import HandS.Star
import HandS.Set
import HandS.SetFor
import PySem.Challenge.RW_innercommits_k26_joined_bounds

set_option Elab.async false
set_option linter.all false
set_option maxRecDepth 100000
set_option maxHeartbeats 4000000
namespace Ic
open PySem L2
def top (i : Nat) : Stmt := PySem.Challenge.pw_innercommits_k26_joined_bounds.main.body.getD i (.Pass ⟨0, 0, 0, 0⟩)
abbrev P : Program := PySem.Challenge.pw_innercommits_k26_joined_bounds
/-! ### heaps -/
theorem sz_le {n m : Nat} (h : Nat.ble n m = true) : n ≤ m := Nat.le_of_ble_eq_true h
theorem sz_lt {n m : Nat} (h : Nat.blt n m = true) : n < m := Nat.le_of_ble_eq_true h
theorem upd_old {H : Hp} {p a : Addr} {o u : HO} (h : H a = some u) (hp : H p = none) : upd H p o a = some u := by
  rw [upd_ne (ne_of_none h hp)]; exact h
theorem upd_oth {H : Hp} {p a : Addr} {o u : HO} (hn : a ≠ p) (h : H a = some u) : upd H p o a = some u := by
  rw [upd_ne hn]; exact h
theorem cmul_l {i j : Int} (h : (decide (-(2 ^ 64) < i) && decide (i < 2 ^ 64)) = true) : CMul i j := by
  simp only [Bool.and_eq_true, decide_eq_true_eq] at h
  exact .inl h
theorem cmul_r {i j : Int} (h : (decide (-(2 ^ 64) < j) && decide (j < 2 ^ 64)) = true) : CMul i j := by
  simp only [Bool.and_eq_true, decide_eq_true_eq] at h
  exact .inr h
theorem cpow_lit {i j : Int} (h : (decide (0 ≤ j) && decide (j ≤ 1000000) && decide (i.natAbs < 2 ^ 64)) = true) : CPow i j := by
  simp only [Bool.and_eq_true, decide_eq_true_eq] at h
  exact ⟨h.1.1, h.1.2, h.2⟩
theorem cdiv_lit {i j : Int} (h : (decide (0 < j) && decide (j < 1073741824)) = true) : CDivW i j := by
  simp only [Bool.and_eq_true, decide_eq_true_eq] at h
  exact wide_div (b := 40) h.1 (by omega) (by decide) (by decide)
theorem none_upd {H : Hp} {p b : Addr} {o : HO} (h : upd H p o b = none) : b ≠ p ∧ H b = none := by
  by_cases e : b = p
  · rw [e, upd_same] at h; cases h
  · exact ⟨e, by rw [upd_ne e] at h; exact h⟩
/-- all that was tracked, but S, is as it was -/
def Kp (S : Addr → Prop) (H H' : Hp) : Prop := ∀ b u, H b = some u → ¬ S b → H' b = some u
theorem Kp.refl {S : Addr → Prop} {H : Hp} : Kp S H H := fun _ _ h _ => h
theorem Kp.trans {S : Addr → Prop} {H H1 H2 : Hp} (a : Kp S H H1) (b : Kp S H1 H2) : Kp S H H2 := fun c u h n => b c u (a c u h n) n
theorem Kp.new {S : Addr → Prop} {H H1 : Hp} {p : Addr} {o : HO} (a : Kp S H H1) (h : H1 p = none) : Kp S H (upd H1 p o) := fun c u e n => upd_old (a c u e n) h
theorem Kp.set {S : Addr → Prop} {H H1 : Hp} {p : Addr} {o : HO} (a : Kp S H H1) (h : S p) : Kp S H (upd H1 p o) := fun c u e n => upd_oth (fun z => n (z ▸ h)) (a c u e n)
theorem Kp.set1 {H H1 : Hp} {p : Addr} {o : HO} (a : Kp (fun b => b = p) H H1) : Kp (fun b => b = p) H (upd H1 p o) := a.set rfl
/-- p is none of H's -/
theorem Kp.fresh {S : Addr → Prop} {H H1 : Hp} {p : Addr} {o : HO} (a : Kp S H H1) (h : H p = none) : Kp S H (upd H1 p o) := fun c u e n => upd_oth (ne_of_none e h) (a c u e n)
theorem Kp.mono {S S' : Addr → Prop} {H H1 : Hp} (a : Kp S H H1) (h : ∀ b, S b → S' b) : Kp S' H H1 := fun c u e n => a c u e fun z => n (h c z)
theorem Kp.same {S : Addr → Prop} {H H1 H2 : Hp} (a : Same H H1) (b : Kp S H1 H2) (n : ∀ c, S c → H c = none) : Same H H2 := fun c u h => b c u (a c u h) fun z => by
  rw [n c z] at h; cases h
theorem Kp.of_same {S : Addr → Prop} {H H1 : Hp} (a : Same H H1) : Kp S H H1 := fun c u h _ => a c u h
theorem _root_.L2.Same.new {H H1 : Hp} {p : Addr} {o : HO} (a : Same H H1) (h : H1 p = none) : Same H (upd H1 p o) := fun c u e => upd_old (a c u e) h
theorem _root_.L2.Same.frsh {H H1 : Hp} {p : Addr} {o : HO} (a : Same H H1) (h : H p = none) : Same H (upd H1 p o) := fun c u e => upd_oth (ne_of_none e h) (a c u e)
theorem tyV_lst {K : PySem.W.Frag} {H : Hp} {p : Addr} {xs : List V} (h : SqL K H p xs) : tyV K "list" (.ref p) H := .inl ⟨rfl, xs, h⟩
class RdTy (α : Type) : Prop
instance : RdTy V := ⟨⟩
instance : RdTy Int := ⟨⟩
instance : RdTy Nat := ⟨⟩
instance : RdTy Bool := ⟨⟩
instance : RdTy Str := ⟨⟩
instance : RdTy HO := ⟨⟩
instance : RdTy Value := ⟨⟩
instance : RdTy Obj := ⟨⟩
instance {α : Type} : RdTy (List α) := ⟨⟩
instance {α : Type} : RdTy (Array α) := ⟨⟩
instance {α β : Type} : RdTy (Sum α β) := ⟨⟩
theorem exI {α : Type} [RdTy α] {p : α → Prop} (w : α) (h : p w) : Exists p := ⟨w, h⟩
/-! ### the pool -/
def PoolO (o : HO) (c : Nat) : Prop := ∃ a b n : Int, o = .lst [.int a, .int b, .int n] ∧ 0 ≤ a ∧ 0 ≤ b ∧ b < 2 ^ 62 ∧ 0 ≤ n ∧ n ≤ c
def PoolAt (H : Hp) (p : Addr) (c : Nat) : Prop := ∃ o, H p = some o ∧ PoolO o c
theorem PoolO.mono {o : HO} {c d : Nat} (h : PoolO o c) (l : c ≤ d) : PoolO o d := by
  obtain ⟨a, b, n, e, h1, h2, h3, h4, h5⟩ := h
  exact ⟨a, b, n, e, h1, h2, h3, h4, by omega⟩
def spPool (K : PySem.W.Frag) : Sp := fun vs H Q _ => ∃ (a : Addr) (ns : List Int) (i : Nat), vs = [.ref a, .int (i : Int)] ∧ SqL K H a (ns.map V.int) ∧ i < 1000 ∧
  ∀ p o, H p = none → PoolO o 0 → Q (.ref p) (upd H p o)
def spDraw : Sp := fun vs H Q _ => ∃ (p : Addr) (m : Int) (c : Nat) (o : HO), vs = [.ref p, .int m] ∧ H p = some o ∧ PoolO o c ∧ 0 < m ∧ m < 2 ^ 200 ∧ c < 2 ^ 40 ∧
  ∀ r o', 0 ≤ r → r < m → PoolO o' (c + 1) → Q (.int r) (upd H p o')
local macro_rules | `(tactic| walk_at "hp") => `(tactic| first | with_reducible assumption | with_reducible exact upd_same | (with_reducible apply upd_old; (focus (walk_at "hp")); (focus with_reducible assumption)) | (with_reducible apply upd_oth; (focus (first | with_reducible assumption | (with_reducible apply Ne.symm; with_reducible assumption))); walk_at "hp"))
local macro_rules | `(tactic| walk_at "sq") => `(tactic| first | with_reducible assumption | (with_reducible apply SqL.of; walk_at "hp") | (with_reducible apply SqT.of; walk_at "hp"))
local macro_rules | `(tactic| walk_at "side") => `(tactic| first | with_reducible assumption | exact ⟨_, rfl⟩ | walk_at "hp" | walk_at "sq" | (with_reducible apply tyV_lst; walk_at "sq") | (with_reducible apply Or.inl; walk_at "sq") | (with_reducible apply Or.inr; walk_at "sq") | with_reducible exact cmul_l (by decide) | with_reducible exact cmul_r (by decide) | with_reducible exact cpow_lit (by decide) | with_reducible exact cdiv_lit (by decide) | decide | exact sz_le rfl | exact sz_lt rfl | omega)
local macro_rules | `(tactic| walk_at "kp") => `(tactic| first | with_reducible assumption | with_reducible exact Kp.refl | (with_reducible apply Kp.set1; walk_at "kp") | (with_reducible apply Kp.new; (focus (walk_at "kp")); (focus with_reducible assumption)) | (with_reducible apply Kp.fresh; (focus (walk_at "kp")); (focus with_reducible assumption)))
local macro_rules | `(tactic| walk_at "rd1") => `(tactic| first
  | refine And.intro rfl ?_
  | apply exI
  | (refine Or.inl ?_; apply exI; refine And.intro rfl ?_)
  | (refine Or.inr ?_; apply exI; refine And.intro rfl ?_)
  | (refine And.intro ?_ ?_; (focus (walk_at "side"))))
local macro_rules | `(tactic| walk_at "rd") => `(tactic| repeat (walk_at "rd1"))
/-! ### further rules: a staticmethod called off its class, list of a text -/
/-- C.m is a staticmethod: its record at p, its def at f -/
structure SMet (K : PySem.W.Frag) (C : Addr) (mc : Value) (m : Str) (p f : Addr) : Prop where
  at_ : PySem.W.findCls K (.ref C) mc m = some (.get (.builtin "staticmethod.__get__") (.ref p) .none (.ref C))
  rc : ∃ rest, PySem.W.recIn K p "staticmethod" = some (.ref f :: rest)
def tSMeth (C : Addr) (sp : Sp) (dvs : List V) (E : XK) (ta : TE) (t : TA) : TE := fun σ H Q => ta σ H fun x H1 => x = .ref C ∧ t σ H1 fun vs H2 => sp (vs ++ dvs) H2 Q E
theorem pe_smeth {X : Cx} {CX : CXT} {k : Nat} {C p f : Addr} {fd : FuncData} {ps : List Str} {ds : List Value} {dvs : List V} {mc : Value} {sp : Sp} {E : XK} {o e : Expr} {es : List Expr} {m : Str} {pos apos : Pos} {ta : TE} {t : TA} {pl : Sem Bool}
    (he : PE X o ta) (r : ClX.CRead X.K C mc) (c : SMet X.K C mc m p f) (F : FnOk X.prog X.w X.K X.mg X.base CX k f fd ps sp) (hr : Room k X.A) (hk : PySem.W.keepIn X.K (.ref f) = true) (hb : Binds X.K fd ps ds) (hd : Vals dvs ds) (hx : Passes CX X E) (ha : PA X (e :: es) t)
    (hst : starEach (e :: es) X.env = (false, eval e X.env) :: starEach es X.env := by rfl) (hpl : (backTo pos (starEach es X.env)).any (·.1) = false := by rfl)
    (ht : eval (.Call (.Attribute o m apos) (e :: es) [] pos) X.env = (do
      let ov ← eval o X.env
      standAt apos.atName
      let (f, first) ← holding [ov] (getMethod ov m pl)
      callWith pos f first (backTo pos (starEach (e :: es) X.env)) (backToKw pos (keywordEach [] X.env))) := by rfl) :
    PE X (.Call (.Attribute o m apos) (e :: es) [] pos) (tSMeth C sp dvs E ta t) := by
  refine ⟨fun pins s σ H Q I h => ?_⟩
  refine PySem.W.methodCall_KW (pl := pl) (thn (he.run pins s σ H _ I h) fun u s1 ⟨x, H1, I1, rx, ex, q⟩ => ?_) ht
  subst ex
  obtain rfl : u = Value.ref C := rx
  obtain ⟨rest, hp⟩ := c.rc
  refine PySem.W.method_cls I1.kIn r.ga (PySem.W.cls_bind I1.kIn r.rd c.at_ ?_)
  refine wpAny_call (PySem.W.sm_get (s := { s1 with toks := s1.toks + 1 }) I1.kIn hp (PySem.W.handed_on rfl ?_))
  have I2 := I1.tok (s1.toks + 1)
  refine PySem.W.callWith_K (h₀ := X.base) (first := []) I2.ok.mod.kin hk (thn (ha.run pos pins _ σ H1 _ I2 q) fun us s3 ⟨vs, H2, I3, rv, q2⟩ => ⟨I3.kIn, ?_⟩) hst hpl
  exact run_fn F hr hb hd hx I3 rv q2
theorem call_list_text {X : Cx} (hc : X.calm = true) : CallR X (.type "list") (fun xs H Q => ∃ z : Str, xs = [.str z] ∧ z.length ≤ sizeLine ∧ ∀ l, H l = none → Q (.ref l) (upd H l (.lst (z.cps.toList.map fun c => .str ⟨#[c]⟩)))) := by
  intro pins s σ H xs us Q I r h
  obtain ⟨z, rfl, hz, q⟩ := h
  obtain ⟨u, rfl, t, rfl⟩ := vals1 r
  refine call_list_str (I.ok.hd hc) z t (fun h' tk acc c' kp e it => ?_) hz
  have hv : Vals (z.cps.toList.map fun c => V.str ⟨#[c]⟩) acc.toList := by
    refine vals_of_at (by rw [List.length_map, Array.length_toList, Array.length_toList, it.1]) fun j x u e1 e2 => ?_
    rw [Array.getElem?_toList] at e2
    obtain ⟨c, tk, hc1, rfl⟩ := it.2 j u e2
    rw [List.getElem?_map, Array.getElem?_toList, hc1] at e1
    cases e1
    exact ⟨tk, rfl⟩
  refine ⟨.ref s.heap.objs.size, _, I.laid (o := .lst (z.cps.toList.map fun c => V.str ⟨#[c]⟩)) (t' := tk) kp (Nat.le_refl _) ?_, rfl, q _ (I.hok.fresh (Nat.le_refl _))⟩
  exact ⟨by rw [List.length_map, Array.length_toList]; exact hz, acc.toList, c', hv, by simpa using e⟩
/-! ### data: == of lists and tuples -/
theorem eqvAll_nil {ds : List PyData} : PyData.eqvAll ds [] = ds.isEmpty := by
  cases ds <;> rfl
def asc (z : Str) : Prop := ∀ c ∈ z.cps.toList, c < 128
theorem asc_ok {z : Str} (h : asc z) : PyData.strOk z = true := by
  unfold PyData.strOk
  rw [Array.all_eq_true]
  intro i hi
  have := h z.cps[i] (by rw [Array.mem_toList_iff]; exact Array.getElem_mem hi)
  simp; omega
theorem dp_strs {K : PySem.W.Frag} {H : Hp} : ∀ ys : List Str, DpAll K H (ys.map V.str) (ys.map PyData.str)
  | [] => .nil
  | y :: r => .cons (.str y) (dp_strs r)
theorem lay_strs : ∀ {ys : List Str}, (∀ y ∈ ys, asc y) → PyData.canLayAll0 (ys.map PyData.str) = true
  | [], _ => rfl
  | y :: r, h => by
    show (PyData.strOk y && PyData.canLayAll0 (r.map PyData.str)) = true
    rw [asc_ok (h y List.mem_cons_self), lay_strs fun z hz => h z (List.mem_cons_of_mem _ hz)]; rfl
theorem depth_strs : ∀ ys : List Str, PyData.depthAll (ys.map PyData.str) = 0
  | [] => rfl
  | y :: r => by
    show max 0 (PyData.depthAll (r.map PyData.str)) = 0
    rw [depth_strs r]; rfl
theorem shaped_strs {ys : List Str} (h : ∀ y ∈ ys, asc y) : SeqAt.shaped (.list (ys.map PyData.str)) = true := by
  show (PyData.canLayAll0 (ys.map PyData.str) && decide (PyData.depthAll (ys.map PyData.str) + 1 ≤ 64)) = true
  rw [lay_strs h, depth_strs]; rfl
/-! ### letters -/
def Lets (cs : List Nat) : Prop := ∀ c ∈ cs, 97 ≤ c ∧ c ≤ 122
def chr1 (c : Nat) : Str := ⟨#[c]⟩
structure IsWord (w : Str) : Prop where
  lo : 1 ≤ w.cps.toList.length
  hi : w.cps.toList.length ≤ 8
  al : Lets w.cps.toList
def alpha : Str := "abcdefghijklmnopqrstuvwxyz"
theorem alpha_all : ∀ n : Nat, n < 26 → alpha.cps.toList[n]? = some (97 + n) := by
  have h : (List.range 26).all (fun n => decide (alpha.cps.toList[n]? = some (97 + n))) = true := by decide +kernel
  intro n hn
  exact of_decide_eq_true (List.all_eq_true.mp h n (List.mem_range.mpr hn))
theorem alpha_at {r : Int} (h0 : 0 ≤ r) (h1 : r < 26) : atI alpha.cps.toList r = some (97 + r.toNat) := by
  have e : ((r.toNat : Nat) : Int) = r := by omega
  have h := atI_nat (alpha_all r.toNat (by omega))
  rw [e] at h
  exact h
theorem join_chr : ∀ cs : List Nat, Txt.join (Str.ofString "") (cs.map chr1) = ⟨cs.toArray⟩ := by
  intro cs
  show Builtin.Str.glued (Str.ofString "") (cs.map chr1) = _
  rw [StrLaws.glued_eq_join]
  have e0 : (Str.ofString "") = Str.empty := by decide +kernel
  rw [e0]
  induction cs with
  | nil => rfl
  | cons c r ih =>
    cases r with
    | nil => rfl
    | cons b r =>
      show chr1 c ++ Str.empty ++ Str.join Str.empty ((b :: r).map chr1) = _
      rw [ih]
      show (⟨(#[c] ++ #[]) ++ (b :: r).toArray⟩ : Str) = ⟨(c :: b :: r).toArray⟩
      simp
theorem sum_chr : ∀ cs : List Nat, ((cs.map chr1).map (·.length)).sum = cs.length
  | [] => rfl
  | c :: r => by
    show 1 + ((r.map chr1).map (·.length)).sum = r.length + 1
    rw [sum_chr r]; omega
theorem alpha_len : alpha.length ≤ sizeLine := by decide +kernel
/-- [letters[draw(pool, 26)] for k in range(n)] -/
theorem lc_letters {n i0 i1 ik : Nat} {σ : St} {H1 : Hp} {D p : Addr} {o : HO} {c : Nat} {Qd : Hp → Prop} (hD : H1 D = none) (hp : H1 p = some o) (hc : PoolO o c) (hb : c + n < 2 ^ 40) (hn : n < 1000000)
    (s0 : σ[i0]? = some (some (.ref p))) (s1 : σ[i1]? = some (some (.str alpha))) (n0 : i0 ≠ ik) (n1 : i1 ≠ ik)
    (q : ∀ H' cs o', cs.length = n → Lets cs → Kp (fun b => b = p) H1 H' → H' p = some o' → PoolO o' (c + n) → H' D = some (.lst ((cs.map chr1).map V.str)) → Qd H') :
    ∃ W : Nat → Nat → Hp → Prop, (∃ m, W 0 m (upd H1 D (.lst []))) ∧ ∀ i m H, W i m H →
      ((Itr 0 n).stop i H ∧ Qd H) ∨ ((Itr 0 n).go i H ∧ ∃ Nx : Hp → Prop, (∀ H', Nx H' → ∃ m', m' < m ∧ W (i + 1) m' H') ∧ ∀ x H', (Itr 0 n).yld i H x H' → gName ik x (wipe σ [ik]) H' fun σ2 H2 => wipe σ2 [ik] = wipe σ [ik] ∧ tYes σ2 H2 fun b H3 =>
        if b = true then tOp rIxS (tVar i1) (tCall spDraw [] E0 (tCons (tVar i0) (tCons (tC (.int 26)) tNil))) σ2 H3 fun y H4 => ∃ acc, H4 D = some (.lst acc) ∧ acc.length < sizeLine ∧ Nx (upd H4 D (.lst (acc ++ [y]))) else Nx H3) := by
  have npD : p ≠ D := ne_of_none hp hD
  have w0 : ∀ v, ((wipe σ [ik]).set ik (some v))[i0]? = some (some (.ref p)) := fun v => by
    rw [List.getElem?_set_ne (Ne.symm n0), wipe_out (by simp [n0])]; exact s0
  have w1 : ∀ v, ((wipe σ [ik]).set ik (some v))[i1]? = some (some (.str alpha)) := fun v => by
    rw [List.getElem?_set_ne (Ne.symm n1), wipe_out (by simp [n1])]; exact s1
  refine lc_range (fun i H => ∃ cs o', cs.length = i ∧ Lets cs ∧ Kp (fun b => b = p) H1 H ∧ H p = some o' ∧ PoolO o' (c + i) ∧ H D = some (.lst ((cs.map chr1).map V.str))) ?_ ?_ ?_
  · exact ⟨[], o, rfl, (fun _ h => nomatch h), Kp.refl.new hD, upd_old hp hD, hc, upd_same⟩
  · rintro i H hi ⟨cs, o', e1, e2, e3, e4, e5, e6⟩
    refine ⟨?_, ?_⟩
    · show wipe ((wipe σ [ik]).set ik _) [ik] = wipe σ [ik]
      show (((σ.set ik none).set ik _).set ik none) = σ.set ik none
      rw [List.set_set, List.set_set]
    · refine ⟨_, w1 _, _, w0 _, p, 26, c + i, o', rfl, e4, e5, by decide, by decide, by omega, fun r o2 r0 r1 h2 => ?_⟩
      refine ⟨alpha, r, _, rfl, rfl, alpha_len, alpha_at r0 r1, (cs.map chr1).map V.str, upd_oth (Ne.symm npD) e6, ?_, ?_⟩
      · rw [List.length_map, List.length_map, e1, sizeLine_eq]; omega
      · refine ⟨cs ++ [97 + r.toNat], o2, ?_, ?_, ?_, ?_, h2, ?_⟩
        · rw [List.length_append, e1]; rfl
        · intro x hx
          rcases List.mem_append.mp hx with h | h
          · exact e2 x h
          · rw [List.mem_singleton] at h
            subst h
            omega
        · exact (e3.set rfl).fresh hD
        · exact upd_oth npD upd_same
        · rw [upd_same, List.map_append, List.map_append]; rfl
  · rintro H ⟨cs, o', e1, e2, e3, e4, e5, e6⟩
    exact q H cs o' e1 e2 e3 e4 e5 e6
def spWord : Sp := fun vs H Q _ => ∃ (p : Addr) (c : Nat) (o : HO), vs = [.ref p] ∧ H p = some o ∧ PoolO o c ∧ c < 2 ^ 39 ∧
  ∀ w o' H', IsWord w → PoolO o' (c + 9) → H' p = some o' → Kp (fun b => b = p) H H' → Q (.str w) H'
/-! ### words -/
def okC (c : Nat) : Bool := decide (97 ≤ c) && decide (c ≤ 122)
def wordS (z : Str) : Bool := decide (1 ≤ z.length) && decide (z.length ≤ 8) && z.cps.toList.all okC
def wordB : V → Bool
  | .str z => wordS z
  | _ => false
inductive Thing (H : Hp) : V → Prop
  | str (z : Str) (h : z.length ≤ 1000) (ha : asc z) : Thing H (.str z)
  | int (i : Int) : Thing H (.int i)
  | bl (b : Bool) : Thing H (.bl b)
  | non : Thing H .non
  | lst {p : Addr} {xs : List V} (h : H p = some (.lst xs)) : Thing H (.ref p)
  | tup {p : Addr} {xs : List V} (h : H p = some (.tup xs)) : Thing H (.ref p)
theorem Thing.same {H H' : Hp} {v : V} (s : Same H H') (t : Thing H v) : Thing H' v := by
  cases t with
  | str z h ha => exact .str z h ha
  | int i => exact .int i
  | bl b => exact .bl b
  | non => exact .non
  | lst h => exact .lst (s _ _ h)
  | tup h => exact .tup (s _ _ h)
def strB : V → Bool
  | .str _ => true
  | _ => false
theorem Thing.isi {K : PySem.W.Frag} {H : Hp} {v : V} (t : Thing H v) : ∃ ty, TyX K H v ty ∧ PySem.W.kitOne K ty (.type "str") = some (strB v) := by
  cases t with
  | str z h ha => exact ⟨_, .base (.str z), kit_ty (show kitB "str" "str" = some true by decide +kernel)⟩
  | int i => exact ⟨_, .base (.int i), kit_ty (show kitB "int" "str" = some false by decide +kernel)⟩
  | bl b => exact ⟨_, .base (.bl b), kit_ty (show kitB "bool" "str" = some false by decide +kernel)⟩
  | non => exact ⟨_, .base .non, kit_ty (by decide +kernel)⟩
  | lst h => exact ⟨_, .base (.lst h), kit_ty (show kitB "list" "str" = some false by decide +kernel)⟩
  | tup h => exact ⟨_, .base (.tup h), kit_ty (show kitB "tuple" "str" = some false by decide +kernel)⟩
theorem list1_lt (a b : Nat) : ([a] : List Nat) < [b] ↔ a < b := by
  constructor
  · intro h
    cases h with
    | rel h => exact h
    | cons h => cases h
  · intro h
    exact .rel h
theorem le_a (c : Nat) : (!decide ((⟨#[c]⟩ : Str).cps.toList < (Str.ofString "a").cps.toList)) = decide (97 ≤ c) := by
  have e : (Str.ofString "a").cps.toList = [97] := by decide +kernel
  rw [e, ← decide_not]
  apply decide_eq_decide.mpr
  show ¬ ([c] < [97]) ↔ _
  rw [list1_lt]; omega
theorem le_z (c : Nat) : (!decide ((Str.ofString "z").cps.toList < (⟨#[c]⟩ : Str).cps.toList)) = decide (c ≤ 122) := by
  have e : (Str.ofString "z").cps.toList = [122] := by decide +kernel
  rw [e, ← decide_not]
  apply decide_eq_decide.mpr
  show ¬ ([122] < [c]) ↔ _
  rw [list1_lt]; omega
theorem all_take {α : Type} {p : α → Bool} {l : List α} {i : Nat} {x : α} (h : l[i]? = some x) (a : (l.take i).all p = true) (b : p x = true) : (l.take (i + 1)).all p = true := by
  rw [List.take_add_one, h, List.all_append, a, Bool.true_and]
  show ([x] : List α).all p = true
  rw [List.all_cons, b]; rfl
theorem all_no {α : Type} {p : α → Bool} {l : List α} {i : Nat} {x : α} (h : l[i]? = some x) (b : p x = false) : l.all p = false := by
  cases e : l.all p with
  | false => rfl
  | true =>
    rw [List.all_eq_true.mp e x (List.mem_of_getElem? h)] at b
    cases b
theorem len_toList (z : Str) : z.cps.toList.length = z.length := by simp [Str.length]
theorem IsWord.ok {w : Str} (h : IsWord w) : wordS w = true := by
  unfold wordS
  rw [← len_toList, decide_eq_true h.lo, decide_eq_true h.hi, Bool.true_and, Bool.true_and, List.all_eq_true]
  intro c hc
  have := h.al c hc
  unfold okC
  rw [decide_eq_true this.1, decide_eq_true this.2]; rfl
theorem wordS_of {z : Str} (h : wordS z = true) : IsWord z := by
  unfold wordS at h
  rw [Bool.and_eq_true, Bool.and_eq_true, decide_eq_true_eq, decide_eq_true_eq, List.all_eq_true] at h
  refine ⟨by rw [len_toList]; exact h.1.1, by rw [len_toList]; exact h.1.2, fun c hc => ?_⟩
  have := h.2 c hc
  unfold okC at this
  rw [Bool.and_eq_true, decide_eq_true_eq, decide_eq_true_eq] at this
  exact this
def spIsWord : Sp := fun vs H Q _ => ∃ v, vs = [v] ∧ Thing H v ∧ Q (.bl (wordB v)) H
/-! ### own errors: an __init__ that says super().__init__(text) and stores fields -/
/-- the stores of an __init__: self.F = a parameter | a text -/
inductive Sts (ps : List Str) : List Stmt → List (Str × Sum Nat Str) → Prop
  | nil : Sts ps [] []
  | par {F p : Str} {i : Nat} {q1 q2 q3 q4 : Pos} {r : List Stmt} {fs : List (Str × Sum Nat Str)} (h : ps[i]? = some p) (t : Sts ps r fs) : Sts ps (.Assign [.Attribute (.Name "self" q1) F q2] (.Name p q3) q4 :: r) ((F, .inl i) :: fs)
  | con {F c : Str} {j : Nat} {q1 q2 q3 q4 : Pos} {r : List Stmt} {fs : List (Str × Sum Nat Str)} (t : Sts ps r fs) : Sts ps (.Assign [.Attribute (.Name "self" q1) F q2] (.Constant (.str c) j q3) q4 :: r) ((F, .inr c) :: fs)
def fldV (vs : List V) : Sum Nat Str → V
  | .inl i => vs.getD i .non
  | .inr c => .str c
def errF (vs : List V) : List (Str × Sum Nat Str) → List (Str × V) → List (Str × V)
  | [], acc => acc
  | p :: r, acc => errF vs r ((p.1, fldV vs p.2) :: acc)
/-- an exception while its __init__ runs -/
structure ErrAt (h0 h : Heap) (x C L : Addr) (m : Str → Option Value) (acc : List (Str × V)) (dd : Option Addr) : Prop where
  keep : ∀ b o, b ≠ x → h0.get? b = some o → h.get? b = some o
  sz : h0.objs.size ≤ h.objs.size
  ns : h.Ns L m
  obj : ∃ t1 : Addr, h.get? x = some ({ cls := .ref C, dict := dd, data := .fields #[.ref t1, .none, .none, .none, .bool false, .none] } : Obj)
  dct : match dd with | none => acc = [] | some dx => acc ≠ [] ∧ h0.objs.size ≤ dx ∧ dx ≠ x ∧ dx ≠ L ∧ ∃ mA, h.Ns1 dx mA ∧ ∀ f, RelO (acc.lookup f) (mA f)
theorem kept_but {K : PySem.W.Frag} {h h' : Heap} {x : Addr} (X : K.In h) (hx : K.lookup x = none) (k : ∀ b o, b ≠ x → h.get? b = some o → h'.get? b = some o) : K.In h' := fun a o e =>
  k a o (fun z => by rw [z, hx] at e; cases e) (X a o e)
/-- what the written part says of an error's class, at C; its __init__ at fI -/
structure ErrC (P : Program) (K : PySem.W.Frag) (C fI : Addr) (st : Stmt) (q : Str) (ps : List Str) (fs : List (Str × Sum Nat Str)) : Prop where
  cls : ∃ nm qn N bs bm sn sub ab col dd k0 k1 k2 k3 k5, K.lookup C = some (excClassObj nm qn C N bs bm true sn sub ab col dd k0 k1 k2 k3 k5 "ValueError.__new__") ∧ PySem.HandSPX.refsVE bm = true
  sa : PySem.W.findIn K (.ref C) "__setattr__" = some (some (.builtin "object.__setattr__"))
  ga : PySem.W.findIn K (.ref C) "__getattribute__" = some (some (.builtin "BaseException.__getattribute__"))
  gg : PySem.W.findIn K (.ref C) "__getattr__" = some none
  noF : ∀ p ∈ fs, PySem.W.findIn K (.ref C) p.1 = some none
  iC : PySem.W.findIn K (.ref C) "__init__" = some (some (.ref fI))
  tC : PySem.W.typeIn K (.ref fI) = some (.type "function")
  kC : PySem.W.keepIn K (.ref C) = true
  exC : PySem.W.subIn K (.ref C) (.type "BaseException") = some true
  veC : PySem.W.subIn K (.ref C) (.type "ValueError") = some true
  tyC : PySem.W.typeIn K (.ref C) = some (.type "type")
  hdC : PySem.W.hasDictIn K C = true
  su : PySem.W.ks_superIn K C C "__init__" = some (some (.builtin "ValueError.__init__"))
  mro : PySem.W.mroIn K C (.ref C) = some true
  te : PySem.W.exmOne K (.ref C) (.ref C) = some true
  op : PySem.W.nsIn K cStatics "thirdparty.any" = some none
  fn : ∃ (oc : Value) (od : Option Addr) (doc pm : Value) (an : Option Addr) (cda cc : Addr) (ct : Value) (osl : Array (Option Value)) (ccl : Value) (cdd : Option Addr) (vs : Array Value) (ccs : Array (Option Value)) (tf : Tok) (cl : Value) (cld : Option Addr) (csl : Array (Option Value)),
    K.lookup fI = some ⟨oc, od, .func (PySem.W.ksFn "__init__" q (defArgs st) (defBody st) (defScope st) .none .none doc pm an (.ref cda) ct cc), osl⟩ ∧ PySem.W.codeIn K (.ref cda) q = true ∧
    K.lookup cda = some ⟨ccl, cdd, .fields vs, ccs⟩ ∧ vs[2]? = some (.str P.main.file tf) ∧ K.lookup cc = some ⟨cl, cld, .cell (some (.ref C)), csl⟩
  hd : ∃ ar : Arg, ((defArgs st).posonlyargs ++ (defArgs st).args).head? = some ar ∧ ar.arg = "self"
  bd : ∀ (doc pm : Value) (an : Option Addr) (cda cc : Addr) (ct : Value) (us : List Value), us.length = ps.length + 1 → bindArgs (PySem.W.ksFn "__init__" q (defArgs st) (defBody st) (defScope st) .none .none doc pm an (.ref cda) ct cc) ⟨us, []⟩ = pure ((("self" : Str) :: ps).zip us)
  bo : ∃ (p0 p1 p2 p3 p4 p5 : Pos) (j : Nat) (msg : Str) (sts : List Stmt), defBody st = .Expr (.Call (.Attribute (.Call (.Name "super" p0) [] [] p1) "__init__" p2) [.Constant (.str msg) j p3] [] p4) p5 :: sts ∧ Sts ps sts fs ∧
    ∀ (L cda cc : Addr), ∃ pl : Sem Bool, eval (.Call (.Attribute (.Call (.Name "super" p0) [] [] p1) "__init__" p2) [.Constant (.str msg) j p3] [] p4) (PySem.W.ksEnv q (defScope st) L fI (.ref cda) cc) = (do
      let ov ← attributeBase (.Call (.Name "super" p0) [] [] p1) "__init__" (PySem.W.ksEnv q (defScope st) L fI (.ref cda) cc) (eval (.Call (.Name "super" p0) [] [] p1) (PySem.W.ksEnv q (defScope st) L fI (.ref cda) cc))
      standAt p2.atName
      let (f, first) ← holding [ov] (getMethod ov "__init__" pl)
      callWith p4 f first (backTo p4 (starEach [.Constant (.str msg) j p3] (PySem.W.ksEnv q (defScope st) L fI (.ref cda) cc))) [])
  sck : (defScope st).kind = .function
  scc : (defScope st).isCoroutine = false
  scg : (defScope st).isGenerator = false
  scn : ∀ x ∈ (defScope st).names, x.2 ≠ .cell
  scl : ∀ x ∈ (("self" : Str) :: ps), (defScope st).names.lookup x = some .local
  scs : (defScope st).names.lookup ("super" : Str) = some .globalImplicit
  scf : (defScope st).names.lookup ("__class__" : Str) = some .free
  nd : (("self" : Str) :: ps).Nodup
  top : (P.main.scope.names.lookup ("super" : Str)).isSome = false
section
open PySem PySem.W PySem.Calls PyProof.Rows PySem.HandSPX
variable {prog : Program} {w : World} {A : Around} {K : PySem.W.Frag} {C fI : Addr} {st : Stmt} {q : Str} {ps : List Str} {fs : List (Str × Sum Nat Str)}
theorem err_stores (T : ErrC prog K C fI st q ps fs) {h0 : Heap} {x L : Addr} {m : Str → Option Value} {vs : List V} {env : Env} {E : Value → Shared → Prop} (X0 : K.In h0) (hnx : K.lookup x = none) (hLx : L ≠ x)
    (hself : m "self" = some (.ref x)) (hpar : ∀ (i : Nat) p, ps[i]? = some p → ∃ v u, vs[i]? = some v ∧ RelV v u ∧ m p = some u)
    (hk : env.scope.kind = .function) (hlo : env.locals = L) (hkl : ∀ y ∈ (("self" : Str) :: ps), env.kindOf y = some .local) (hdb : ∀ y ∈ (("self" : Str) :: ps), (y == ("__debug__" : Str)) = false) :
    ∀ {sts : List Stmt} {fs' : List (Str × Sum Nat Str)}, Sts ps sts fs' → (∀ p ∈ fs', p ∈ fs) → ∀ {acc : List (Str × V)} {dd : Option Addr} {s : Shared} {Q : Flow → Shared → Prop}, ErrAt h0 s.heap x C L m acc dd → acc.length + fs'.length ≤ 100 →
      (∀ h' tk dd', ErrAt h0 h' x C L m (errF vs fs' acc) dd' → Q .next { s with heap := h', toks := tk }) → wpAny (model prog w) A (execs sts env) Q E s := by
  obtain ⟨nm, qn, N, bs, bm, sn, sub, ab, col, dd0, k0, k1, k2, k3, k5, hC, hbm⟩ := T.cls
  have hcl : clsIn K C = some { name := nm, bases := bs, mro := .ref C :: bm, ns := N, qualname := qn, hasDict := true, slotNames := sn, subclasses := sub, abstract := ab, collection := col, hasDel := false } := by unfold clsIn; rw [hC] <;> rfl
  have ldl : ∀ {y : Str} {u : Value} {pos : Pos} {s : Shared} {Q : Value → Shared → Prop}, y ∈ (("self" : Str) :: ps) → s.heap.Ns L m → m y = some u → Q u s → wpAny (model prog w) A (eval (.Name y pos) env) Q E s :=
    fun {y u pos s Q} hy hn hv h => wpAny_Name (wpAny_loadName_local hk (hkl y hy) (by rw [hlo]; exact hn) hv h) (hdb y hy)
  have hsf : ("self" : Str) ∈ (("self" : Str) :: ps) := List.mem_cons_self
  -- one store
  have one : ∀ {F : Str} {y : V} {u : Value} {acc : List (Str × V)} {dd : Option Addr} {s : Shared} {Q : Unit → Shared → Prop}, findIn K (.ref C) F = some none → RelV y u → ErrAt h0 s.heap x C L m acc dd → acc.length ≤ 99 →
      (∀ h' tk dd', ErrAt h0 h' x C L m ((F, y) :: acc) dd' → Q () { s with heap := h', toks := tk }) → wpAny (model prog w) A (setAttr (.ref x) F u) Q E s := by
    intro F y u acc dd s Q hF ry S hl hq
    obtain ⟨kp, sz, hn, ⟨t1, hx⟩, hd⟩ := S
    have X : K.In s.heap := kept_but X0 hnx kp
    obtain ⟨hp, g, d, tk, os⟩ := s
    obtain ⟨oL, esL, epL, hoL, hrL⟩ := id hn
    cases dd with
    | none =>
      have hd : acc = [] := hd
      subst hd
      refine set_plain X (ox := excO C t1) (od := none) ⟨hx, rfl, rfl, trivial⟩ T.sa ?_
      refine exc_osa X hx hcl (show refsVE (.ref C :: bm) = true from hbm) rfl hF (fun h₃ tk₃ dx k₃ dn dne hx₃ hn₃ => ?_)
      have dL : dx ≠ L := fun z => by
        have := Heap.lt_size hoL
        rw [← z] at this
        exact absurd (Nat.lt_of_lt_of_le this dn) (Nat.lt_irrefl _)
      have z3 : dx < h₃.objs.size := by
        obtain ⟨o, _, _, e, _⟩ := hn₃
        exact Heap.lt_size e
      refine hq h₃ tk₃ (some dx) ⟨fun b o hb e => k₃ b o hb (kp b o hb e), Nat.le_of_lt (Nat.lt_of_le_of_lt (Nat.le_trans sz dn) z3), ⟨oL, esL, epL, k₃ _ _ hLx hoL, hrL⟩, ⟨t1, hx₃⟩, ?_⟩
      exact ⟨List.cons_ne_nil _ _, Nat.le_trans sz dn, dne, dL, _, hn₃, relO_put (fs := []) ry fun g => True.intro⟩
    | some dx =>
      obtain ⟨_, d1, d2, d3, mA, hns, rel⟩ := hd
      have hw := within_of rel
      obtain ⟨oD, _, _, hoD, _, _⟩ := hns.count hw
      refine set_plain X (ox := { cls := .ref C, dict := some dx, data := .fields #[.ref t1, .none, .none, .none, .bool false, .none] }) (od := some oD) ⟨hx, rfl, rfl, hoD⟩ T.sa ?_
      refine PySem.OEX.osa_old X hx hns hw (by rw [List.length_map]; omega) hcl (show refsVE (.ref C :: bm) = true from hbm) rfl hF (fun h' tk' k hn' => ?_)
      have z3 : dx < h'.objs.size := by
        obtain ⟨o, _, _, e, _⟩ := hn'
        exact Heap.lt_size e
      refine hq h' tk' (some dx) ⟨fun b o hb e => k b o (fun z => ?_) (kp b o hb e), Nat.le_of_lt (Nat.lt_of_le_of_lt d1 z3), ⟨oL, esL, epL, k _ _ (Ne.symm d3) hoL, hrL⟩, ⟨t1, k _ _ (Ne.symm d2) hx⟩, ⟨List.cons_ne_nil _ _, d1, d2, d3, _, hn', relO_put ry rel⟩⟩
      have := Heap.lt_size e
      rw [z] at this
      exact absurd (Nat.lt_of_lt_of_le this d1) (Nat.lt_irrefl _)
  intro sts fs' S
  induction S with
  | nil =>
    intro hfs acc dd s Q S hl hq
    exact wpAny_execs_nil (by have := hq s.heap s.toks dd S; exact this)
  | @par F p i q1 q2 q3 q4 r fs1 h t ih =>
    intro hfs acc dd s Q S hl hq
    obtain ⟨v, u, hv, ru, hm⟩ := hpar i p h
    have hp : p ∈ (("self" : Str) :: ps) := List.mem_cons_of_mem _ (List.mem_of_getElem? h)
    refine wpAny_execs_cons (plainObj_wpAny_Assign_Attribute ?_)
    refine ldl hp S.ns hm (ldl hsf S.ns hself ?_)
    have hl2 : acc.length + (fs1.length + 1) ≤ 100 := hl
    refine one (hfs _ List.mem_cons_self |> T.noF _) ru S (by omega) fun h' tk dd' S' => ?_
    refine ih (fun z hz => hfs z (List.mem_cons_of_mem _ hz)) (s := { s with heap := h', toks := tk }) S' (by rw [List.length_cons]; omega) fun h'' tk' dd'' S'' => ?_
    have e : errF vs ((F, Sum.inl i) :: fs1) acc = errF vs fs1 ((F, v) :: acc) := by
      show errF vs fs1 ((F, vs.getD i .non) :: acc) = _
      rw [List.getD_eq_getElem?_getD, hv]; rfl
    rw [e] at hq
    exact hq h'' tk' dd'' S''
  | @con F c j q1 q2 q3 q4 r fs1 t ih =>
    intro hfs acc dd s Q S hl hq
    refine wpAny_execs_cons (plainObj_wpAny_Assign_Attribute ?_)
    refine Calls.Constant_str (ldl (s := { s with toks := s.toks + 1 }) hsf S.ns hself ?_)
    have hl2 : acc.length + (fs1.length + 1) ≤ 100 := hl
    refine one (y := .str c) (s := { s with toks := s.toks + 1 }) (hfs _ List.mem_cons_self |> T.noF _) ⟨_, rfl⟩ S (by omega) fun h' tk dd' S' => ?_
    refine ih (fun z hz => hfs z (List.mem_cons_of_mem _ hz)) (s := { s with heap := h', toks := tk }) S' (by rw [List.length_cons]; omega) fun h'' tk' dd'' S'' => ?_
    exact hq h'' tk' dd'' S''
end
section
open PySem PySem.W PySem.Calls PyProof.Rows PySem.HandSPX
variable {prog : Program} {w : World} {A : Around} {K : PySem.W.Frag} {C fI : Addr} {st : Stmt} {q : Str} {ps : List Str} {fs : List (Str × Sum Nat Str)}
theorem call_mw (T : ErrC prog K C fI st q ps fs) {E : Value → Shared → Prop} {h : Heap} {g : Array GenState} {d : Drawn} {t : Nat} {os : OsState} {u e t0 : Addr} {rest : List Value} {Q : Value → Shared → Prop} (X : K.In h)
    (he : h.get? e = some (excO C t0)) (hu : h.get? u = some (kxs_mw "ValueError.__init__" e)) (hrest : rest.length ≤ sizeLine)
    (hq : ∀ h' t1, (∀ b o, b ≠ e → h.get? b = some o → h'.get? b = some o) → h'.get? e = some (excO C t1) → Q .none ⟨h', g, d, t, os⟩) :
    wpAny (model prog w) A (call (.ref u) rest) Q E ⟨h, g, d, t, os⟩ := by
  obtain ⟨nm, qn, N, bs, bm, sn, sub, ab, col, dd0, k0, k1, k2, k3, k5, hC, hbm⟩ := T.cls
  refine wpAny_call (codeAny_of_tree ?_)
  show wpAny _ A.in1 (callAny (.ref u) ⟨rest, []⟩) _ _ _
  simp only [callAny]
  refine wpAny_bind (wpAny_load hu ?_)
  simp only [kxs_mw, show (Value.type "method-wrapper" == Value.type "method" || Value.type "method-wrapper" == Value.type "builtin_function_or_method" || Value.type "method-wrapper" == Value.type "method-wrapper") = true by decide, if_true]
  refine KFB.if_so (by decide) ?_
  refine wpAny_bind (check_bound_init F.excBase_ValueError.toExcCallFacts (X _ _ hC) he rfl ?_)
  refine wpAny_bind (wpAny_pure (wpAny_pure ?_))
  refine ⟨plainId_quiet F.excBase_ValueError.init.plain _, codeAny_builtin F.excBase_ValueError.initEntry ?_⟩
  exact exc_init_tree (cls := .ref C) (t0 := t0) (dv := none) (c2 := .none) (c3 := .none) (b4 := .bool false) he hrest fun h' k e1 _ => hq h' _ k e1
theorem err_initA {args : Args} (T : ErrC prog K C fI st q ps fs) {R : Result → Shared → Prop} {s : Shared} {x t0 : Addr} {vs : List V} {us : List Value} {mg : Str → Option Value} (X : K.In s.heap) (hlim : s.heap.NoLimit)
    (G : s.heap.Ns mainGlobals mg) (hsup : mg "super" = none) (B : ∃ mb, s.heap.Ns builtinsNs mb ∧ ∀ y : Str, y ≠ "__name__" → mb y = bootBuiltins y)
    (hx : s.heap.get? x = some (excO C t0)) (hnx : K.lookup x = none) (hroom : A.depth < recursionLimit) (hv : Vals vs us) (hlen : vs.length = ps.length) (hfs : fs.length ≤ 90) (hdb : ∀ y ∈ (("self" : Str) :: ps), (y == ("__debug__" : Str)) = false)
    (hba : ∀ (doc pm : Value) (an : Option Addr) (cda cc : Addr) (ct : Value), bindArgs (PySem.W.ksFn "__init__" q (defArgs st) (defBody st) (defScope st) .none .none doc pm an (.ref cda) ct cc) args = pure ((("self" : Str) :: ps).zip (.ref x :: us)))
    (hq : ∀ h' tk dd L m, L ≠ x → s.heap.objs.size ≤ L → ErrAt s.heap h' x C L m (errF vs fs []) dd → R (.ok (.ret .none)) { s with heap := h', toks := tk }) :
    codeAny (model prog w) A (.call (.ref fI) args) R s := by
  obtain ⟨oc, od, doc, pm, an, cda, cc, ct, osl, ccl, cdd, cvs, ccs, tf, cl, cld, csl, ho, hcd, hcode, hcv, hcell⟩ := T.fn
  obtain ⟨nm, qn, N, bs, bm, sn, sub, ab, col, dd0, k0, k1, k2, k3, k5, hC, hbm⟩ := T.cls
  obtain ⟨p0, p1, p2, p3, p4, p5, j, msg, sts, hbody, hsts, hev⟩ := T.bo
  obtain ⟨ar, har, hself⟩ := T.hd
  have hcl : clsIn K C = some { name := nm, bases := bs, mro := .ref C :: bm, ns := N, qualname := qn, hasDict := true, slotNames := sn, subclasses := sub, abstract := ab, collection := col, hasDel := false } := by unfold clsIn; rw [hC] <;> rfl
  have hul : us.length = ps.length := by rw [← hlen]; exact hv.length.symm
  have hbind := BindsTo.of_eq (s := s) (hba doc pm an cda cc ct)
  have binK : ∀ y ∈ ((("self" : Str) :: ps).zip (Value.ref x :: us)), (defScope st).names.lookup y.1 = some .local := fun ⟨n, u⟩ hy => T.scl n (List.of_mem_zip hy).1
  refine ks_codeAny_call_defAt (fd := ksFn "__init__" q (defArgs st) (defBody st) (defScope st) .none .none doc pm an (.ref cda) ct cc) (body := defBody st) (binds := (("self" : Str) :: ps).zip (Value.ref x :: us)) hroom (X _ _ ho) rfl hlim (codeRec_of X hcd) rfl hbind T.scn binK (fun h₁ hns hk₁ => ?_) T.scc T.scg T.sck
  have X₁ : K.In h₁ := X.keeps hk₁
  have hx₁ := hk₁ _ _ hx
  have hLx : s.heap.objs.size ≠ x := Nat.ne_of_gt (Heap.lt_size hx)
  have sz1 : s.heap.objs.size < h₁.objs.size := hns.lt
  generalize hm : (fun y => (List.reverse ((("self" : Str) :: ps).zip (Value.ref x :: us))).lookup y) = m at hns
  have key : ∀ (l1 : List Str) (l2 : List Value) (i : Nat) (y : Str) (u : Value), l1.Nodup → l1[i]? = some y → l2[i]? = some u → (List.reverse (l1.zip l2)).lookup y = some u := by
    intro l1
    induction l1 with
    | nil => intro l2 i y u _ h _; simp at h
    | cons a r ih =>
      intro l2 i y u nd h1 h2
      cases l2 with
      | nil => simp at h2
      | cons b l2 =>
        rw [List.zip_cons_cons, List.reverse_cons, List.lookup_append]
        cases i with
        | zero =>
          simp only [List.getElem?_cons_zero, Option.some.injEq] at h1 h2
          subst h1 h2
          have : (List.reverse (r.zip l2)).lookup a = none := by
            rw [List.lookup_eq_none_iff]
            intro p hp
            have hp' := List.mem_reverse.mp hp
            have := (List.of_mem_zip (show (p.1, p.2) ∈ r.zip l2 from hp')).1
            simp only [beq_eq_false_iff_ne, ne_eq, bne_iff_ne]
            intro e
            rw [e] at nd
            exact (List.nodup_cons.mp nd).1 this
          rw [this]
          simp [List.lookup]
        | succ i =>
          rw [ih l2 i y u (List.nodup_cons.mp nd).2 h1 h2]; rfl
  have mself : m "self" = some (.ref x) := by rw [← hm]; exact key _ _ 0 _ _ T.nd rfl rfl
  have mpar : ∀ (i : Nat) p, ps[i]? = some p → ∃ v u, vs[i]? = some v ∧ RelV v u ∧ m p = some u := fun i p hp => by
    have hi : i < vs.length := by rw [hlen]; exact (List.getElem?_eq_some_iff.mp hp).1
    obtain ⟨u, hu, ru⟩ := hv.get (List.getElem?_eq_getElem hi)
    refine ⟨_, u, List.getElem?_eq_getElem hi, ru, ?_⟩
    rw [← hm]
    exact key _ _ (i + 1) _ _ T.nd hp hu
  have hDget : h₁.get? C = some (excClassObj nm qn C N bs bm true sn sub ab col dd0 k0 k1 k2 k3 k5 "ValueError.__new__") := X₁ _ _ hC
  obtain ⟨pl, hev⟩ := hev s.heap.objs.size cda cc
  show _root_.PySem.wpAt _ (A.deeper (ksEnv q (defScope st) s.heap.objs.size fI (.ref cda) cc)) (.func (defBody st) (ksEnv q (defScope st) s.heap.objs.size fI (.ref cda) cc)) (execs (defBody st) (ksEnv q (defScope st) s.heap.objs.size fI (.ref cda) cc)) _ _ _
  generalize henv : ksEnv q (defScope st) s.heap.objs.size fI (.ref cda) cc = env at hev ⊢
  have e1 : env.scope = defScope st := by rw [← henv]
  have e2 : env.locals = s.heap.objs.size := by rw [← henv]
  have e3 : env.func = some fI := by rw [← henv]
  have e4 : env.code = .ref cda := by rw [← henv]
  have e5 : env.globals = mainGlobals := by rw [← henv]
  have e6 : env.builtins = builtinsNs := by rw [← henv]
  have e7 : env.cells.lookup ("__class__" : Str) = some cc := by rw [← henv]; rfl
  have kd : ∀ y, env.kindOf y = (defScope st).names.lookup y := fun y => by rw [← henv]; rfl
  have hkf : env.scope.kind = .function := by rw [e1]; exact T.sck
  generalize hbb : defBody st = body
  rw [hbb] at hbody
  have hbody2 : execs body env = execs (.Expr (.Call (.Attribute (.Call (.Name "super" p0) [] [] p1) "__init__" p2) [.Constant (.str msg) j p3] [] p4) p5 :: sts) env := by rw [hbody]
  rw [hbody2]
  refine ks_wpAt_execs_cons (ks_wpAt_Expr_any ?_ (by simp [interactive, hkf]) rfl)
  refine ks_wpAt_MethodCall (pl := pl) ?_ hev
  refine ks_wpAt_super_base ((kd _).trans T.scs) ((kd _).trans T.scf) (by decide) e3 (hk₁ _ _ (X _ _ ho)) rfl har e4 (X₁ _ _ hcode) rfl hcv (by simp) T.top ?_
  obtain ⟨mb, hB1, hB2⟩ := B
  refine ks_loadName_global hkf ((kd _).trans T.scs) (loadGlobal_builtin (by rw [e5]; exact G.keeps hk₁) hsup (by rw [e6]; exact hB1.keeps hk₁) ((hB2 _ (by decide)).trans (by decide +kernel)) ⟨rfl, ?_⟩)
  refine wpAny_loadName_free hkf ((kd _).trans T.scf) e7 ⟨_, X₁ _ _ hcell, rfl⟩ ?_
  rw [hself]
  refine wpAny_loadName_local hkf ((kd _).trans (T.scl _ List.mem_cons_self)) (by rw [e2]; exact hns) mself ?_
  refine ks_wpAny_isType_cls hDget rfl ⟨rfl, ?_⟩
  obtain ⟨hp0, g, d, tk, os⟩ := s
  refine ks_wpAny_call_super (ox := excO C t0) hDget rfl hx₁ rfl (fun c e => nomatch e) (looks_mroIn X₁ T.mro) (fun h₂ e₂ k₂ => ?_)
  have X₂ : K.In h₂ := X₁.keeps k₂
  have I₂ : InstAt h₂ x (excO C t0) C none := ⟨k₂ _ _ hx₁, rfl, rfl, trivial⟩
  have hsu := T.su
  unfold ks_superIn at hsu
  rw [hcl] at hsu
  refine kxs_getMethod kxs_ValueError e₂ (looks_opaque X₂ T.op) (l₀ := .ref C :: bm) ?_ rfl X₂ hsu (I₂.type.andThen (looks_subIn X₂ T.veC)) (ks_ne X₂ I₂ hcl) (by decide) ?_
  · exact fun A Q E s k q => wpAny_bind ((looks_clsIn X₂ hcl) A _ E s k (wpAny_pure q))
  have hu : (h₂.push (kxs_mw "ValueError.__init__" x)).get? h₂.objs.size = some (kxs_mw "ValueError.__init__" x) := Heap.get?_push_at rfl rfl
  have k₃ : ∀ b o, h₂.get? b = some o → (h₂.push (kxs_mw "ValueError.__init__" x)).get? b = some o := fun b o e => Heap.get?_push_of_some _ e
  show wpAny _ _ (callWith p4 (.ref h₂.objs.size) [] (backTo p4 (starEach [.Constant (.str msg) j p3] env)) []) _ _ _
  refine kxs_callWith (i := "ValueError.__init__") (x := x) rfl (evalArgs_plain ?_)
  show wpAny _ _ (spliced [(false, eval (.Constant (.str msg) j p3) env)]) _ _ _
  refine spliced_cons (Constant_str (spliced_nil ⟨hu, ?_⟩))
  refine call_mw T (X₂.keeps k₃) (k₃ _ _ (k₂ _ _ hx₁)) hu (by show 1 ≤ sizeLine; decide) fun h₄ t1 k₄ hx₄ => ?_
  show _root_.PySem.wpAt _ _ _ (execs sts env) _ _ _
  refine wpAt_of_wpAny ?_
  have keep4 : ∀ b o, b ≠ x → hp0.get? b = some o → h₄.get? b = some o := fun b o hb e => k₄ b o hb (k₃ _ _ (k₂ _ _ (hk₁ _ _ e)))
  obtain ⟨oL, esL, epL, hoL, hrL⟩ := id hns
  have hoL4 : h₄.get? hp0.objs.size = some oL := k₄ _ _ hLx (k₃ _ _ (k₂ _ _ hoL))
  have S0 : ErrAt hp0 h₄ x C hp0.objs.size m [] none := ⟨keep4, Nat.le_of_lt (Heap.lt_size hoL4), ⟨oL, esL, epL, hoL4, hrL⟩, ⟨t1, hx₄⟩, rfl⟩
  refine err_stores T (h0 := hp0) X hnx hLx mself mpar hkf e2 (fun y hy => (kd y).trans (T.scl y hy)) hdb hsts (fun _ z => z) (acc := []) (s := ⟨h₄, g, d, _, os⟩) S0 (by rw [List.length_nil]; omega) fun h' tk' dd' S' => ?_
  exact hq h' tk' dd' hp0.objs.size m hLx (Nat.le_refl _) S'
theorem err_init (T : ErrC prog K C fI st q ps fs) {R : Result → Shared → Prop} {s : Shared} {x t0 : Addr} {vs : List V} {us : List Value} {mg : Str → Option Value} (X : K.In s.heap) (hlim : s.heap.NoLimit)
    (G : s.heap.Ns mainGlobals mg) (hsup : mg "super" = none) (B : ∃ mb, s.heap.Ns builtinsNs mb ∧ ∀ y : Str, y ≠ "__name__" → mb y = bootBuiltins y)
    (hx : s.heap.get? x = some (excO C t0)) (hnx : K.lookup x = none) (hroom : A.depth < recursionLimit) (hv : Vals vs us) (hlen : vs.length = ps.length) (hfs : fs.length ≤ 90) (hdb : ∀ y ∈ (("self" : Str) :: ps), (y == ("__debug__" : Str)) = false)
    (hq : ∀ h' tk dd L m, L ≠ x → s.heap.objs.size ≤ L → ErrAt s.heap h' x C L m (errF vs fs []) dd → R (.ok (.ret .none)) { s with heap := h', toks := tk }) :
    codeAny (model prog w) A (.call (.ref fI) ⟨.ref x :: us, []⟩) R s :=
  err_initA T X hlim G hsup B hx hnx hroom hv hlen hfs hdb (fun doc pm an cda cc ct => T.bd doc pm an cda cc ct (.ref x :: us) (by rw [List.length_cons, ← hlen]; exact congrArg (· + 1) hv.length.symm)) hq
end
section
open PySem PySem.Spec PyProof.Rows
variable {X : Cx} {C fI : Addr} {st : Stmt} {q : Str} {ps : List Str} {fs : List (Str × Sum Nat Str)}
/-- what the making of such an error leaves: its class, its own dict (new), the fields -/
def errQ (C : Addr) (fs : List (Str × Sum Nat Str)) (vs : List V) (H1 : Hp) (Q : XK) : Prop := match fs with
  | [] => Q (.ref C) none H1
  | p :: r => ∀ d, H1 d = none → Q (.ref C) (some d) (upd H1 d (.xd (errF vs (p :: r) [])))
def tErr (C : Addr) (n : Nat) (fs : List (Str × Sum Nat Str)) (ta : TA) : L2.St → Hp → XK → Prop := fun σ H Q => ta σ H fun vs H1 => vs.length = n ∧ errQ C fs vs H1 Q
theorem errF_nil {vs : List V} : ∀ {fs : List (Str × Sum Nat Str)} {acc : List (Str × V)}, errF vs fs acc = [] → fs = [] ∧ acc = []
  | [], acc, e => ⟨rfl, e⟩
  | p :: r, acc, e => by
    obtain ⟨_, h⟩ := errF_nil (fs := r) (acc := (p.1, fldV vs p.2) :: acc) e
    cases h
theorem err_made (T : ErrC X.prog X.K C fI st q ps fs) {pins : List (Addr × Obj)} {σ : L2.St} {H1 : Hp} {s1 : Shared} {Q : XK} {vs : List V} {us : List Value} {k : Nat} (hsup : X.mg "super" = none) (hr : Room k X.A) (hfs : fs.length ≤ 90)
    (hdb : ∀ y ∈ (("self" : Str) :: ps), (y == ("__debug__" : Str)) = false) (I1 : Inv X pins σ H1 s1) (r : Vals vs us) (hl : vs.length = ps.length) (hz : us.length ≤ sizeLine)
    (q1 : errQ C fs vs H1 Q) :
    wpAny (model X.prog X.w) X.A (call (.ref C) us) (MkP X pins σ Q) X.xe s1 := by
  obtain ⟨nm, qn, N, bs, bm, sn, sub, ab, col, dd0, k0, k1, k2, k3, k5, hC, hbm⟩ := T.cls
  have hlim := I1.nolimit
  have KX := I1.kIn
  have G := I1.mod.glob.keeps I1.bk
  have B : ∃ mb, s1.heap.Ns builtinsNs mb ∧ ∀ y : Str, y ≠ "__name__" → mb y = bootBuiltins y := by
    obtain ⟨mb, b1, b2⟩ := I1.mod.blt
    exact ⟨mb, b1.keeps I1.bk, b2⟩
  obtain ⟨hp, g, dr, tk, os⟩ := s1
  have kk : ∀ b o, hp.get? b = some o → ((hp.push (PySem.W.kdv_tup us)).push (PySem.HandSPX.excO C hp.objs.size)).get? b = some o := fun b o e => Heap.get?_push_of_some _ (Heap.get?_push_of_some _ e)
  have hget : ((hp.push (PySem.W.kdv_tup us)).push (PySem.HandSPX.excO C hp.objs.size)).get? (hp.objs.size + 1) = some (PySem.HandSPX.excO C hp.objs.size) := by heap_get
  have hnx : X.K.lookup (hp.objs.size + 1) = none := by
    cases e : X.K.lookup (hp.objs.size + 1) with
    | none => rfl
    | some o =>
      have z : hp.get? (hp.objs.size + 1) = some o := KX _ _ e
      exact absurd (Nat.lt_of_succ_lt (Heap.lt_size z)) (Nat.lt_irrefl _)
  refine wpAny_call (PySem.HandSPX.call_own F.excBase_ValueError (fun Y => PySem.HandSPX.refsVE_contains Y bm hbm) (KX _ _ hC) (PySem.W.looks_findIn KX T.iC) (fun self => PySem.W.bind_fn KX self T.tC) hz ?_)
  have hdp := hr.dp
  refine err_init T (vs := vs) (mg := X.mg) (s := ⟨(hp.push (PySem.W.kdv_tup us)).push (PySem.HandSPX.excO C hp.objs.size), g, dr, tk, os⟩) (KX.keeps kk) (hlim.keeps kk) (G.keeps kk) hsup (let ⟨mb, b1, b2⟩ := B; ⟨mb, b1.keeps kk, b2⟩) hget hnx ?_ r hl hfs hdb fun h' tk' dd L m hLx hLz S => ?_
  · show X.A.depth + 1 < recursionLimit
    omega
  obtain ⟨kp, sz, hn, ⟨t1, hx⟩, hd⟩ := S
  have e2 : ((hp.push (PySem.W.kdv_tup us)).push (PySem.HandSPX.excO C hp.objs.size)).objs.size = hp.objs.size + 2 := by simp [Heap.size_push]
  have old0 : ∀ b o, hp.get? b = some o → h'.get? b = some o := fun b o e => kp b o (Nat.ne_of_lt (Nat.lt_succ_of_lt (Heap.lt_size e))) (kk b o e)
  obtain ⟨G', g1, g2⟩ := restrict h' fun b => decide (b ≠ hp.objs.size + 1)
  have gk : ∀ b, b ≠ hp.objs.size + 1 → G'.get? b = h'.get? b := fun b hb => g1 b (decide_eq_true hb)
  have ge : G'.get? (hp.objs.size + 1) = none := g2 _ (by simp)
  have old : ∀ b o, hp.get? b = some o → G'.get? b = some o := fun b o e => (gk b (Nat.ne_of_lt (Nat.lt_succ_of_lt (Heap.lt_size e)))).trans (old0 b o e)
  have sub2 : ∀ b o, G'.get? b = some o → h'.get? b = some o := fun b o e => by
    by_cases hb : b = hp.objs.size + 1
    · rw [hb, ge] at e; cases e
    · rw [← gk b hb]; exact e
  refine ⟨rfl, ?_⟩
  show MkP X pins σ Q (.ref (hp.objs.size + 1)) ⟨h', g, dr, tk', os⟩
  cases dd with
  | none =>
    have hd : errF vs fs [] = [] := hd
    obtain ⟨rfl, _⟩ := errF_nil hd
    have J : Inv X pins σ H1 ⟨G', g, dr, tk', os⟩ := I1.kept (t' := tk') old
    exact ⟨hp.objs.size + 1, _, _, ⟨G', g, dr, tk', os⟩, H1, .ref C, none, rfl, J, sub2, ge, hx, ⟨rfl, rfl⟩, rfl, rfl, I1.hok.fresh (Nat.le_succ _), rfl, I1.bare, raises_own T.exC T.tyC, q1⟩
  | some dx =>
    obtain ⟨d0, d1, d2, d3, mA, hns, rel⟩ := hd
    rw [e2] at d1
    have hdx : hp.objs.size ≤ dx := Nat.le_trans (Nat.le_add_right _ 2) d1
    have nd : H1 dx = none := I1.hok.fresh hdx
    have ob : ObjOk X.prog X.w (upd H1 dx (.xd (errF vs fs []))) G' dx (.xd (errF vs fs [])) := ⟨mA, hns.at (fun o q => (gk dx d2).trans q), rel⟩
    have J : Inv X pins σ (upd H1 dx (.xd (errF vs fs []))) ⟨G', g, dr, tk', os⟩ := I1.laid (t' := tk') old hdx ob
    refine ⟨hp.objs.size + 1, _, _, ⟨G', g, dr, tk', os⟩, _, .ref C, some dx, rfl, J, sub2, ge, hx, ⟨rfl, rfl⟩, rfl, rfl, ?_, rfl, I1.bare, raises_own T.exC T.tyC, ?_⟩
    · rw [upd_ne (Ne.symm d2)]
      exact I1.hok.fresh (Nat.le_succ _)
    · cases fs with
      | nil =>
        exact absurd rfl d0
      | cons p r => exact q1 dx nd
/-- C(e, ..) -/
theorem pmk_err {x : Str} {e : Expr} {es : List Expr} {ta : TA} {p pos : Pos} {k : Nat} (T : ErrC X.prog X.K C fI st q ps fs) (hm : X.mg x = some (.ref C)) (hsup : X.mg "super" = none) (hr : Room k X.A) (ha : PA X (e :: es) ta) (hg : Gl X x := by rfl)
    (hfs : fs.length ≤ 90 := by decide) (hps : ps.length ≤ 90 := by decide) (hdb : ∀ y ∈ (("self" : Str) :: ps), (y == ("__debug__" : Str)) = false := by decide) (hd : (x == ("__debug__" : Str)) = false := by decide)
    (he : starEach (e :: es) X.env = (false, eval e X.env) :: starEach es X.env := by rfl) (hpl : (backTo pos (starEach es X.env)).any (·.1) = false := by rfl) :
    PMk X (.Call (.Name x p) (e :: es) [] pos) (tErr C ps.length fs ta) := by
  intro pins s σ H Q I h
  refine wpAny_Call_Name_kw (ld_glob I hg hm ?_ hd)
  refine PySem.W.callWith_K (h₀ := X.base) I.ok.mod.kin T.kC (thn (ha.run pos pins s σ H _ I h) fun us s1 hh => ?_) he hpl
  obtain ⟨vs, H1, I1, r1, hl, q1⟩ := hh
  refine ⟨I1.kIn, ?_⟩
  exact err_made T hsup hr hfs hdb I1 r1 hl (by rw [List.nil_append, ← r1.length, hl, sizeLine_eq]; omega) q1
/-- C() -/
theorem pmk_err0 {x : Str} {p pos : Pos} {k : Nat} (T : ErrC X.prog X.K C fI st q [] fs) (hm : X.mg x = some (.ref C)) (hsup : X.mg "super" = none) (hr : Room k X.A) (hg : Gl X x := by rfl)
    (hfs : fs.length ≤ 90 := by decide) (hd : (x == ("__debug__" : Str)) = false := by decide) :
    PMk X (.Call (.Name x p) [] [] pos) (tErr C 0 fs tNil) := by
  intro pins s σ H Q I h
  refine wpAny_Call_Name_kw (ld_glob I hg hm ?_ hd)
  refine PySem.W.callWith_K0 I.kIn T.kC ?_
  obtain ⟨_, q1⟩ := h
  exact err_made T (vs := []) (us := []) hsup hr hfs (by decide) I .nil rfl (Nat.zero_le _) q1
end
/-! ### several except clauses, with or without a name -/
section
open PySem PySem.Spec PyProof.Rows
abbrev Cls1 := Value × Option Nat × (Addr → Value → Option Addr → TS)
def endsAs (i : Nat) (D : Ends) : Ends := { nx := fun σ' H' => D.nx (σ'.set i none) H', rt := D.rt, bk := fun σ' H' => D.bk (σ'.set i none) H', ct := fun σ' H' => D.ct (σ'.set i none) H' }
def wCl (D : Ends) (on : Option Nat) (ts : Addr → Value → Option Addr → TS) (a : Addr) (cls : Value) (d : Option Addr) (σ : L2.St) (H : Hp) : Prop := match on with
  | none => ts a cls d D σ H
  | some i => ts a cls d (endsAs i D) (σ.set i (some (.ref a))) H
/-- what the clauses wish of an exception of the body, one after the other -/
def wManyA (K : PySem.W.Frag) (Wout : WX) (D : Ends) : List Cls1 → WX
  | [] => Wout
  | (c, on, ts) :: r => fun cls d σ H => ∃ b, PySem.W.exmOne K cls c = some b ∧ (b = true → ∀ a, H a = none → wCl D on ts a cls d σ H) ∧ (b = false → wManyA K Wout D r cls d σ H)
inductive HdsA (X : Cx) : List ExceptHandler → List Cls1 → Prop
  | nil : HdsA X [] []
  | cons {x : Str} {c : Value} {ts : Addr → Value → Option Addr → TS} {b₀ : Stmt} {suite : List Stmt} {np pos' : Pos} {hds : List ExceptHandler} {l : List Cls1} (hc : Names X x c)
      (hsu : ∀ (a : Addr) (oe : Obj) (cls : Value) (d : Option Addr) (pn : List (Addr × Obj)), Zc cls d oe → (∃ vs, oe.data = .fields vs) → PSs (X.suite a ((a, oe) :: pn)) (b₀ :: suite) (ts a cls d)) (r : HdsA X hds l) :
      HdsA X (.ExceptHandler (some (.Name x np)) none (b₀ :: suite) pos' :: hds) ((c, none, ts) :: l)
  | consA {x n : Str} {c : Value} {i : Nat} {ts : Addr → Value → Option Addr → TS} {b₀ : Stmt} {suite : List Stmt} {np pos' : Pos} {hds : List ExceptHandler} {l : List Cls1} (hc : Names X x c) (hi : X.N[i]? = some n) (hln : X.env.kindOf n = some .local)
      (hsu : ∀ (a : Addr) (oe : Obj) (cls : Value) (d : Option Addr) (pn : List (Addr × Obj)), Zc cls d oe → (∃ vs, oe.data = .fields vs) → PSs (X.suite a ((a, oe) :: pn)) (b₀ :: suite) (ts a cls d)) (r : HdsA X hds l) :
      HdsA X (.ExceptHandler (some (.Name x np)) (some n) (b₀ :: suite) pos' :: hds) ((c, some i, ts) :: l)
variable {X : Cx} {body : List Stmt} {h₀ : ExceptHandler} {hds : List ExceptHandler} {l : List Cls1} {pos : Pos} {tb : WX → TS} {Wout : WX}
theorem ps_tryA (hs : X.stack = X.env :: X.outer) (hf : X.env.frame = some X.env.locals) (hN : X.N.Nodup) (tk : Takes X Wout)
    (hb : ∀ (W : WX) (pn : List (Addr × Obj)) (xe : Value → Shared → Prop), Takes (X.tr pn xe) W → PassesOwn (model X.prog X.w) X.A X.env xe → PSs (X.tr pn xe) body (tb W))
    (hh : HdsA X (h₀ :: hds) l) : PS X (.Try body (h₀ :: hds) [] [] pos) (fun D σ H => tb (wManyA X.K Wout D l) D σ H) := by
  refine ⟨fun pins s σ H D I h => ?_⟩
  have ok := I.ok
  have hfr : X.A.frames = some (X.env :: X.outer) := by rw [ok.frames, hs]
  refine wpAny_Try_except ?_
  refine wpAny_mono ((hb (wManyA X.K Wout D l) (X.pn ++ pins) (fun e s₁ => wpAny (model X.prog X.w) X.A (noteFrame e X.env) (fun _ s₂ => wpAny (model X.prog X.w) X.A (setFlight e none) (fun _ s₃ =>
    wpAny (model X.prog X.w) X.A (handleBy e X.env (h₀ :: hds)) (SP X pins D) X.xe s₃) X.xe s₂) X.xe s₁) (fun u s' xx => ?_) PassesOwn.looking).run [] s σ H D (I.toTry _) h) (fun f s1 hsp => ?_) (fun e s1 he => he)
  · -- the catch
    obtain ⟨a, B, sI, pins', σ', H', cls, d, rfl, J', nb, up, sky, na, os, ag, w⟩ := xx
    have J : Inv X pins σ' H' sI := J'.ofTry ok
    have sky' : Sky B (X.env :: X.outer) a (Zc cls d) X.env.locals s'.heap := by rw [← hs]; exact sky
    show wpAny (model X.prog X.w) X.A (noteFrame (.ref a) X.env) _ _ _
    refine Sky.land Zc.steady hfr hf sky' fun h3 fl3 up3 => ?_
    have J3 : Inv X pins σ' H' { s' with heap := h3 } := J.landed nb fl3.1 (up.trans up3) os ag
    obtain ⟨oe3, vs3, he3, hz3, hd3⟩ := fl3.there
    have notFr : ∀ {h : Heap} {o : Obj} {vs : Array Value}, h.FunFrames B (X.env :: X.outer) → h.get? a = some o → o.data = .fields vs → a ∉ frs (X.env :: X.outer) := fun {h o vs} ff e dd hm => by
      obtain ⟨_, o', e', hnf⟩ := ff.mem hm
      rw [e] at e'; cases e'
      exact hnf _ dd
    have nfr := notFr fl3.2.2.1 he3 hd3
    have nL : a ≠ X.env.locals := fun z => nfr (List.mem_filterMap.mpr ⟨X.env, List.mem_cons_self, by rw [hf, z]⟩)
    have nF : a ∉ X.fs := fun hm => by
      obtain ⟨e, he, q⟩ := List.mem_filterMap.mp hm
      exact nfr (List.mem_filterMap.mpr ⟨e, List.mem_cons_of_mem _ he, q⟩)
    have S3 := J3.suite he3 hd3 na nL nF
    have tst : ∀ {x : Str} {c : Value} {np : Pos}, Names X x c → ∀ {Q : Value → Shared → Prop} {E : Value → Shared → Prop}, Q c { s' with heap := h3 } → wpAny (model X.prog X.w) (X.A.mark (some (.ref a))) (eval (.Name x np) X.env) Q E { s' with heap := h3 } := fun {x c np} hc {Q E} q => by
      obtain ⟨hg, hdbg, hm | ⟨hm, hv, hnn⟩⟩ := hc
      · exact ld_glob (X := X.suite a ((a, oe3) :: (X.pn ++ pins))) S3 hg hm q hdbg
      · exact ld_blt (X := X.suite a ((a, oe3) :: (X.pn ++ pins))) S3 hg hm hv q hnn hdbg
    have LT : PySem.W.Looks (model X.prog X.w) h3 (typeOf (.ref a)) cls := fun A Q E s k q => wpAny_typeOf_ref (k _ _ he3) (by rw [hz3.1]; exact q)
    have go : ∀ {hds' : List ExceptHandler} {l' : List Cls1}, HdsA X hds' l' → wManyA X.K Wout D l' cls d σ' H' →
        wpAny (model X.prog X.w) X.A (handleBy (.ref a) X.env hds') (SP X pins D) X.xe { s' with heap := h3 } := by
      intro hds' l' hk
      induction hk with
      | nil =>
        intro w
        refine wpAny_handleBy_nil ?_
        obtain ⟨k1, k2, k3, oe, vs, T, oT, ts', he, hz, hd, h1, hr⟩ := id fl3
        unfold PySem.passOn
        refine wpAny_bind (wpAny_field he hd h1 ?_)
        rw [if_neg (show ¬ ((Value.ref T == Value.none) = true) from by simp)]
        have fin : wpAny (model X.prog X.w) X.A (setFlight (.ref a) X.env.frame) (fun _ s4 => wpAny (model X.prog X.w) X.A (throw (.ref a) : Sem Flow) (SP X pins D) X.xe s4) X.xe { s' with heap := h3 } := by
          rw [hf]
          refine HandSPX.setFlight_upZ fl3 fun h4 hh4 up4 => wpAny_throw (tk _ _ ?_)
          exact ⟨a, B, sI, pins, σ', H', cls, d, rfl, J, nb, (up.trans up3).trans up4, .inr (.inr (by rw [hs]; exact hh4)), na, os, ag, w⟩
        first
          | exact wpAny_bind (wpAny_pure (wpAny_bind fin))
          | exact wpAny_bind fin
      | @cons x c ts b₀ suite np pos' hds2 l2 hc hsu r ih =>
        intro w
        obtain ⟨b, hb1, hyes, hno⟩ := w
        refine wpAny_handleBy_cons (codeAny_handlers_test ?_) (by intro q; cases q)
        have LM := PySem.W.exm_one (M := model X.prog X.w) (J3.kIn) LT hb1
        refine tst hc (LM.here ?_)
        cases b with
        | true =>
          refine codeAny_handlers_suite ?_
          refine HandSPX.lands_againZ fl3 fun h4 fl4 up4 => ?_
          have J4 : Inv X pins σ' H' { s' with heap := h4 } := J.landed nb fl4.1 ((up.trans up3).trans up4) os ag
          obtain ⟨oe4, vs4, he4, hz4, hd4⟩ := fl4.there
          have S4 := J4.suite he4 hd4 na nL nF
          refine wpAny_mono ((hsu a oe4 cls d (X.pn ++ pins) hz4 ⟨_, hd4⟩).run [] _ _ H' _ S4 (hyes rfl a na)) (fun f s6 hsp => ?_) (fun _ _ z => False.elim z)
          cases f with
          | next =>
            obtain ⟨σ6, H6, S6, q6⟩ := hsp
            exact ⟨_, _, S6.unsuite ok, q6⟩
          | brk =>
            obtain ⟨σ6, H6, S6, q6⟩ := hsp
            exact ⟨_, _, S6.unsuite ok, q6⟩
          | cont =>
            obtain ⟨σ6, H6, S6, q6⟩ := hsp
            exact ⟨_, _, S6.unsuite ok, q6⟩
          | ret u =>
            obtain ⟨v6, σ6, H6, S6, r6, q6⟩ := hsp
            exact ⟨_, _, _, S6.unsuite ok, r6, q6⟩
        | false =>
          show wpAny _ X.A (handleBy (.ref a) X.env hds2) _ _ _
          exact ih (hno rfl)
      | @consA x n c i ts b₀ suite np pos' hds2 l2 hc hi hln hsu r ih =>
        intro w
        obtain ⟨b, hb1, hyes, hno⟩ := w
        have hloc : Loc X.env.scope n := .inl hln
        refine wpAny_handleBy_cons (codeAny_handlers_test ?_) (by intro q; cases q)
        have LM := PySem.W.exm_one (M := model X.prog X.w) (J3.kIn) LT hb1
        refine tst hc (LM.here ?_)
        cases b with
        | true =>
          refine codeAny_handlers_suite_as ?_
          refine HandSPX.lands_againZ fl3 fun h4 fl4 up4 => ?_
          have J4 : Inv X pins σ' H' { s' with heap := h4 } := J.landed nb fl4.1 ((up.trans up3).trans up4) os ag
          obtain ⟨oe4, vs4, he4, hz4, hd4⟩ := fl4.there
          have S4 := J4.suite he4 hd4 na nL nF
          refine store_ok (X := X.suite a ((a, oe4) :: (X.pn ++ pins))) (v := .ref a) S4 hN hi hloc rfl (fun s5 S5 => ?_) (.inr hln)
          refine wpAny_mono ((hsu a oe4 cls d (X.pn ++ pins) hz4 ⟨_, hd4⟩).run [] s5 _ H' _ S5 (hyes rfl a na)) (fun f s6 hsp => ?_) (fun _ _ z => False.elim z)
          have end_ : ∀ {σ6 : L2.St} {H6 : Hp} {Q : Shared → Prop}, Inv (X.suite a ((a, oe4) :: (X.pn ++ pins))) [] σ6 H6 s6 → (∀ s7, Inv X pins (σ6.set i none) H6 s7 → Q s7) →
              wpAny (model X.prog X.w) X.A (do bindName X.env n .none; unbindBehindTheSuite X.env n pos') (fun _ s7 => Q s7) X.xe s6 := fun {σ6 H6 Q} S6 hq => gone_ok (S6.unsuite ok) hN hi hln hq
          cases f with
          | next =>
            obtain ⟨σ6, H6, S6, q6⟩ := hsp
            exact end_ S6 fun s7 J7 => ⟨_, _, J7, q6⟩
          | brk =>
            obtain ⟨σ6, H6, S6, q6⟩ := hsp
            exact end_ S6 fun s7 J7 => ⟨_, _, J7, q6⟩
          | cont =>
            obtain ⟨σ6, H6, S6, q6⟩ := hsp
            exact end_ S6 fun s7 J7 => ⟨_, _, J7, q6⟩
          | ret u =>
            obtain ⟨v6, σ6, H6, S6, r6, q6⟩ := hsp
            exact end_ S6 fun s7 J7 => ⟨_, _, _, J7, r6, q6⟩
        | false =>
          show wpAny _ X.A (handleBy (.ref a) X.env hds2) _ _ _
          exact ih (hno rfl)
    exact go hh w
  · cases f with
    | next =>
      obtain ⟨σ', H', J', q⟩ := hsp
      exact wpAny_execs_nil ⟨σ', H', J'.ofTry ok, q⟩
    | brk =>
      obtain ⟨σ', H', J', q⟩ := hsp
      exact ⟨σ', H', J'.ofTry ok, q⟩
    | cont =>
      obtain ⟨σ', H', J', q⟩ := hsp
      exact ⟨σ', H', J'.ofTry ok, q⟩
    | ret u =>
      obtain ⟨v, σ', H', J', r, q⟩ := hsp
      exact ⟨v, σ', H', J'.ofTry ok, r, q⟩
/-! ### o.m(e, ..) with a wish by the slots, defaults, keywords -/
variable {CX : CXT} {k : Nat} {f C : Addr} {fd : FuncData} {ps ks : List Str} {sp : Sp} {dvs : List V} {ds : List Value} {E : L2.St → XK} {x m : Str} {p apos : Pos} {e o : Expr} {es : List Expr} {kws : List Keyword} {ta : TE} {t tk : TA}
def tMethS (C : Addr) (m : Str) (sp : Sp) (dvs : List V) (E : L2.St → XK) (to : TE) (ta : TA) : TE := fun σ H Q => to σ H fun x H1 => ∃ a dx fs, x = .ref a ∧ H1 a = some (.ins C dx fs) ∧ fs.lookup m = none ∧ ta σ H1 fun vs H2 => sp (.ref a :: (vs ++ dvs)) H2 Q (E σ)
theorem pe_methSD {pl : Sem Bool} (he : PE X o ta) (c : Cls X.K C) (hm : Meth X.K C m f) (F : FnOk X.prog X.w X.K X.mg X.base CX k f fd ps sp) (hr : Room k X.A) (hb : Binds X.K fd ps ds) (hd : Vals dvs ds) (hx : ∀ σ, PassesAt CX X σ (E σ)) (ha : PA X (e :: es) t)
    (hst : starEach (e :: es) X.env = (false, eval e X.env) :: starEach es X.env := by rfl) (hpl : (backTo pos (starEach es X.env)).any (·.1) = false := by rfl)
    (ht : eval (.Call (.Attribute o m apos) (e :: es) [] pos) X.env = (do
      let ov ← eval o X.env
      standAt apos.atName
      let (f, first) ← holding [ov] (getMethod ov m pl)
      callWith pos f first (backTo pos (starEach (e :: es) X.env)) (backToKw pos (keywordEach [] X.env))) := by rfl) :
    PE X (.Call (.Attribute o m apos) (e :: es) [] pos) (tMethS C m sp dvs E ta t) := by
  refine ⟨fun pins s σ H Q I h => ?_⟩
  refine PySem.W.methodCall_KW (pl := pl) (thn (he.run pins s σ H _ I h) fun u s1 ⟨x, H1, I1, rx, a, dx, fs, ex, ea, l, q⟩ => ?_) ht
  subst ex
  obtain rfl : u = Value.ref a := rx
  refine getmeth_ok I1 ea c hm l ?_
  refine PySem.W.callWith_K (first := [.ref a]) (h₀ := X.base) I.ok.mod.kin hm.kp (thn (ha.run pos pins s1 σ H1 _ I1 q) fun us s2 ⟨vs, H2, I2, r, q2⟩ => ⟨I2.kIn, ?_⟩) hst hpl
  exact run_fnSD (us := .ref a :: us) (vs := .ref a :: vs) F hr hb hd (hx σ) I2 (.cons rfl r) q2
theorem pe_methSD0 {pl : Sem Bool} (he : PE X o ta) (c : Cls X.K C) (hm : Meth X.K C m f) (F : FnOk X.prog X.w X.K X.mg X.base CX k f fd ps sp) (hr : Room k X.A) (hb : Binds X.K fd ps ds) (hd : Vals dvs ds) (hx : ∀ σ, PassesAt CX X σ (E σ))
    (ht : eval (.Call (.Attribute o m apos) [] [] pos) X.env = (do
      let ov ← eval o X.env
      standAt apos.atName
      let (f, first) ← holding [ov] (getMethod ov m pl)
      callWith pos f first (backTo pos (starEach [] X.env)) (backToKw pos (keywordEach [] X.env))) := by rfl) :
    PE X (.Call (.Attribute o m apos) [] [] pos) (tMethS C m sp dvs E ta tNil) := by
  refine ⟨fun pins s σ H Q I h => ?_⟩
  refine PySem.W.methodCall_KW (pl := pl) (thn (he.run pins s σ H _ I h) fun u s1 ⟨x, H1, I1, rx, a, dx, fs, ex, ea, l, q⟩ => ?_) ht
  subst ex
  obtain rfl : u = Value.ref a := rx
  refine getmeth_ok I1 ea c hm l ?_
  exact PySem.W.callWith_K0 (first := [.ref a]) I1.kIn hm.kp (run_fnSD (us := [.ref a]) (vs := [.ref a]) F hr hb hd (hx σ) I1 (.cons rfl .nil) q)
end
/-! ### defs under which repr is asked: no guard is up -/
section
open PySem PySem.Spec PyProof.Rows
structure FnG (P : Program) (w : World) (K : PySem.W.Frag) (mg : Str → Option Value) (base : Heap) (CX : CXT) (k : Nat) (f : Addr) (fd : FuncData) (ps : List Str) (sp : Sp) : Prop where
  len : ∀ vs H Q E, sp vs H Q E → vs.length = ps.length
  run : ∀ (A : Around) (outer : List Env) (s : Shared) (H : Hp) (args : Args) (us : List Value) (vs : List V) (Q : VK) (E : XK), Room k A → A.guards = some [] → Env0 P w K mg base A outer s H → BindsTo s fd args (ps.zip us) → Vals vs us → sp vs H Q E →
    codeAny (model P w) A (.call (.ref f) args) (CR CX outer P w H s Q E) s
theorem FnG.of {P : Program} {w : World} {K : PySem.W.Frag} {mg : Str → Option Value} {base : Heap} {CX : CXT} {k : Nat} {f : Addr} {fd : FuncData} {ps : List Str} {sp : Sp} (F : FnOk P w K mg base CX k f fd ps sp) : FnG P w K mg base CX k f fd ps sp :=
  ⟨F.len, fun A outer s H args us vs Q E hr _ => F.run A outer s H args us vs Q E hr⟩
theorem FnG.mono {P : Program} {w : World} {K : PySem.W.Frag} {mg : Str → Option Value} {base : Heap} {CX : CXT} {j k : Nat} {f : Addr} {fd : FuncData} {ps : List Str} {sp : Sp} (F : FnG P w K mg base CX j f fd ps sp) (h : j ≤ k) : FnG P w K mg base CX k f fd ps sp :=
  ⟨F.len, fun A outer s H args us vs Q E hr => F.run A outer s H args us vs Q E (hr.mono h)⟩
theorem fn_ofG {CX : CXT} {P : Program} {w : World} {K : PySem.W.Frag} {mg : Str → Option Value} {base : Heap} {k : Nat} {f : Addr} {name qual : Str} {params : Arguments} {body : List Stmt} {scope : Scope} {dV kV doc pm cdv ct oc : Value} {an od : Option Addr}
    {osl : Array (Option Value)} {N ps : List Str} {sp : Sp} (lk : K.lookup f = some ⟨oc, od, .func (PySem.W.fnOf name qual params body scope dV kV doc pm an cdv ct), osl⟩) (hcd : PySem.W.codeIn K cdv qual = true) (S : FnScope N ps scope)
    (len : ∀ vs H Q E, sp vs H Q E → vs.length = ps.length)
    (hbody : ∀ (A : Around) (outer : List Env) (s : Shared) (H : Hp) (vs : List V) (Q : VK) (E : XK), Room k (A.deeper (envOfC qual scope s.heap.objs.size f cdv)) → A.guards = some [] → sp vs H Q E →
      ∃ t, PSs (cxOf CX P w K mg base N qual scope f cdv A outer s H E) body t ∧ t { nx := fun _ H' => Q .non H', rt := Q } (start N vs) H) :
    FnG P w K mg base CX (k + 1) f (PySem.W.fnOf name qual params body scope dV kV doc pm an cdv ct) ps sp := by
  refine ⟨len, fun A outer s H args us vs Q E hr hg e0 hb r hsp => ?_⟩
  have hl := len _ _ _ _ hsp
  have KX : K.In s.heap := e0.mod.kin.keeps fun b o e => (e0.bs b o e).1
  have lim : s.heap.NoLimit := e0.mod.nolimit.keeps fun b o e => (e0.bs b o e).1
  have hkind : ∀ y ∈ ps.zip us, scope.names.lookup y.1 = some .local ∨ (scope.names.lookup y.1 = some .cell ∧ ((cellsFrom (s.heap.objs.size + 1) scope.names []).lookup y.1).isSome = true) := fun ⟨n, v⟩ hy => by
    rcases S.par n (List.of_mem_zip hy).1 with q | q
    · exact .inl q
    · exact .inr ⟨q, PySem.W.cellsFrom_some _ _ _ (.inl q)⟩
  refine codeAny_call_function hr.depth (KX _ _ lk) rfl S.co S.gen rfl (PySem.W.codeRec_of KX hcd) (hb _ _ _ _ ?_)
  refine wpAny_newFunctionEnv_cells S.kind hkind fun env he s1 x => ?_
  subst he
  refine ⟨lim.keeps x.toInCall.keep, codeAny_func ?_⟩
  obtain ⟨t, ht, hq⟩ := hbody A outer s H vs Q E (hr.deeper _) hg hsp
  have I : Inv (cxOf CX P w K mg base N qual scope f cdv A outer s H E) [] (start N vs) H s1 := inv_start S hr.hd e0 hl r x
  refine wpAny_mono (ht.run [] s1 (start N vs) H _ I hq) (fun fl s' hs => ?_) fun e s' hs => hs
  have fin : ∀ {σ' : L2.St} {H' : Hp} {v : V} {u : Value}, Inv (cxOf CX P w K mg base N qual scope f cdv A outer s H E) [] σ' H' s' → RelV v u → Q v H' → CE outer P w H s Q u s' :=
    fun {σ' H' v u} J rv q => ⟨v, H', J.os, J.bare, J.base, J.hok, rv, q⟩
  cases fl with
  | ret u =>
    obtain ⟨v, σ', H', J, rv, q⟩ := hs
    exact fin J rv q
  | next =>
    obtain ⟨σ', H', J, q⟩ := hs
    exact fin (v := V.non) (u := Value.none) J rfl q
  | brk =>
    obtain ⟨_, _, _, q⟩ := hs
    exact False.elim q
  | cont =>
    obtain ⟨_, _, _, q⟩ := hs
    exact False.elim q
theorem okG {P : Program} {w : World} {K : PySem.W.Frag} {mg : Str → Option Value} {base : Heap} {x qual : Str} {st : Stmt} {f : Addr} {fd : FuncData} {N ps : List Str} {k : Nat} {sp : Sp} (F : L2.Fun K x qual st f fd) (S : FnScope N ps (defScope st)) (len : ∀ vs H Q E, sp vs H Q E → vs.length = ps.length)
    (hbody : ∀ (cdv : Value) (A : Around) (outer : List Env) (s : Shared) (H : Hp) (vs : List V) (Q : VK) (E : XK), Room k (A.deeper (envOfC qual (defScope st) s.heap.objs.size f cdv)) → A.guards = some [] → sp vs H Q E →
      ∃ t, PSs (cxOf CX0 P w K mg base N qual (defScope st) f cdv A outer s H E).nox (defBody st) t ∧ t { nx := fun _ H' => Q .non H', rt := Q } (start N vs) H) : FnG P w K mg base CX0 (k + 1) f fd ps sp := by
  obtain ⟨oc, od, kV, doc, pm, an, cdv, ct, osl, rfl, lk, hcd⟩ := F.ex
  refine fn_ofG lk hcd S len fun A outer s H vs Q E hr hg hsp => ?_
  obtain ⟨t, h, q⟩ := hbody cdv A outer s H vs Q E hr hg hsp
  exact ⟨t, h.nox, q⟩
theorem okGX {P : Program} {w : World} {K : PySem.W.Frag} {mg : Str → Option Value} {base : Heap} {x qual : Str} {st : Stmt} {f : Addr} {fd : FuncData} {N ps : List Str} {k : Nat} {sp : Sp} (F : L2.Fun K x qual st f fd) (S : FnScope N ps (defScope st)) (len : ∀ vs H Q E, sp vs H Q E → vs.length = ps.length)
    (hbody : ∀ (cdv : Value) (A : Around) (outer : List Env) (s : Shared) (H : Hp) (vs : List V) (Q : VK) (E : XK), Room k (A.deeper (envOfC qual (defScope st) s.heap.objs.size f cdv)) → A.guards = some [] → sp vs H Q E →
      ∃ t, PSs (cxOf (L2.CX P w) P w K mg base N qual (defScope st) f cdv A outer s H E) (defBody st) t ∧ t { nx := fun _ H' => Q .non H', rt := Q } (start N vs) H) : FnG P w K mg base (L2.CX P w) (k + 1) f fd ps sp := by
  obtain ⟨oc, od, kV, doc, pm, an, cdv, ct, osl, rfl, lk, hcd⟩ := F.ex
  exact fn_ofG lk hcd S len fun A outer s H vs Q E hr hg hsp => hbody cdv A outer s H vs Q E hr hg hsp
section
variable {X : Cx} {CX : CXT} {k : Nat} {f C : Addr} {fd : FuncData} {ps : List Str} {sp : Sp} {dvs : List V} {ds : List Value} {E : XK} {x m : Str} {p pos apos : Pos} {e o : Expr} {es : List Expr} {ta : TE} {t : TA}
theorem run_fnG {pins : List (Addr × Obj)} {σ : L2.St} {H : Hp} {s : Shared} {Q : VK} {us : List Value} {vs : List V} (F : FnG X.prog X.w X.K X.mg X.base CX k f fd ps sp) (hr : Room k X.A) (hgd : X.A.guards = some []) (hb : Binds X.K fd ps ds) (hd : Vals dvs ds) (hx : Passes CX X E)
    (I : Inv X pins σ H s) (r : Vals vs us) (h : sp (vs ++ dvs) H Q E) : wpAny (model X.prog X.w) X.A (call (.ref f) us) (EP X pins σ Q) X.xe s := by
  have r2 : Vals (vs ++ dvs) (us ++ ds) := r.append hd
  have hl : (us ++ ds).length = ps.length := by rw [← r2.length]; exact F.len _ _ _ _ h
  refine wpAny_call (codeAny_mono (F.run X.A X.stack s H ⟨us, []⟩ (us ++ ds) (vs ++ dvs) Q E hr hgd I.env0 (hb s us I.kIn hl) r2 h) fun r s' hq => ?_)
  cases r with
  | error e => exact hx pins σ H s e s' I hq
  | ok fl =>
    cases fl with
    | ret u => exact I.after hq
    | next => exact False.elim hq
    | brk => exact False.elim hq
    | cont => exact False.elim hq
theorem pe_callG (F : FnG X.prog X.w X.K X.mg X.base CX k f fd ps sp) (hr : Room k X.A) (hgd : X.A.guards = some []) (hg : Gl X x) (hm : X.mg x = some (.ref f)) (hk : PySem.W.keepIn X.K (.ref f) = true) (hb : Binds X.K fd ps ds) (hd : Vals dvs ds) (hx : Passes CX X E)
    (ha : PA X (e :: es) t) (hdb : (x == ("__debug__" : Str)) = false := by decide) (he : starEach (e :: es) X.env = (false, eval e X.env) :: starEach es X.env := by rfl) (hpl : (backTo pos (starEach es X.env)).any (·.1) = false := by rfl) :
    PE X (.Call (.Name x p) (e :: es) [] pos) (tCall sp dvs E t) := by
  refine ⟨fun pins s σ H Q I h => ?_⟩
  refine wpAny_Call_Name_kw (ld_glob I hg hm ?_ hdb)
  refine PySem.W.callWith_K (h₀ := X.base) I.ok.mod.kin hk (thn (ha.run pos pins s σ H _ I h) fun us s1 ⟨vs, H1, I1, r, q⟩ => ⟨I1.kIn, ?_⟩) he hpl
  exact run_fnG F hr hgd hb hd hx I1 r q
/-- repr of data -/
theorem call_reprD (hgd : X.A.guards = some []) (hu : X.A.units + 64 < cLine) : CallR X (.builtin "repr") (fun xs H Q => ∃ (x : V) (dt : PyData), xs = [x] ∧ Dp X.K H x dt ∧ dt.showable = true ∧ dt.hasDict = false ∧ dt.depth ≤ 60 ∧ dt.shown.length ≤ sizeLine ∧ Q (.str dt.shown) H) := by
  intro pins s σ H xs us Q I r h
  obtain ⟨x, dt, rfl, hD, h1, h2, h3, h4, q⟩ := h
  obtain ⟨u, rfl, ru⟩ := vals1 r
  obtain ⟨as, hr⟩ := Dp.reads I dt x u hD ru
  cases hD with
  | non =>
    cases (show u = Value.none from ru)
    exact PySem.P.repr_of_none ⟨.str _, H, I.tok _, ⟨_, rfl⟩, q⟩
  | bl b =>
    cases (show u = Value.bool b from ru)
    exact PySem.P.repr_of_bool ⟨.str _, H, I.tok _, ⟨_, rfl⟩, q⟩
  | int i =>
    obtain ⟨t, rfl⟩ := ru
    exact PySem.P.repr_of_int (of_decide_eq_true h1) ⟨.str _, H, I.tok _, ⟨_, rfl⟩, q⟩
  | str z =>
    obtain ⟨t, rfl⟩ := ru
    exact PySem.P.repr_of_str ⟨.str _, H, I.tok _, ⟨_, rfl⟩, q⟩ h4
  | lst hl ha =>
    cases ru
    refine repr_of_reads' hr h1 (fun z => by rw [h2] at z; cases z) hgd (by omega) (fun _ _ e => e) (fun h' u tk hk => ?_) h4
    exact ⟨.str _, H, (I.kept (t' := tk) hk), ⟨_, rfl⟩, q⟩
  | tup hl ha =>
    cases ru
    refine repr_of_reads' hr h1 (fun z => by rw [h2] at z; cases z) hgd (by omega) (fun _ _ e => e) (fun h' u tk hk => ?_) h4
    exact ⟨.str _, H, (I.kept (t' := tk) hk), ⟨_, rfl⟩, q⟩
end
end
/-! ### the law is called: no guard is up -/
section
open PySem PySem.Spec PyProof.Rows L2
theorem law_callG {P : Program} {w : World} {K : PySem.W.Frag} {mg mb : Str → Option Value} {CX : CXT} {k : Nat} {fa a : Addr} {fd : FuncData} {x : Str} {sp : Sp} {s₁ : Shared} {vs : List Value} {ns : List Int}
    (KX : K.In s₁.heap) (hns : s₁.heap.Ns mainGlobals mg) (hb : s₁.heap.Ns builtinsNs mb) (hbb : ∀ x : Str, x ≠ "__name__" → mb x = bootBuiltins x) (hlim : s₁.heap.NoLimit) (hg : s₁.gens = #[])
    (ha : s₁.heap.get? a = some { cls := .type "list", data := .seq vs.toArray }) (hi : IntsAre vs ns) (hl : ns.length ≤ sizeLine) (hr : Room k callerA)
    (F : ∀ base : Heap, K.In base → base.Ns mainGlobals mg → FnG P w K mg base CX k fa fd [x] sp) (hbind : ∀ (s : Shared) (u : Value), BindsTo s fd ⟨[u], []⟩ [(x, u)])
    (hsp : ∀ H : Hp, Only H → SqL K H a (ns.map V.int) → sp [.ref a] H (fun v _ => v = .bl true) fun _ _ _ => False)
    (hCX : ∀ H e s', CX [] H s₁ (fun _ _ _ => False) e s' → False) :
    codeAny (model P w) callerA (.call (.ref fa) ⟨[.ref a], []⟩) (fun r s' => r = .ok (.ret (.bool true)) ∧ OldK s₁.heap s'.heap ∧ s'.os = s₁.os ∧ AllBare s'.gens) s₁ := by
  have rv := vals_ints hi
  have lenV := hi.length
  -- from an abstract heap in which nothing but the script may be tracked
  have core : ∀ H : Hp, Only H → SqL K H a (ns.map V.int) → HOk P w H s₁.heap → (∀ b, H b ≠ none → b = a) → (H a ≠ none → K.lookup a = none) →
      codeAny (model P w) callerA (.call (.ref fa) ⟨[.ref a], []⟩) (fun r s' => r = .ok (.ret (.bool true)) ∧ OldK s₁.heap s'.heap ∧ s'.os = s₁.os ∧ AllBare s'.gens) s₁ := by
    intro H hO hS hok hA hK
    have base_of : ∀ {b : Addr} {o : Obj}, s₁.heap.get? b = some o → H b = none → (hidT s₁.heap H).get? b = some o := fun e n => hidT_get e n
    have noA : ∀ {b : Addr} {o : Obj} {es : Array DictEntry} {ep : Nat}, s₁.heap.get? b = some o → o.data = .dict es ep → H b = none := fun {b o es ep} e d => by
      cases q : H b with
      | none => rfl
      | some u =>
        have e' : b = a := hA b (by rw [q]; simp)
        subst e'
        rw [ha] at e; cases e
        have d' : Data.seq vs.toArray _ = Data.dict es ep := d
        cases d'
    have nsK : ∀ {b : Addr} {m : Str → Option Value}, s₁.heap.Ns b m → (hidT s₁.heap H).Ns b m := fun {b m} ⟨o, es, ep, e, d, r⟩ => ⟨o, es, ep, base_of e (noA e d), d, r⟩
    have hKb : K.In (hidT s₁.heap H) := fun b o e => base_of (KX b o e) (by
      cases q : H b with
      | none => rfl
      | some u =>
        have e' : b = a := hA b (by rw [q]; simp)
        subst e'
        rw [hK (by rw [q]; simp)] at e; cases e)
    have hM : Mod K mg (hidT s₁.heap H) := ⟨hKb, nsK hns, ⟨mb, nsK hb, hbb⟩, let ⟨mc, h1, h2⟩ := hlim; ⟨mc, nsK h1, h2⟩⟩
    have e0 : Env0 P w K mg (hidT s₁.heap H) callerA [] s₁ H := ⟨rfl, hM, fun b o e => of_hidT e, Nat.le_of_eq (hidT_size _ _), trivial, fun b hb => absurd (show b ∈ ([] : List Addr) from hb) (by simp), hok, .of_eq hg⟩
    refine codeAny_mono ((F _ hKb (nsK hns)).run callerA [] s₁ H ⟨[.ref a], []⟩ [.ref a] [.ref a] _ _ hr rfl e0 (hbind s₁ (.ref a)) (.cons rfl .nil) (hsp H hO hS)) fun r s' h => ?_
    cases r with
    | error e => exact (hCX H e s' h).elim
    | ok fl =>
      cases fl with
      | next => exact False.elim h
      | brk => exact False.elim h
      | cont => exact False.elim h
      | ret u =>
        obtain ⟨v, H', os, bare, un, hok', r', q⟩ := h
        have q' : v = .bl true := q
        subst q'
        obtain rfl : u = Value.bool true := r'
        refine ⟨rfl, OldK.of_keep fun b o e => ?_, os, bare⟩
        cases q : H b with
        | none => exact un.keep b o e q (by intro z; exact absurd (show b ∈ ([] : List Addr) from z) (by simp)) (by simp)
        | some u =>
          rcases hO b with z | ⟨ob, xs, z⟩
          · rw [q] at z; cases z
          · have z2 := un.frzs b ob _ z
            obtain ⟨e1, _⟩ := hok b _ z
            obtain ⟨e2, _⟩ := hok' b _ z2
            rw [e] at e1; cases e1
            exact e2
  cases hk : K.lookup a with
  | some o =>
    -- the script is one of the module's own objects
    have e := KX a o hk
    rw [ha] at e
    cases e
    refine core (fun _ => none) (fun _ => .inl rfl) (.inr ⟨_, vs.toArray, _, hk, rfl, rfl, rfl, by rw [List.size_toArray, lenV]; exact hl, by simpa using rv⟩) (fun b u z => by have z' : (none : Option HO) = some u := z; cases z') (fun b z => absurd rfl z) fun z => absurd rfl z
  | none =>
    refine core (fun b => if b = a then some (.frz { cls := .type "list", data := .seq vs.toArray } (.lst (ns.map V.int))) else none) (fun b => ?_) (.inl (.inr ⟨{ cls := .type "list", data := .seq vs.toArray }, if_pos rfl⟩)) (fun b u z => ?_) (fun b z => ?_) fun _ => hk
    · by_cases hb : b = a
      · exact .inr ⟨_, _, if_pos hb⟩
      · exact .inl (if_neg hb)
    · by_cases hb : b = a
      · have z' := (if_pos hb).symm.trans z
        cases z'
        subst hb
        exact ⟨ha, by rw [List.length_map]; exact hl, vs, _, rv, ha⟩
      · have z' := (if_neg hb).symm.trans z
        cases z'
    · by_cases hb : b = a
      · exact hb
      · exact absurd (if_neg hb) z
theorem walk_ofBG {l : PySem.W.OpenLaw} {n k : Nat} {q : Program} {loose : List Str} {XP : (Str → Option Value) → Heap → Prop} {YP : World → Heap → Prop} {d : DefRec} {K : Params → PySem.W.Frag} {CX : World → CXT} {sp : World → Sp} {x : Str}
    (hn : l.most = some n) (hn2 : n ≤ sizeLine) (hdf : d.params.defaults = []) (hr : Room k callerA)
    (hY : ∀ (w : World) (h : Heap), YP w h → (K w.params).In h)
    (F : ∀ (w : World) (mg : Str → Option Value) (fa : Addr) (h : Heap), (K w.params).In h → h.Ns mainGlobals mg → mg d.name = some (.ref fa) →
      ∃ fd : FuncData, (∀ (s : Shared) (u : Value), BindsTo s fd ⟨[u], []⟩ [(x, u)]) ∧
        ∀ base : Heap, (K w.params).In base → base.Ns mainGlobals mg → FnG l.prog w (K w.params) mg base (CX w) k fa fd [x] (sp w))
    (hsp : ∀ (w : World) (H : Hp) (a : Addr) (ns : List Int), ns.length ≤ n → (∀ z ∈ ns, Builtin.Int.intBits z ≤ 1048576) → Only H → SqL (K w.params) H a (ns.map V.int) → sp w [.ref a] H (fun v _ => v = .bl true) fun _ _ _ => False)
    (hCX : ∀ (w : World) (H : Hp) (s : Shared) (e : Value) (s' : Shared), CX w [] H s (fun _ _ _ => False) e s' → False) :
    PySem.W.WalkO q loose XP YP l.row.toRowW d [] (fun f vs => PySem.call f vs) := by
  refine Att.attach_callB hn hdf fun w s₀ s₁ mg mb fa o pm cd doc a vs ns G Y ho hd hcd hmg hobj hints hlen hbits hg => ?_
  have KX := hY w _ Y
  obtain ⟨fd, hb, hF⟩ := F w mg fa _ KX G.T.g hmg
  exact law_callG KX G.T.g G.T.b G.T.builtins G.T.nolimit hg hobj hints (Nat.le_trans hlen hn2) hr hF hb (fun H hO hS => hsp w H a ns hlen hbits hO hS) fun H e s' => hCX w H s₁ e s'
end
/-! ### what is never reached -/
section
variable {X : Cx}
theorem ps_no {st : Stmt} : PS X st (fun _ _ _ => False) := ⟨fun _ _ _ _ _ _ h => h.elim⟩
theorem xfc {P : Program} {K : PySem.W.Frag} {C fI : Addr} {st : Stmt} {q : Str} {ps : List Str} {fs : List (Str × Sum Nat Str)} (T : ErrC P K C fI st q ps fs) : XfC K C := ⟨T.ga, T.gg, T.exC, T.hdC⟩
end
theorem for_nil {K : PySem.W.Frag} {a : Addr} {g : TG} {tb : TS} {D : Ends} {σ : L2.St} {H : Hp} (hl : SqL K H a []) (hd : D.nx σ H) :
    ∃ W : Nat → Nat → L2.St → Hp → Prop, (∃ m, W 0 m σ H) ∧ ∀ i m σ H, W i m σ H →
      ((Itl K a).stop i H ∧ D.nx σ H) ∨ ((Itl K a).go i H ∧ ∃ N : L2.St → Hp → Prop, (∀ σ' H', N σ' H' → ∃ m', m' < m ∧ W (i + 1) m' σ' H') ∧ ∀ x H', (Itl K a).yld i H x H' → g x σ H' fun σ2 H2 => tb { D with nx := N, ct := N, bk := D.nx } σ2 H2) :=
  for_list (xs := []) (fun _ σ' H' => σ' = σ ∧ H' = H) ⟨rfl, rfl⟩ (fun i σ' H' _ p => p.2 ▸ hl) (fun i x σ' H' e _ => by simp at e) (fun σ' H' p => by rw [p.1, p.2]; exact hd)
/-! ### o.m(e, .., k = v, ..), with a wish by the slots -/
section
open PySem PySem.Spec PyProof.Rows
variable {X : Cx} {CX : CXT} {k n : Nat} {f C : Addr} {fd : FuncData} {ps ks : List Str} {sp : Sp} {E : L2.St → XK} {m : Str} {pos apos : Pos} {e o : Expr} {es : List Expr} {kws : List Keyword} {ta : TE} {t tk : TA} {g : List Value → List Value → List Value} {gV : List V → List V → List V}
def tMethK (C : Addr) (m : Str) (n j : Nat) (sp : Sp) (gV : List V → List V → List V) (E : L2.St → XK) (to : TE) (ta tk : TA) : TE := fun σ H Q => to σ H fun x H1 => ∃ a dx fs, x = .ref a ∧ H1 a = some (.ins C dx fs) ∧ fs.lookup m = none ∧ ta σ H1 fun vs H2 => tk σ H2 fun zs H3 => vs.length = n ∧ zs.length = j ∧ sp (gV (.ref a :: vs) zs) H3 Q (E σ)
theorem run_kw {pins : List (Addr × Obj)} {σ : L2.St} {H : Hp} {s : Shared} {Q : VK} {us ws : List Value} {vs zs : List V} (F : FnOk X.prog X.w X.K X.mg X.base CX k f fd ps sp) (hr : Room k X.A) (hb : KBn X.K fd ps n ks g gV) (hx : PassesAt CX X σ (E σ))
    (I : Inv X pins σ H s) (r : Vals vs us) (rz : Vals zs ws) (l1 : vs.length = n) (l2 : zs.length = ks.length) (h : sp (gV vs zs) H Q (E σ)) : wpAny (model X.prog X.w) X.A (call (.ref f) us (ks.zip ws)) (EP X pins σ Q) X.xe s := by
  have bt := hb.to s us ws I.kIn (r.length.symm.trans l1) (rz.length.symm.trans l2)
  refine wpAny_call (codeAny_mono (F.run X.A X.stack s H ⟨us, ks.zip ws⟩ (g us ws) (gV vs zs) Q (E σ) hr I.env0 bt (hb.rel r rz) h) fun q s' hq => ?_)
  match q, hq with
  | .error e, hq => exact hx pins H s e s' I hq
  | .ok (.ret u), hq => exact I.after hq
  | .ok .next, hq => exact hq.elim
  | .ok .brk, hq => exact hq.elim
  | .ok .cont, hq => exact hq.elim
theorem pe_methK {pl : Sem Bool} (ho : PE X o ta) (c : Cls X.K C) (hm : Meth X.K C m f) (F : FnOk X.prog X.w X.K X.mg X.base CX k f fd ps sp) (hr : Room k X.A) (hb : KBn X.K fd ps (n + 1) ks g gV) (hx : ∀ σ, PassesAt CX X σ (E σ)) (ha : PA X (e :: es) t) (hkw : PK X kws tk)
    (hall : (backToKw pos (keywordEach kws X.env)).all (·.1.isSome) = true := by rfl) (hks : (backToKw pos (keywordEach kws X.env)).filterMap (·.1) = ks := by rfl)
    (hst : starEach (e :: es) X.env = (false, eval e X.env) :: starEach es X.env := by rfl) (hpl : ((backTo pos (starEach (e :: es) X.env)).any (·.1) || (backToKw pos (keywordEach kws X.env)).any (·.1.isNone)) = false := by rfl)
    (ht : eval (.Call (.Attribute o m apos) (e :: es) kws pos) X.env = (do
      let ov ← eval o X.env
      standAt apos.atName
      let (f, first) ← holding [ov] (getMethod ov m pl)
      callWith pos f first (backTo pos (starEach (e :: es) X.env)) (backToKw pos (keywordEach kws X.env))) := by rfl) :
    PE X (.Call (.Attribute o m apos) (e :: es) kws pos) (tMethK C m n ks.length sp gV E ta t tk) := by
  refine ⟨fun pins s σ H Q I h => ?_⟩
  refine PySem.W.methodCall_KW (pl := pl) (thn (ho.run pins s σ H _ I h) fun u s1 ⟨x, H1, I1, rx, a, dx, fs, ex, ea, l, q⟩ => ?_) ht
  subst ex
  cases (show u = Value.ref a from rx)
  refine getmeth_ok I1 ea c hm l (PySem.W.callWith_KW (first := [.ref a]) (h₀ := X.base) I.ok.mod.kin hm.kp hall (thn (ha.run pos pins s1 σ H1 _ I1 q) fun us s2 ⟨vs, H2, I2, r, q2⟩ => ?_) hpl hst)
  refine thn (hkw.run pos pins s2 σ H2 _ I2 q2) fun ws s3 ⟨zs, H3, I3, rz, l1, l2, q3⟩ => ⟨I3.kIn, ?_⟩
  rw [hks]
  exact run_kw (us := .ref a :: us) (vs := .ref a :: vs) F hr hb (hx σ) I3 (.cons rfl r) rz (congrArg Nat.succ l1) l2 q3
end
/-! ### defs called while an exception is handled: its object stands aside -/
section
open PySem PySem.Spec PyProof.Rows
structure FnP (P : Program) (w : World) (K : PySem.W.Frag) (mg : Str → Option Value) (base : Heap) (CX : CXT) (k : Nat) (f : Addr) (fd : FuncData) (ps : List Str) (sp : Sp) : Prop where
  len : ∀ vs H Q E, sp vs H Q E → vs.length = ps.length
  run : ∀ (A : Around) (outer : List Env) (s : Shared) (H : Hp) (args : Args) (us : List Value) (vs : List V) (Q : VK) (E : XK) (p : Addr × Obj), L2H.RoomH k A → L2H.PinOk outer H s p → Env0 P w K mg base A outer s H → BindsTo s fd args (ps.zip us) → Vals vs us → sp vs H Q E →
    codeAny (model P w) A (.call (.ref f) args) (CR CX outer P w H s Q E) s
theorem fn_ofP {CX : CXT} {P : Program} {w : World} {K : PySem.W.Frag} {mg : Str → Option Value} {base : Heap} {k : Nat} {f : Addr} {name qual : Str} {params : Arguments} {body : List Stmt} {scope : Scope} {dV kV doc pm cdv ct oc : Value} {an od : Option Addr}
    {osl : Array (Option Value)} {N ps : List Str} {sp : Sp} (lk : K.lookup f = some ⟨oc, od, .func (PySem.W.fnOf name qual params body scope dV kV doc pm an cdv ct), osl⟩) (hcd : PySem.W.codeIn K cdv qual = true) (S : FnScope N ps scope)
    (len : ∀ vs H Q E, sp vs H Q E → vs.length = ps.length)
    (hbody : ∀ (A : Around) (outer : List Env) (s : Shared) (H : Hp) (vs : List V) (Q : VK) (E : XK) (p : Addr × Obj), L2H.RoomH k (A.deeper (envOfC qual scope s.heap.objs.size f cdv)) → sp vs H Q E →
      ∃ t, PSs (L2H.cxH CX P w K mg base N qual scope f cdv A outer s H E p) body t ∧ t { nx := fun _ H' => Q .non H', rt := Q } (L2.start N vs) H) :
    FnP P w K mg base CX (k + 1) f (PySem.W.fnOf name qual params body scope dV kV doc pm an cdv ct) ps sp := by
  refine ⟨len, fun A outer s H args us vs Q E p hr hp e0 hb r hsp => ?_⟩
  have kk : ∀ b o, base.get? b = some o → s.heap.get? b = some o := fun b o e => (e0.bs b o e).1
  have KX : K.In s.heap := e0.mod.kin.keeps kk
  have hk2 : ∀ y ∈ ps.zip us, scope.names.lookup y.1 = some .local ∨ (scope.names.lookup y.1 = some .cell ∧ ((cellsFrom (s.heap.objs.size + 1) scope.names []).lookup y.1).isSome = true) := fun y hy =>
    (S.par y.1 (List.of_mem_zip (a := y.1) (b := y.2) hy).1).imp id fun q => ⟨q, PySem.W.cellsFrom_some _ _ _ (.inl q)⟩
  refine codeAny_call_function hr.depth (KX _ _ lk) rfl S.co S.gen rfl (PySem.W.codeRec_of KX hcd) (hb _ _ _ _ (wpAny_newFunctionEnv_cells S.kind hk2 fun env he s1 x => ?_))
  subst he
  refine ⟨(e0.mod.nolimit.keeps kk).keeps x.toInCall.keep, codeAny_func ?_⟩
  obtain ⟨t, ht, hq⟩ := hbody A outer s H vs Q E p (hr.deeper _) hsp
  refine wpAny_mono (ht.run [] s1 _ H _ (L2H.inv_startH S hp e0 (len _ _ _ _ hsp) r x) hq) (fun fl s' hs => ?_) fun e s' hs => hs
  match fl, hs with
  | .ret u, ⟨v, σ', H', J, rv, q⟩ => exact ⟨v, H', J.os, J.bare, J.base, J.hok, rv, q⟩
  | .next, ⟨σ', H', J, q⟩ => exact ⟨.non, H', J.os, J.bare, J.base, J.hok, rfl, q⟩
  | .brk, ⟨_, _, _, q⟩ => exact q.elim
  | .cont, ⟨_, _, _, q⟩ => exact q.elim
theorem okP {P : Program} {w : World} {K : PySem.W.Frag} {mg : Str → Option Value} {base : Heap} {x qual : Str} {st : Stmt} {f : Addr} {fd : FuncData} {N ps : List Str} {k : Nat} {sp : Sp} (F : L2.Fun K x qual st f fd) (S : FnScope N ps (defScope st)) (len : ∀ vs H Q E, sp vs H Q E → vs.length = ps.length)
    (hbody : ∀ (cdv : Value) (A : Around) (outer : List Env) (s : Shared) (H : Hp) (vs : List V) (Q : VK) (E : XK) (p : Addr × Obj), L2H.RoomH k (A.deeper (envOfC qual (defScope st) s.heap.objs.size f cdv)) → sp vs H Q E →
      ∃ t, PSs (L2H.cxH CX0 P w K mg base N qual (defScope st) f cdv A outer s H E p).nox (defBody st) t ∧ t { nx := fun _ H' => Q .non H', rt := Q } (L2.start N vs) H) : FnP P w K mg base CX0 (k + 1) f fd ps sp := by
  obtain ⟨oc, od, kV, doc, pm, an, cdv, ct, osl, rfl, lk, hcd⟩ := F.ex
  refine fn_ofP lk hcd S len fun A outer s H vs Q E p hr hsp => ?_
  obtain ⟨t, h, q⟩ := hbody cdv A outer s H vs Q E p hr hsp
  exact ⟨t, h.nox, q⟩
section
variable {X : Cx} {CX : CXT} {k : Nat} {C p g a dx : Addr} {fs : List (Str × V)} {f : Str} {fd : FuncData} {ps : List Str} {sp : Sp} {dvs : List V} {ds : List Value} {E : XK} {e : Expr} {pos : Pos} {ta : TE}
/-- the exception that is handled stands aside here -/
def Aside (X : Cx) : Prop := ∃ q : Addr × Obj, q ∈ X.pn
theorem Aside.pin {pins : List (Addr × Obj)} {σ : L2.St} {H : Hp} {s : Shared} (h : Aside X) (I : Inv X pins σ H s) : ∃ q, L2H.PinOk X.stack H s q := by
  obtain ⟨q, hq⟩ := h
  obtain ⟨p1, p2, p3, p4, p5⟩ := I.pin q (List.mem_append_left _ hq)
  exact ⟨q, p1, p2, fun hm => (List.mem_cons.mp (I.stkSub q.1 hm)).elim p3 p4, p5⟩
/-- e.f, a property, there -/
theorem pe_propP (he : PE X e ta) (c : Cls X.K C) (hp : PropOf X.K C f p g) (F : FnP X.prog X.w X.K X.mg X.base CX0 k g fd ps sp) (hr : L2H.RoomH (k + 1) X.A) (hs : Aside X) (hb : Binds X.K fd ps ds) (hd : Vals dvs ds)
    (hab : attributeBase e f X.env (eval e X.env) = eval e X.env) : PE X (.Attribute e f pos) (tProp C sp dvs E0 ta) := by
  refine ⟨fun pins s σ H Q I h => ?_⟩
  refine attr_of hab (thn (he.run pins s σ H _ I h) fun u s1 ⟨x, H1, I1, rx, a, dx, fs, ex, ea, q⟩ => ?_)
  subst ex
  cases (show u = Value.ref a from rx)
  obtain ⟨mA, O, _, _, _, _⟩ := ins_get I1.hok ea
  obtain ⟨od, J, _⟩ := O.look
  obtain ⟨rest, hrec⟩ := hp.rec_
  have I2 := I1.tok (s1.toks + 1)
  obtain ⟨pq, hpq⟩ := hs.pin I2
  have hl : ([Value.ref a] ++ ds).length = ps.length := by
    have l1 := F.len _ _ _ _ q
    have l2 := hd.length
    simp only [List.length_append, List.length_cons, List.length_nil] at l1 ⊢
    omega
  have hc : (PySem.W.clsIn X.K C).isSome = true := by
    obtain ⟨cd, hc, _⟩ := PySem.W.any_some c.hd
    rw [hc]; rfl
  have pg := PySem.W.plainGet_of (c.get f)
  refine PySem.W.get_bind I1.kIn J pg.1 (PySem.W.findObj_data hc hp.at_ hp.get hp.tak) pg.2 (wpAny_call (PySem.W.prop_get (s := { s1 with toks := s1.toks + 1 }) I1.kIn hrec ?_))
  refine codeAny_mono (F.run X.A.in1 X.stack { s1 with toks := s1.toks + 1 } H1 ⟨[.ref a], []⟩ (.ref a :: ds) (.ref a :: dvs) Q _ pq ⟨by have := hr.dp; show X.A.depth + 3 * k + 5 < _; omega, by have := hr.un; show X.A.units + 1 + 16 * k + 200 < _; omega⟩ hpq I2.env0.in1 (hb _ [.ref a] I2.kIn hl) (.cons rfl hd) q) fun r s' hq => ?_
  match r, hq with
  | .error er, hq => exact hq.elim
  | .ok (.ret u), hq =>
    obtain ⟨v, H', I3, rv, q3⟩ := I2.after hq
    show wpAny _ _ (handedOut u) _ _ _
    rw [PySem.W.handedOut_of (handed_of rv)]
    exact wpAny_pure ⟨v, H', I3, rv, q3⟩
  | .ok .next, hq => exact hq.elim
  | .ok .brk, hq => exact hq.elim
  | .ok .cont, hq => exact hq.elim
end
end
/-! ### sets of texts -/
section
open PySem PySem.Spec PyProof.Rows
def keyT (e : Int × Value) : Str := match e.2 with
  | .str k _ => k
  | _ => Str.empty
/-- a table with the texts l, each once -/
structure TsOk (w : World) (es : Array (Int × Value)) (t : SetTable) (l : List Str) : Prop where
  good : ∀ e ∈ es.toList, ∃ k u, e = (hashStr w k, Value.str k u)
  perm : (es.toList.map keyT).Perm l
  nd : l.Nodup
  few : es.size < scanBound
  fit : t.fits es.size = true
  ris : L2.Ris t.place.toList
  led : w.params.followText "set-order" = true ∨ t.led = true
def TSet (w : World) (h : Heap) (a : Addr) (l : List Str) : Prop := ∃ o es ep t, h.get? a = some o ∧ o.ExactSet ∧ o.data = .set es ep t ∧ TsOk w es t l
section
variable {P : Program} {w : World} {h h' : Heap} {a : Addr} {l : List Str} {es : Array (Int × Value)} {t : SetTable}
theorem TSet.at (R : TSet w h a l) (k : ∀ o, h.get? a = some o → h'.get? a = some o) : TSet w h' a l := by
  obtain ⟨o, es, ep, t, ho, r⟩ := R
  exact ⟨o, es, ep, t, k o ho, r⟩
theorem str_isS (k : Str) (u : Tok) : (PySem.strKind P w).is k (.str k u) = true := by
  show Value.isStrOf k (.str k u) = true
  simp [Value.isStrOf]
theorem TsOk.elems (T : TsOk w es t l) : ElemsOf (PySem.strKind P w) es.toList := fun e he => by
  obtain ⟨k, u, rfl⟩ := T.good e he
  exact ⟨⟨k, str_isS k u, rfl⟩, rfl⟩
theorem TsOk.size (T : TsOk w es t l) : es.size = l.length := by
  have := T.perm.length_eq
  rwa [List.length_map, Array.length_toList] at this
theorem TsOk.is (T : TsOk w es t l) {e : Int × Value} (he : e ∈ es.toList) (k : Str) : (PySem.strKind P w).is k e.2 = true ↔ keyT e = k := by
  obtain ⟨j, u, rfl⟩ := T.good e he
  constructor
  · intro q
    exact ((PySem.strKind P w).inj (.str j u) k j q (str_isS j u)).symm
  · rintro rfl
    exact str_isS j u
theorem TsOk.mem (T : TsOk w es t l) (k : Str) : k ∈ l ↔ ∃ e ∈ es.toList, (PySem.strKind P w).is k e.2 = true := by
  rw [← T.perm.mem_iff, List.mem_map]
  exact ⟨fun ⟨e, he, q⟩ => ⟨e, he, (T.is he k).2 q⟩, fun ⟨e, he, q⟩ => ⟨e, he, (T.is he k).1 q⟩⟩
theorem TSet.setOf (R : TSet w h a l) : h.SetOf (PySem.strKind P w) a (fun k => decide (k ∈ l)) l.length := by
  obtain ⟨o, es, ep, t, ho, hx, hd, T⟩ := R
  exact ⟨o, es, ep, t, ho, hx, hd, T.elems, fun k => by rw [decide_eq_true_eq]; exact T.mem k, T.few, T.fit, T.size⟩
theorem TsOk.relay (T : TsOk w es t l) : TsOk w (relayAll t es (SetTable.grown es.size)).1 (relayAll t es (SetTable.grown es.size)).2.1 l := by
  have pm := relayAll_perm t es (SetTable.grown es.size)
  have hs : (relayAll t es (SetTable.grown es.size)).1.size = es.size := by rw [← Array.length_toList, pm.length_eq, Array.length_toList]
  exact ⟨fun e he => T.good e (pm.mem_iff.mp he), (pm.map keyT).trans T.perm, T.nd, by rw [hs]; exact T.few, relayAll_fits t es _, L2.relayAll_ris t es _, T.led.imp id fun z => by rw [L2.relayAll_led]; exact z⟩
theorem TsOk.off (T : TsOk w es t l) : TsOk w es { t with plain := false } l := ⟨T.good, T.perm, T.nd, T.few, SetTable.fits_plain_off T.fit, T.ris, T.led⟩
theorem TsOk.lay (T : TsOk w es t l) {k : Str} (u : Tok) (hk : k ∉ l) (room : l.length + 1 < scanBound) : TsOk w (layNew t es (hashStr w k) (.str k u)).1 (layNew t es (hashStr w k) (.str k u)).2.1 (k :: l) := by
  have pm := layNew_perm t es (hashStr w k) (.str k u)
  rw [Array.toList_push] at pm
  have pc := pm.trans (List.perm_append_singleton _ _)
  have pk : _ = _ := (pc.map keyT).length_eq
  have hs : (layNew t es (hashStr w k) (.str k u)).1.size = l.length + 1 := by
    rw [← Array.length_toList, pc.length_eq, List.length_cons, Array.length_toList, T.size]
  refine ⟨fun e he => ?_, (pc.map keyT).trans (T.perm.cons _), List.nodup_cons.mpr ⟨hk, T.nd⟩, by rw [hs]; exact room, layNew_fits t es _ _, L2.layNew_ris t es _ _ T.ris, T.led.imp id fun z => by rw [L2.layNew_led]; exact z⟩
  rcases List.mem_cons.mp (pc.mem_iff.mp he) with z | z
  · exact ⟨k, u, z⟩
  · exact T.good e z
theorem TSet.new (w : World) (h : Heap) : TSet w (h.push { cls := .type "set", dict := none, data := .set #[] 0 (.fresh 0 0 (!w.params.followText "set-order")) }) h.objs.size [] := by
  refine ⟨_, #[], 0, _, Heap.get?_push_size _ rfl, ⟨rfl, rfl, rfl⟩, rfl, (fun e he => by simp at he), by simp, List.nodup_nil, by decide, by rfl, List.Pairwise.nil, ?_⟩
  show _ ∨ (!w.params.followText "set-order") = true
  cases w.params.followText "set-order" <;> simp
end
/-- with k -/
def addT (k : Str) (l : List Str) : List Str := if k ∈ l then l else k :: l
theorem addT_mem {k j : Str} {l : List Str} : j ∈ addT k l ↔ j = k ∨ j ∈ l := by
  unfold addT
  split
  · rename_i h
    exact ⟨.inr, fun z => z.elim (fun e => e ▸ h) id⟩
  · exact List.mem_cons
theorem addT_nd {k : Str} {l : List Str} (h : l.Nodup) : (addT k l).Nodup := by
  unfold addT
  split
  · exact h
  · rename_i q
    exact List.nodup_cons.mpr ⟨q, h⟩
theorem addT_len {k : Str} {l : List Str} : (addT k l).length ≤ l.length + 1 := by
  unfold addT
  split <;> simp
section
variable {P : Program} {w : World} {A : Around} {E : Value → Shared → Prop} {s : Shared} {a : Addr} {l : List Str}
theorem ts_tail {g : Bool → Sem Unit} (hg : ∀ (b : Bool) (z : Shared) (q : Unit → Shared → Prop), q () z → wpAny (model P w) A (g b) q E z) {o : Obj} {es es1 : Array (Int × Value)} {ep : Nat} {t t2 : SetTable} (ho : s.heap.get? a = some o) (hex : o.ExactSet) (hd : o.data = .set es ep t)
    (T : TsOk w es1 t2 l) {wd : Bool} {R : Option Bool → Shared → Prop} (hR : ∀ h', Heap.SameBut a s.heap h' → TSet w h' a l → R (some true) { s with heap := h' }) :
    wpAny (model P w) A (do
        storeSet a es1 t2
        if (!wd && t2.tooFull) = true then do
            g (relayAll t2 es1 (SetTable.grown es1.size)).2.2
            storeSet a (relayAll t2 es1 (SetTable.grown es1.size)).1 (relayAll t2 es1 (SetTable.grown es1.size)).2.1
            pure (some true)
          else pure (some true)) R E s := by
  have sb := Heap.SameBut.update s.heap a (Obj.putSet es1 t2)
  have ho1 := L2.store_at (es' := es1) (t' := t2) ho hd
  refine wpAny_bind (wpAny_storeSet_of ho hd ?_ (fits_of_scanBound T.few))
  split
  · have T2 := T.relay
    generalize relayAll t2 es1 (SetTable.grown es1.size) = Z at T2 ⊢
    obtain ⟨es2, t3, gv⟩ := Z
    dsimp only at T2 ⊢
    refine wpAny_bind (hg _ _ _ (wpAny_bind (wpAny_storeSet_of ho1 rfl ?_ (fits_of_scanBound T2.few))))
    exact wpAny_pure (hR _ (sb.trans (Heap.SameBut.update _ a _)) ⟨_, es2, _, t3, L2.store_at (es' := es2) (t' := t3) ho1 rfl, hex, rfl, T2⟩)
  · exact wpAny_pure (hR _ sb ⟨_, es1, _, t2, ho1, hex, rfl, T⟩)
theorem ts_addH {k : Str} {u : Tok} {Q : Bool → Shared → Prop} (R : TSet w s.heap a l) (room : l.length + 1 < scanBound) (hQ : ∀ h' b, Heap.SameBut a s.heap h' → TSet w h' a (addT k l) → Q b { s with heap := h' }) :
    wpAny (model P w) A (setAddHashed a (.str k u) ((PySem.strKind P w).hash k)) Q E s := by
  obtain ⟨o, es, ep, t, ho, hex, hd, T⟩ := R
  have hel : ElemsOf (PySem.strKind P w) es.toList := T.elems
  have hgw : ∀ (b : Bool) (z : Shared) (q : Unit → Shared → Prop), q () z → wpAny (model P w) A (match b with | true => rule "set.scan.the-table-gave-way" | false => pure ()) q E z := fun b z q hq => by
    cases b
    · exact wpAny_pure hq
    · exact wpAny_rule hq
  unfold setAddHashed setAddHashedIn
  refine wpAny_holding (wpAny_bind (wpAny_setState_of ho hd T.fit ?_))
  dsimp only
  rw [byScan_of (show (Value.str k u).scannable = true from rfl) T.few hel]
  simp only [↓reduceIte]
  unfold setAddByScan
  refine wpAny_bind (wpAny_bind (wpAny_rule (wpAny_bind (wpAny_setScan_of (str_isS k u) ho hd T.fit hel ?_))))
  cases hfi : List.findIdx? (fun e => (PySem.strKind P w).is k e.2) es.toList with
  | some j =>
    dsimp only
    obtain ⟨hj, pj, _⟩ := List.findIdx?_eq_some_iff_getElem.mp hfi
    have hk : k ∈ l := (T.mem (P := P) k).2 ⟨_, List.getElem_mem hj, pj⟩
    refine wpAny_pure (wpAny_pure (hQ s.heap _ (Heap.SameBut.refl a s.heap) ?_))
    rw [show addT k l = l from if_pos hk]
    exact ⟨o, es, ep, t, ho, hex, hd, T⟩
  | none =>
    dsimp only
    have hk : k ∉ l := fun z => by
      obtain ⟨e, he, q⟩ := (T.mem (P := P) k).1 z
      have c := List.findIdx?_eq_none_iff.mp hfi e he
      rw [q] at c; cases c
    rw [show addT k l = k :: l from if_neg hk] at hQ
    have T1 : TsOk w (layNew t es ((PySem.strKind P w).hash k) (.str k u)).1 (layNew t es ((PySem.strKind P w).hash k) (.str k u)).2.1 (k :: l) := T.lay u hk room
    generalize layNew t es ((PySem.strKind P w).hash k) (.str k u) = Z at T1 ⊢
    obtain ⟨es1, t1, wd, gv⟩ := Z
    dsimp only at T1 ⊢
    refine wpAny_bind (hgw _ _ _ ?_)
    split
    · refine wpAny_bind ?_
      rw [hashByValue_scannable 8 (x := Value.str k u) rfl]
      refine wpAny_pure (ts_tail (l := k :: l) ?_ ho hex hd ?_ fun h' sb r => ?_)
      · exact fun b z q hq => hgw b z q hq
      · split
        · exact T1
        · exact T1.off
      · dsimp only
        exact wpAny_pure (hQ h' _ sb r)
    · refine wpAny_bind (wpAny_pure ?_)
      simp only [↓reduceIte]
      refine ts_tail ?_ ho hex hd T1 fun h' sb r => ?_
      · exact fun b z q hq => hgw b z q hq
      · dsimp only
        exact wpAny_pure (hQ h' _ sb r)
end
end
/-! ### sets of texts, tracked: add, comprehensions, sorted -/
section
open PySem PySem.Spec PyProof.Rows
def TSO (w : World) (a : Addr) (l : List Str) : HO := .ext fun h => TSet w h a l
theorem tso_new {w : World} {P : Program} {H : Hp} {h : Heap} {a : Addr} {l : List Str} (R : TSet w h a l) : ObjOk P w H h a (TSO w a l) := by
  have ⟨o, _, _, _, ho, _⟩ := R
  exact ⟨R, ⟨o, ho⟩, fun _ _ q k => q.at k⟩
section
variable {X : Cx}
theorem tso_get {pins : List (Addr × Obj)} {σ : L2.St} {H : Hp} {s : Shared} {a : Addr} {l : List Str} (I : Inv X pins σ H s) (ha : H a = some (TSO X.w a l)) : TSet X.w s.heap a l := (I.hok a _ ha).1
theorem ts_add {pins : List (Addr × Obj)} {σ : L2.St} {H : Hp} {s : Shared} {E : Value → Shared → Prop} {D : Addr} {l : List Str} {k : Str} {u : Tok} {Q : Value → Shared → Prop} (I : Inv X pins σ H s) (hD : H D = some (TSO X.w D l)) (room : l.length + 1 < scanBound)
    (h : ∀ s', Inv X pins σ (upd H D (TSO X.w D (addT k l))) s' → Q .none s') : wpAny (model X.prog X.w) X.A (call (.builtin "set.add") [.ref D, .str k u]) Q E s := by
  have R := tso_get I hD
  have hS : s.heap.SetOf (PySem.strKind X.prog X.w) D (fun k => decide (k ∈ l)) l.length := R.setOf
  refine wpAny_call_entry F.slot_set_add hS.typeIs F.entry_set_add ?_ (F.args_set_add_2 _ _)
  unfold Builtin.«set.add» Builtin.Frozenset.oneOther
  simp only [List.isEmpty_nil, bind_assoc]
  unfold Builtin.Frozenset.addrOf setAdd
  refine wpAny_bind (wpAny_pure ?_)
  try dsimp only
  refine wpAny_bind (wpAny_pure ?_)
  try dsimp only
  refine wpAny_bind (wpAny_holding (wpAny_bind ((PySem.strKind X.prog X.w).pyHash (str_isS k u) (ts_addH (s := { s with toks := s.toks + 1 }) R room fun h' b sb new => ?_))))
  have he : ∃ v, h'.get? D = some v := let ⟨o, _, _, _, ho, _⟩ := new; ⟨o, ho⟩
  exact wpAny_pure ⟨_, rfl, h _ (I.write (e := D) (t' := s.toks + 1) (by rw [hD]; trivial) (.inl rfl) (fun b v hb hu => (sb.2 b hb).trans hu) he (tso_new new))⟩
/-- {elt for target in iter if ..}, elt a text: D the new set -/
def tScT (w : World) (wi : TI) (g : TG) (tt : TT) (te : TE) (vs : List Nat) : TE := fun σ H Q => wi σ H fun J H1 => ∀ D, H1 D = none → ∃ W : Nat → Nat → Hp → Prop, (∃ m, W 0 m (upd H1 D (TSO w D []))) ∧ ∀ i m H, W i m H →
  (J.stop i H ∧ Q (.ref D) H) ∨ (J.go i H ∧ ∃ Nx : Hp → Prop, (∀ H', Nx H' → ∃ m', m' < m ∧ W (i + 1) m' H') ∧ ∀ x H', J.yld i H x H' → g x (wipe σ vs) H' fun σ2 H2 => wipe σ2 vs = wipe σ vs ∧ tt σ2 H2 fun b H3 =>
    if b = true then te σ2 H3 fun y H4 => ∃ (c : Str) (l : List Str), y = .str c ∧ H4 D = some (TSO w D l) ∧ l.length + 1 < scanBound ∧ Nx (upd H4 D (TSO w D (addT c l))) else Nx H3)
theorem pe_scT {elt tg iter : Expr} {ifs : List Expr} {scope : Scope} {own : List (Str × Nat)} {pos : Pos} {wi : TI} {g : TG} {tt : TT} {te : TE} (hc : X.calm = true) (hN : X.N.Nodup) (hi : PI X tg iter wi) (ok : BlkOk X.N X.env.scope scope own)
    (hg : ∀ (s : Shared) (H : Hp) (C : Addr) (cl : List (Str × Addr)) (fp : List Addr), PG (X.blk s H scope (compEnvC scope cl C X.env) fp) tg g) (ht : ∀ (s : Shared) (H : Hp) (C : Addr) (cl : List (Str × Addr)) (fp : List Addr), PTs (X.blk s H scope (compEnvC scope cl C X.env) fp) ifs tt)
    (he : ∀ (s : Shared) (H : Hp) (C : Addr) (cl : List (Str × Addr)) (fp : List Addr), PE (X.blk s H scope (compEnvC scope cl C X.env) fp) elt te) (hs : ∀ x, foldedSetIterable iter X.env x = pure x := by intro _; rfl) :
    PE X (.SetComp elt [⟨tg, iter, ifs, 0⟩] scope pos) (tScT X.w wi g tt te (own.map (·.2))) := by
  refine ⟨fun pins s σ H Q I h => ?_⟩
  rw [PpSet.eval_SetComp]
  have fr : ∀ y ∈ scope.names, y.2 = .free → ∃ c, X.env.cells.lookup y.1 = some c := fun y hy e => (ok.free y hy e).elim (fun k => I.ok.has _ (.inl k)) fun k => I.ok.has _ (.inr k)
  refine wpAny_comprehension_free (use := none) rfl hs (closure_ok fr) ok.kind (fun y hy e => by rw [ok.uniq y hy, e]) (thn (hi.run pins s σ H _ I h) fun xv s1 hx => thn hx fun itv s2 h2 => ?_)
  obtain ⟨it, fp, tn, J, H2, rfl, I2, T, st2, f2, q⟩ := h2
  refine PpSet.newSet_ok (newEnv_comp ?_)
  generalize hD : s2.heap.objs.size = D
  obtain ⟨W, ⟨m0, w0⟩, turn⟩ := q D (I2.hok.fresh (Nat.le_of_eq hD))
  generalize hs3 : ({ s2 with heap := s2.heap.push { cls := .type "set", dict := none, data := .set #[] 0 (.fresh 0 0 (!X.w.params.followText "set-order")) } } : Shared) = s3
  have e3 : s3.heap = s2.heap.push { cls := .type "set", dict := none, data := .set #[] 0 (.fresh 0 0 (!X.w.params.followText "set-order")) } := by rw [← hs3]
  have I3 : Inv X pins σ (upd H2 D (TSO X.w D [])) s3 := by
    rw [← hs3]
    exact I2.laid (t' := s2.toks) (fun b o e => Heap.get?_push_of_some _ e) (Nat.le_of_eq hD) (hD ▸ tso_new (TSet.new X.w s2.heap))
  have f3 : ∀ b ∈ fp, FpOk X pins (upd H2 D (TSO X.w D [])) b ∧ b < s3.heap.objs.size := fun b hb => by
    obtain ⟨o, e, _⟩ := T.obj _ _ st2 b hb
    have lt := Heap.lt_size e
    refine ⟨⟨?_, (f2 b hb).2⟩, by rw [e3, Heap.size_push]; exact Nat.lt_succ_of_lt lt⟩
    rw [upd_ne (by rw [← hD]; exact Nat.ne_of_lt lt)]
    exact (f2 b hb).1
  have I4 := block_start I3 ok hN f3
  have pg := hg s3 (upd H2 D (TSO X.w D [])) s3.heap.objs.size (cellsFrom (s3.heap.objs.size + 1) scope.names (cloFrom X.env.cells scope.names [])) fp
  have pt := ht s3 (upd H2 D (TSO X.w D [])) s3.heap.objs.size (cellsFrom (s3.heap.objs.size + 1) scope.names (cloFrom X.env.cells scope.names [])) fp
  have pe := he s3 (upd H2 D (TSO X.w D [])) s3.heap.objs.size (cellsFrom (s3.heap.objs.size + 1) scope.names (cloFrom X.env.cells scope.names [])) fp
  have fin0 : ∀ s' m H', Inv X pins σ H' s' → Q (.ref D) H' → s'.heap.Ns s3.heap.objs.size m → FpOk X pins H' s3.heap.objs.size → compPost (model X.prog X.w) X.A X.xe none (EP X pins σ Q) (.ref D) s3.heap.objs.size (.ok .next) s' := fun s' m H' I' q hn f => by
    obtain ⟨f0, f1, f2, f3, f4, f5⟩ := f
    exact ⟨m, hn, fun h'' sb => ⟨.ref D, H', I'.turned (t' := s'.toks) (fun b o hb e => (sb.2 b hb).trans e) f0 f1 f3 f4 f5, rfl, q⟩⟩
  show codeAny _ _ (.compStart (.SetComp elt [⟨tg, iter, ifs, 0⟩] scope pos) 0 (.ref it) (.ref D) (compEnvC scope (cellsFrom (s3.heap.objs.size + 1) scope.names (cloFrom X.env.cells scope.names [])) s3.heap.objs.size X.env)) (compPost (model X.prog X.w) X.A X.xe none (EP X pins σ Q) (.ref D) s3.heap.objs.size) { s3 with heap := pushCells (s3.heap.push { cls := .type "dict", data := .dict #[] }) scope.names }
  have nfp : ∀ b ∈ fp, (upd H2 D (TSO X.w D [])) b = none := fun b hb => (f3 b hb).1.1
  have st3 : tn 0 s3.heap := T.keep _ _ _ st2 fun b _ o e => by rw [e3]; exact Heap.get?_push_of_some _ e
  generalize hce : compEnvC scope (cellsFrom (s3.heap.objs.size + 1) scope.names (cloFrom X.env.cells scope.names [])) s3.heap.objs.size X.env = ce at I4 pg pt pe ⊢
  have cL : ce.locals = s3.heap.objs.size := by subst hce; rfl
  generalize hH3 : upd H2 D (TSO X.w D []) = H3 at I3 I4 pg pt pe w0 nfp f3
  generalize hs4 : ({ s3 with heap := pushCells (s3.heap.push { cls := .type "dict", data := .dict #[] }) scope.names } : Shared) = s4 at I4 ⊢
  have st4 : tn 0 s4.heap := T.keep _ _ _ st3 fun b _ o e => by rw [← hs4]; exact pushCells_keeps _ _ _ _ (Heap.get?_push_of_some _ e)
  have stat : ∀ {σ' : L2.St} {H' : Hp} {s' : Shared}, Inv (X.blk s3 H3 scope ce fp) [] σ' H' s' → (∀ b ∈ fp, H' b = none) → ∀ b ∈ fp, FpOk (X.blk s3 H3 scope ce fp) [] H' b := fun {σ' H' s'} J hn b hb =>
    ⟨hn b hb, (J.ok.exf b hb).1, J.ok.exfs b hb, .inl hb, fun x c e => (J.ok.exf b hb).2 x c e, fun p hp => absurd (show p ∈ ([] : List (Addr × Obj)) ++ [] from hp) (by simp)⟩
  have loop : codeAny (model X.prog X.w) X.A (.compLoop (.SetComp elt [⟨tg, iter, ifs, 0⟩] scope pos) 0 (.ref it) (.ref D) ce) (compPost (model X.prog X.w) X.A X.xe none (EP X pins σ Q) (.ref D) s3.heap.objs.size) s4 := by
    refine PpSet.compLoopS_any (fun n s' => ∃ i H', Inv (X.blk s3 H3 scope ce fp) [] (wipe σ (own.map (·.2))) H' s' ∧ tn i s'.heap ∧ (∀ b ∈ fp, H' b = none) ∧ W i n H') ?_ m0 ⟨0, H3, I4, st4, nfp, w0⟩
    rintro n s5 ⟨i, H5, I5, st5, n5, w5⟩
    rcases turn i n H5 w5 with ⟨stop, qq⟩ | ⟨go, Nx, hNx, step⟩
    · refine thnF (T.done (X.blk s3 H3 scope ce fp) rfl rfl rfl hc i [] s5 _ H5 (fun _ _ => False) I5 (stat I5 n5) st5 stop) fun r s6 ⟨hr, I6⟩ => ?_
      subst hr
      have I7 : Inv X pins σ H5 s6 := I3.call' (ch := fp) I6.os I6.base I6.hok I6.bare fun b hb => let ⟨_, g1, _, g3, g4, g5⟩ := (f3 b hb).1; ⟨g3, g1, g4, g5⟩
      have nC : H5 ce.locals = none := I6.free
      obtain ⟨m, hn, _⟩ := I6.loc
      have hn : s6.heap.Ns ce.locals m := hn
      rw [cL] at hn nC
      exact fin0 s6 m H5 I7 qq hn (I3.fpOk (Nat.le_refl _) nC)
    · refine thnF (T.item (X.blk s3 H3 scope ce fp) rfl rfl rfl hc i [] s5 _ H5 (fun _ _ => False) I5 (stat I5 n5) st5 go) fun r s6 ⟨u, hr, h6⟩ => ?_
      subst hr
      refine thnF h6 fun _ s7 ⟨x, H7, I7, r7, y7, st7, n7⟩ => ?_
      refine thnF (pg.run _ s7 _ H7 x u _ (I7.pinned (stat I7 n7) (T.obj _ _ st7)) r7 (step x H7 y7)) fun _ s8 ⟨σ8, H8, I8, hw8, q8⟩ => ?_
      refine thnF (pt.run _ s8 σ8 H8 _ I8 q8) fun b s9 ⟨H9, I9, q9⟩ => ?_
      have back : ∀ {s' : Shared} {H' : Hp}, Inv (X.blk s3 H3 scope ce fp) ([] ++ pinsAt fp s7.heap) σ8 H' s' → Nx H' → ∃ m, m < n ∧ ∃ i H', Inv (X.blk s3 H3 scope ce fp) [] (wipe σ (own.map (·.2))) H' s' ∧ tn i s'.heap ∧ (∀ b ∈ fp, H' b = none) ∧ W i m H' := fun {s' H'} J nx => by
        obtain ⟨m', hm, w'⟩ := hNx H' nx
        have pin : ∀ b ∈ fp, ∀ o, s7.heap.get? b = some o → s'.heap.get? b = some o ∧ H' b = none := fun b hb o e =>
          let z := J.pin (b, o) (List.mem_append_right _ (List.mem_append_right _ (mem_pinsAt hb e))); ⟨z.1, z.2.1⟩
        refine ⟨m', hm, i + 1, H', (J.unpinned (pins := [])).weak (by rw [← hw8, wipe_length]) (fun j v e => ?_), T.keep _ _ _ st7 fun b hb o e => (pin b hb o e).1, fun b hb => ?_, w'⟩
        · rw [← hw8] at e
          exact (wipe_some e).1
        · obtain ⟨o, e, _⟩ := T.obj _ _ st7 b hb
          exact (pin b hb o e).2
      cases b with
      | false =>
        simp only [Bool.false_eq_true, if_false] at q9 ⊢
        exact back I9 q9
      | true =>
        simp only [if_true] at q9 ⊢
        refine thnF (pe.run _ s9 σ8 H9 _ I9 q9) fun z s10 ⟨yv, H10, I10, r10, c, l, ey, hD10, hz10, nx⟩ => ?_
        subst ey
        obtain ⟨tk, rfl⟩ := r10
        exact ts_add (X := X.blk s3 H3 scope ce fp) I10 hD10 hz10 fun s11 I11 => back I11 nx
  exact PpSet.codeAny_compStart_set loop (T.self X.A 0 _ _ _ st4 loop)
end
/-- over a list that the block leaves as it is -/
theorem sc_listT {w : World} {K : PySem.W.Frag} {a : Addr} {xs : List V} {g : TG} {tt : TT} {te : TE} {vs : List Nat} {σ : L2.St} {H1 : Hp} {D : Addr} {Qd : Hp → Prop} (Pv : Nat → Hp → Prop) (h0 : Pv 0 (upd H1 D (TSO w D []))) (hl : ∀ i H, i ≤ xs.length → Pv i H → SqL K H a xs)
    (hs : ∀ i x H, xs[i]? = some x → Pv i H → g x (wipe σ vs) H fun σ2 H2 => wipe σ2 vs = wipe σ vs ∧ tt σ2 H2 fun b H3 =>
      if b = true then te σ2 H3 fun y H4 => ∃ (c : Str) (l : List Str), y = .str c ∧ H4 D = some (TSO w D l) ∧ l.length + 1 < scanBound ∧ Pv (i + 1) (upd H4 D (TSO w D (addT c l))) else Pv (i + 1) H3) (hd : ∀ H, Pv xs.length H → Qd H) :
    ∃ W : Nat → Nat → Hp → Prop, (∃ m, W 0 m (upd H1 D (TSO w D []))) ∧ ∀ i m H, W i m H →
      ((Itl K a).stop i H ∧ Qd H) ∨ ((Itl K a).go i H ∧ ∃ Nx : Hp → Prop, (∀ H', Nx H' → ∃ m', m' < m ∧ W (i + 1) m' H') ∧ ∀ x H', (Itl K a).yld i H x H' → g x (wipe σ vs) H' fun σ2 H2 => wipe σ2 vs = wipe σ vs ∧ tt σ2 H2 fun b H3 =>
        if b = true then te σ2 H3 fun y H4 => ∃ (c : Str) (l : List Str), y = .str c ∧ H4 D = some (TSO w D l) ∧ l.length + 1 < scanBound ∧ Nx (upd H4 D (TSO w D (addT c l))) else Nx H3) := by
  refine ⟨fun i m H => m = xs.length - i ∧ i ≤ xs.length ∧ Pv i H, ⟨xs.length, (Nat.sub_zero _).symm, Nat.zero_le _, h0⟩, ?_⟩
  rintro i m H ⟨rfl, hi, p⟩
  have q := hl i H hi p
  rcases Nat.lt_or_ge i xs.length with lt | ge
  · refine .inr ⟨⟨xs, xs[i], q, by simp [lt]⟩, Pv (i + 1), fun H' p' => ⟨xs.length - (i + 1), by omega, rfl, lt, p'⟩, fun x H' y => ?_⟩
    obtain ⟨e, y⟩ := y
    subst e
    exact hs i x _ (y xs q) p
  · obtain rfl : i = xs.length := Nat.le_antisymm hi ge
    exact .inl ⟨⟨xs, q, Nat.le_refl _⟩, hd H p⟩
end
/-! ### sorted texts -/
section
open PySem PySem.Spec PyProof.Rows
/-- x stands ahead of y, or they are the same -/
def leT (x y : Str) : Prop := ¬ y.cps.toList < x.cps.toList
instance (x y : Str) : Decidable (leT x y) := inferInstanceAs (Decidable (¬ _))
theorem str_ext {x y : Str} (h : x.cps.toList = y.cps.toList) : x = y := by
  cases x
  cases y
  exact congrArg Str.mk (Array.toList_inj.mp h)
theorem nlt_irrefl : ∀ l : List Nat, ¬ l < l := List.lt_irrefl
theorem leT_refl (x : Str) : leT x x := List.lt_irrefl _
theorem leT_anti {x y : Str} (h : leT x y) (k : leT y x) : x = y := str_ext (List.le_antisymm (List.not_lt.mp h) (List.not_lt.mp k))
theorem leT_trans {x y z : Str} (h : leT x y) (k : leT y z) : leT x z := List.not_lt.mpr (List.le_trans (List.not_lt.mp h) (List.not_lt.mp k))
theorem leT_total (x y : Str) : leT x y ∨ leT y x := by
  rcases List.le_total x.cps.toList y.cps.toList with h | h
  · exact .inl (List.not_lt.mpr h)
  · exact .inr (List.not_lt.mpr h)
theorem rising_pw : ∀ (l : List Str) (p : Str), risingS p l = true → (p :: l).Pairwise leT
  | [], p, _ => by simp
  | x :: r, p, h => by
    have h1 : (leT p x) ∧ risingS x r = true := by
      unfold risingS at h
      rw [Bool.and_eq_true, PyProof.Rows.ltCps_eq, Bool.not_eq_true', decide_eq_false_iff_not] at h
      exact h
    have ih := rising_pw r x h1.2
    refine List.pairwise_cons.mpr ⟨fun y hy => ?_, ih⟩
    rcases List.mem_cons.mp hy with rfl | hy
    · exact h1.1
    · exact leT_trans h1.1 ((List.pairwise_cons.mp ih).1 y hy)
theorem sorted_pw {l : List Str} (h : sortedS l = true) : l.Pairwise leT := by
  cases l with
  | nil => exact .nil
  | cons x r => exact rising_pw r x h
theorem pw_unique : ∀ {l m : List Str}, l.Perm m → l.Pairwise leT → m.Pairwise leT → l = m
  | [], m, p, _, _ => (List.perm_nil.mp p.symm).symm
  | x :: l, m, p, hl, hm => by
    cases m with
    | nil => exact absurd (List.perm_nil.mp p) (by simp)
    | cons y m =>
      have e : x = y := by
        have h1 : x ∈ y :: m := p.mem_iff.mp List.mem_cons_self
        have h2 : y ∈ x :: l := p.mem_iff.mpr List.mem_cons_self
        rcases List.mem_cons.mp h1 with e | h1
        · exact e
        rcases List.mem_cons.mp h2 with e | h2
        · exact e.symm
        exact leT_anti ((List.pairwise_cons.mp hl).1 y h2) ((List.pairwise_cons.mp hm).1 x h1)
      subst e
      rw [pw_unique (List.perm_cons _ |>.mp p) (List.pairwise_cons.mp hl).2 (List.pairwise_cons.mp hm).2]
/-- sorted -/
def sortT (l : List Str) : List Str := l.mergeSort fun x y => decide (leT x y)
theorem sortT_perm (l : List Str) : (sortT l).Perm l := List.mergeSort_perm l _
theorem sortT_pw (l : List Str) : (sortT l).Pairwise leT := by
  have h := List.pairwise_mergeSort (le := fun x y => decide (leT x y)) (fun a b c h k => by
    rw [decide_eq_true_eq] at h k ⊢
    exact leT_trans h k) (fun a b => by
    rw [Bool.or_eq_true, decide_eq_true_eq, decide_eq_true_eq]
    exact leT_total a b) l
  exact h.imp fun h => of_decide_eq_true h
theorem sortT_of {l ys : List Str} (p : ys.Perm l) (h : sortedS ys = true) : ys = sortT l := pw_unique (p.trans (sortT_perm l).symm) (sorted_pw h) (sortT_pw l)
theorem sortT_congr {l m : List Str} (p : l.Perm m) : sortT l = sortT m := pw_unique ((sortT_perm l).trans (p.trans (sortT_perm m).symm)) (sortT_pw l) (sortT_pw m)
theorem sortT_mem {l : List Str} {k : Str} : k ∈ sortT l ↔ k ∈ l := (sortT_perm l).mem_iff
theorem sortT_len {l : List Str} : (sortT l).length = l.length := (sortT_perm l).length_eq
theorem nd_perm {l m : List Str} (hl : l.Nodup) (hm : m.Nodup) (h : ∀ k, k ∈ l ↔ k ∈ m) : l.Perm m := by
  rw [List.perm_iff_count]
  intro k
  rw [hl.count, hm.count]
  simp [h k]
theorem strs_ofV : ∀ (l : List Value), (∀ v ∈ l, ∃ k u, v = Value.str k u) → ∃ ss, StrsAre l ss ∧ l.map (fun v => keyT (0, v)) = ss
  | [], _ => ⟨[], .nil, rfl⟩
  | v :: l, h => by
    obtain ⟨k, u, rfl⟩ := h v List.mem_cons_self
    obtain ⟨ss, h1, h2⟩ := strs_ofV l fun x hx => h x (List.mem_cons_of_mem _ hx)
    exact ⟨k :: ss, .cons k u h1, by rw [List.map_cons, h2]; rfl⟩
section
variable {P : Program} {w : World} {A : Around} {E : Value → Shared → Prop} {s : Shared} {a : Addr} {l : List Str}
theorem ts_sorted {Q : Value → Shared → Prop} (R : TSet w s.heap a l) (hh : A.handled = none)
    (hQ : ∀ s' p (out : Array Value) (c : Nat), (∀ b o, s.heap.get? b = some o → s'.heap.get? b = some o) → s'.gens = s.gens → s'.os = s.os → s.heap.objs.size ≤ p → s'.heap.get? p = some (seqObj "list" out c) → StrsAre out.toList (sortT l) → Q (.ref p) s') :
    wpAny (model P w) A (call (.builtin "sorted") [.ref a]) Q E s := by
  obtain ⟨o, es, ep, t, ho, hex, hd, T⟩ := R
  refine Calls.call_function_entry kind_sorted plain_sorted entry_sorted (args_sorted1 _) ?_
  unfold Builtin.«sorted»
  refine wpAny_bind (m := checkCount "sorted" 1 1 _) (wpAny_pure (wpAny_bind (L2.collect_set (A := A.in1) hh ⟨o, ho, hex.1, hd⟩ T.fit T.few T.ris T.led fun s1 vs k1 hz g1 o1 pm => ?_)))
  obtain ⟨ss, hS, es'⟩ := strs_ofV vs fun v hv => by
    obtain ⟨e, he, q⟩ := List.mem_map.mp (pm.mem_iff.mp hv)
    obtain ⟨k, u, rfl⟩ := T.good e he
    exact ⟨k, u, q.symm⟩
  have ps : ss.Perm l := by
    have q := pm.map fun v => keyT (0, v)
    rw [es', List.map_map] at q
    exact q.trans T.perm
  have hv : vs.length = l.length := by rw [pm.length_eq, List.length_map, Array.length_toList, T.size]
  have hL : vs.length ≤ sizeLine := by rw [hv, ← T.size]; exact fits_of_scanBound T.few
  refine wpAny_bind (wpAny_newList ?_ hL)
  have hoL : (s1.heap.push (seqObj "list" vs.toArray 0)).get? s1.heap.objs.size = some (seqObj "list" vs.toArray 0) := Heap.get?_push_size _ rfl
  refine wpAny_bind (wpAny_holding (wpAny_call_entry slot_list_sort ⟨_, hoL, rfl⟩ entry_list_sort (list_sort_treeKAny strKind_oneLt hoL hS.keysOf (fun v₁ v₂ rest e => keyKind_strs (by rw [← e]; exact hS)) hL fun st' hp hs => ⟨_, rfl, ?_⟩) (args_list_sort _)))
  obtain ⟨ys, h1, h2, h3⟩ := sorted_out_str hS hp hs
  obtain ⟨c, hc⟩ := sortedHeap_at (vs := vs) (out := (arrOf st').map (·.2)) hoL
  rw [sortT_of (h2.trans ps) h3] at h1
  refine wpAny_pure ⟨_, rfl, hQ _ s1.heap.objs.size _ c (fun b u e => ?_) g1 o1 hz hc h1⟩
  have q := k1 b u e
  have lt := Heap.lt_size q
  show (sortedHeap (s1.heap.push (seqObj "list" vs.toArray 0)) s1.heap.objs.size vs _).get? b = some u
  rw [sortedHeap_old (Nat.ne_of_lt lt) (by rw [size_push']; exact Nat.lt_succ_of_lt lt)]
  exact Heap.get?_push_of_some _ q
end
section
variable {X : Cx}
/-- sorted(found) -/
theorem cr_sortTS (hc : X.calm = true) : CallR X (.builtin "sorted") (fun vs H Q => ∃ (a : Addr) (l : List Str), vs = [V.ref a] ∧ H a = some (TSO X.w a l) ∧ ∀ p, H p = none → Q (.ref p) (upd H p (.lst ((sortT l).map V.str)))) := by
  intro pins s σ H vs us Q I r h
  obtain ⟨a, l, rfl, ha, q⟩ := h
  have R := tso_get I ha
  rw [Vals.ref1 r]
  have hl : l.length ≤ sizeLine := by
    obtain ⟨o, es, ep, t, ho, hex, hd, T⟩ := R
    rw [← T.size]; exact fits_of_scanBound T.few
  refine ts_sorted R (I.ok.hd hc) fun s' p out c k g o hp hg hi => ?_
  have hn : H p = none := I.hok.fresh hp
  have J : Inv X pins σ (upd H p (.lst ((sortT l).map V.str))) { s with heap := s'.heap, gens := s'.gens, drawn := s'.drawn, toks := s'.toks } :=
    I.call (ch := []) (Un.laid k hp hn) (I.hok.laid k hp ⟨by rw [List.length_map, sortT_len]; exact hl, out.toList, c, vals_of_strs hi, hg⟩) (by rw [g]; exact I.bare) (fun _ z => nomatch z)
  obtain ⟨h', g', d', t', os'⟩ := s'
  obtain ⟨h0, g0, d0, t0, os0⟩ := s
  cases (show os' = os0 from o)
  exact ⟨.ref p, _, J, rfl, q p hn⟩
/-- sorted(texts), any number -/
theorem cr_sortLS : CallR X (.builtin "sorted") (fun vs H Q => ∃ (a : Addr) (xs : List Str), vs = [V.ref a] ∧ SqL X.K H a (xs.map V.str) ∧ ∀ p, H p = none → Q (.ref p) (upd H p (.lst ((sortT xs).map V.str)))) := by
  intro pins s σ H vs us Q I r h
  obtain ⟨a, xs, rfl, hs, q⟩ := h
  obtain ⟨its, rv, hl, hlen⟩ := I.list hs
  rw [Vals.ref1 r]
  have l0 := rv.length
  rw [List.length_map] at l0 hlen
  refine PyProof.Rows.sorted_strsAny hl.isList rv.strs (by rw [← l0]; exact hlen) fun out ys h1 h2 h3 => ?_
  obtain ⟨ep, he'⟩ := PyProof.Rows.sortedAll_at s.heap its out
  rw [sortT_of h2 h3] at h1
  exact ⟨.ref _, upd H (s.heap.objs.size + 1) (.lst ((sortT xs).map V.str)), I.laid (t' := s.toks) (fun _ _ => PyProof.Rows.sortedAll_old) (Nat.le_succ _) ⟨by rw [List.length_map, sortT_len]; exact hlen, out.toList, ep, vals_of_strs h1, he'⟩, rfl, q _ (I.hok.fresh (Nat.le_succ _))⟩
end
end
/-! ### set(texts) -/
section
open PySem PySem.Spec PyProof.Rows
def setT (xs : List Str) : List Str := xs.foldl (fun l k => addT k l) []
theorem setT_go : ∀ (xs l : List Str), (∀ k, k ∈ xs.foldl (fun l k => addT k l) l ↔ k ∈ l ∨ k ∈ xs) ∧ (l.Nodup → (xs.foldl (fun l k => addT k l) l).Nodup) ∧ (xs.foldl (fun l k => addT k l) l).length ≤ l.length + xs.length
  | [], l => ⟨fun k => by simp, id, by simp⟩
  | x :: r, l => by
    obtain ⟨h1, h2, h3⟩ := setT_go r (addT x l)
    refine ⟨fun k => ?_, fun h => h2 (addT_nd h), ?_⟩
    · rw [List.foldl_cons, h1 k, addT_mem, List.mem_cons]
      constructor
      · rintro ((h | h) | h)
        · exact .inr (.inl h)
        · exact .inl h
        · exact .inr (.inr h)
      · rintro (h | h | h)
        · exact .inl (.inr h)
        · exact .inl (.inl h)
        · exact .inr h
    · rw [List.foldl_cons, List.length_cons]
      have := addT_len (k := x) (l := l)
      omega
theorem setT_mem {xs : List Str} {k : Str} : k ∈ setT xs ↔ k ∈ xs := by
  have := (setT_go xs []).1 k
  simpa [setT] using this
theorem setT_nd {xs : List Str} : (setT xs).Nodup := (setT_go xs []).2.1 List.nodup_nil
theorem setT_len {xs : List Str} : (setT xs).length ≤ xs.length := by
  have := (setT_go xs []).2.2
  simpa [setT] using this
theorem setT_take {xs : List Str} {i : Nat} {k : Str} (h : xs[i]? = some k) : setT (xs.take (i + 1)) = addT k (setT (xs.take i)) := by
  unfold setT
  rw [List.take_add_one, h, List.foldl_append]; rfl
theorem sortT_set {xs ys : List Str} (h : ∀ k, k ∈ xs ↔ k ∈ ys) : sortT (setT xs) = sortT (setT ys) := sortT_congr (nd_perm setT_nd setT_nd fun k => by rw [setT_mem, setT_mem]; exact h k)
/-- an empty set's object -/
abbrev set0 (w : World) : Obj := { cls := .type "set", dict := none, data := .set #[] 0 (.fresh 0 0 (!w.params.followText "set-order")) }
theorem TSet.first {w : World} {h : Heap} {a : Addr} (ho : h.get? a = some (set0 w)) : TSet w h a [] := by
  refine ⟨_, #[], 0, _, ho, ⟨rfl, rfl, rfl⟩, rfl, (fun e he => by simp at he), by simp, List.nodup_nil, by decide, by rfl, List.Pairwise.nil, ?_⟩
  show _ ∨ (!w.params.followText "set-order") = true
  cases w.params.followText "set-order" <;> simp
section
variable {P : Program} {w : World} {A : Around} {E : Value → Shared → Prop} {s : Shared}
theorem ts_update {I : Addr} {fp wr : List Addr} {G : Array GenState → Array GenState → Prop} {n : Nat} {Pv : Nat → Value → Prop} {St : Nat → Shared → Prop} {R : Result → Shared → Prop}
    (W : WalksS P w A.in1 I fp wr G n Pv St) (S : Addr) (hSf : S ∉ fp) (xs : List Str) (hn : n = xs.length) (hb : xs.length + 1 < scanBound) (hval : ∀ i v, Pv i v → ∃ k t, xs[i]? = some k ∧ v = .str k t) :
    ∀ (k i : Nat) (s : Shared), n - i = k → i ≤ n → St i s → TSet w s.heap S (setT (xs.take i)) → (∀ s', Moved (S :: wr) G s s' → TSet w s'.heap S (setT xs) → R (.ok (.ret .none)) s') →
      codeAny (model P w) A (.builtin "set.update.loop" ⟨[.ref S, .ref I], []⟩) R s := by
  have nw : S ∉ wr := fun h => hSf (W.sub _ h)
  have inc : ∀ b ∈ wr, b ∈ S :: wr := fun b hb => List.mem_cons_of_mem _ hb
  intro k
  induction k with
  | zero =>
    intro i s hk hi st hS hR
    obtain rfl : i = n := by omega
    refine codeAny_builtin F.entry_set_update_loop ?_
    rw [Around.under_plainId F.plain_set_update_loop _]
    show wpAny _ A.in1 (pyNext (.ref I) >>= _) _ _ s
    refine wpAny_bind (W.done s _ _ st fun s' hm => ?_)
    rw [List.take_of_length_le (by omega)] at hS
    exact wpAny_pure (hR s' (hm.mono inc) (hS.at fun o e => hm.heap S o nw e))
  | succ k ih =>
    intro i s hk hi st hS hR
    have lt : i < n := by omega
    refine codeAny_builtin F.entry_set_update_loop ?_
    rw [Around.under_plainId F.plain_set_update_loop _]
    show wpAny _ A.in1 (pyNext (.ref I) >>= _) _ _ s
    refine wpAny_bind (W.item i s _ _ lt st fun v s' hP st' hm => ?_)
    obtain ⟨z, t, hz, rfl⟩ := hval i v hP
    have hS' := hS.at (h' := s'.heap) fun o e => hm.heap S o nw e
    have hl : (setT (xs.take i)).length + 1 < scanBound := by
      have h1 := setT_len (xs := xs.take i)
      rw [List.length_take] at h1
      omega
    show wpAny _ A.in1 (holding [Value.str z t] (setAdd S (.str z t)) >>= _) _ _ s'
    refine wpAny_bind (wpAny_holding ?_)
    unfold setAdd
    refine wpAny_holding (wpAny_bind ((PySem.strKind P w).pyHash (k := z) (str_isS z t) (ts_addH (s := { s' with toks := s'.toks + 1 }) hS' hl fun h' b sb hS2 => ?_)))
    rw [← setT_take hz] at hS2
    refine wpAny_pure ⟨plainId_quiet F.plain_set_update_loop _, ih (i + 1) _ (by omega) lt (W.frame _ s' _ _ st' (Nat.le_succ _) fun b hb o e => ?_) hS2 fun s2 m2 q2 => ?_⟩
    · rw [sb.2 b (fun h : b = S => hSf (h ▸ hb))]; exact e
    · refine hR s2 (Moved.trans W.gtrans ((hm.mono inc).then_heap (Nat.le_succ _) fun b o hb e => ?_) m2) q2
      rw [sb.2 b (fun h : b = S => hb (h ▸ List.mem_cons_self))]; exact e
theorem strs_at : ∀ {vs : List Value} {xs : List Str}, StrsAre vs xs → ∀ {i : Nat} {v : Value}, vs[i]? = some v → ∃ k t, xs[i]? = some k ∧ v = .str k t
  | _, _, .nil, i, v, h => by simp at h
  | _, _, .cons y t r, i, v, h => by
    cases i with
    | zero =>
      cases h
      exact ⟨y, t, rfl, rfl⟩
    | succ i => exact strs_at r h
theorem strs_len : ∀ {vs : List Value} {xs : List Str}, StrsAre vs xs → vs.length = xs.length
  | _, _, .nil => rfl
  | _, _, .cons y t r => congrArg Nat.succ (strs_len r)
end
section
variable {X : Cx}
/-- len(found) -/
theorem cr_lenTS : CallR X (.builtin "len") (fun vs H Q => ∃ (a : Addr) (l : List Str), vs = [V.ref a] ∧ H a = some (TSO X.w a l) ∧ Q (.int (l.length : Int)) H) := by
  intro pins s σ H vs us Q I r h
  obtain ⟨a, l, rfl, ha, q⟩ := h
  rw [Vals.ref1 r]
  obtain ⟨o, es, ep, t, ho, hex, hd, T⟩ := tso_get I ha
  have hs := T.size
  have hf := T.few
  have h4 : scanBound = 4096 := rfl
  refine PySem.call_len_set ho hex hd T.fit (by omega) ⟨.int _, H, I.tok _, ?_, q⟩
  rw [hs]
  exact ⟨_, rfl⟩
end
end
section
open PySem PySem.Spec PyProof.Rows
section
variable {P : Program} {w : World} {A : Around} {E : Value → Shared → Prop} {s : Shared}
set_option maxHeartbeats 4000000 in
theorem ts_ofList {l : Addr} {items : Array Value} {xs : List Str} {Q : Value → Shared → Prop} (hh : A.handled = none) (hl : s.heap.IsList l items) (hi : StrsAre items.toList xs) (hb : xs.length + 1 < scanBound)
    (h : ∀ (h' : Heap) (tk : Nat), TSet w h' s.heap.objs.size (setT xs) → (∀ b o, s.heap.get? b = some o → h'.get? b = some o) → Q (.ref s.heap.objs.size) { s with heap := h', toks := tk }) : wpAny (model P w) A (call (.type "set") [.ref l]) Q E s := by
  have hz : items.size = xs.length := by
    have q := strs_len hi
    rwa [Array.length_toList] at q
  obtain ⟨c, tl, hmro⟩ := F.called_set.mro
  have hmade := F.called_set.made
  have hsub := F.called_set.sub
  refine wpAny_call (codeAny_of_tree ?_)
  show wpAny _ _ (callAny (.type "set") _) _ _ _
  refine wpAny_pure ⟨Code.quiet_builtin _ (by decide +kernel), codeAny_builtin F.entry_type_call ?_⟩
  rw [Around.under_plain (weight_type_call_type "set" [.ref l] []) rfl]
  have h1 := F.called_set.notType
  have h2 := F.called_set.canCreate
  have hct := F.typeCall_set_1 (.ref l)
  repeat (any_goals (first | assumption | wp_step))
  refine codeAny_mono (L2.code_set_led1 (.ref l) (E := E) (Q₁ := fun obj z => obj = .ref s.heap.objs.size ∧ z = { s with heap := s.heap.push (set0 w) }) ⟨rfl, rfl⟩) fun r s1 hr => ?_
  cases r with
  | error e => exact hr
  | ok fl =>
    cases fl with
    | ret obj =>
      obtain ⟨rfl, rfl⟩ := hr
      have hS : (s.heap.push (set0 w)).get? s.heap.objs.size = some (set0 w) := Heap.get?_push_size _ rfl
      have hT : Shared.TypeIs { s with heap := s.heap.push (set0 w) } (.ref s.heap.objs.size) "set" := ⟨_, hS, rfl⟩
      have hli := F.called_set.init.lookup
      have hbi := F.called_set.init.bind (.ref s.heap.objs.size)
      repeat (any_goals (first | assumption | wp_step))
      refine codeAny_mono (codeAny_call_builtin (R := wants (fun r z => r = .none ∧ ∃ h' tk, z = { s with heap := h', toks := tk } ∧ TSet w h' s.heap.objs.size (setT xs) ∧ ∀ b o, s.heap.get? b = some o → h'.get? b = some o) E) F.called_set.init.plain F.entry_set_init (check_set_init_1 hT ?_)) fun r2 s2 hr2 => ?_
      · obtain ⟨ol, hol, hcl, nl, hdl⟩ := hl
        obtain ⟨oc, od, oda, os⟩ := ol
        simp only at hcl hdl
        subst hcl hdl
        have ho' : (s.heap.push (set0 w)).get? l = some { cls := .type "list", dict := od, data := .seq items nl, slots := os } := Heap.get?_push_of_some _ hol
        have hsls := F.sub_list_set
        have hslf := F.sub_list_frozenset
        have hne : (Value.type "list" == Value.type "dict") = false := by decide
        have hl1 : (s.heap.push (set0 w)).IsList l items := ⟨_, ho', rfl, nl, rfl⟩
        unfold Builtin.«set.__init__» noKeywords Builtin.Frozenset.updateFrom
        generalize hPI : pyIter = PI
        wp_walk
        subst hPI
        refine wpAny_pyIter_list hl1 (wpAny_bind (wpAny_runValue ?_))
        have hlS : l < s.heap.objs.size := Heap.lt_size hol
        have h3 : A.in1.in1.in1.handled = none := by simp [hh]
        have sz : (s.heap.push (set0 w)).objs.size = s.heap.objs.size + 1 := Heap.size_push ..
        refine ts_update ((Walks.list h3 _ l (by rw [sz]; exact Nat.ne_of_lt (Nat.lt_succ_of_lt hlS)) items).toS) s.heap.objs.size ?_ xs hz hb (fun i v hv => strs_at hi (by rw [Array.getElem?_toList]; exact hv)) (items.size - 0) 0 _ (by omega) (Nat.zero_le _)
          ⟨⟨_, Heap.get?_push_size _ rfl, rfl, rfl⟩, hl1.push _⟩ (TSet.first (Heap.get?_push_of_some _ hS)) fun s' hm hS' => ?_
        · rw [sz]
          simp only [List.mem_cons, List.not_mem_nil, or_false, not_or]
          exact ⟨Nat.ne_of_lt (Nat.lt_succ_self _), Nat.ne_of_gt hlS⟩
        · obtain ⟨h', g2, d', tk', os'⟩ := s'
          have eg : g2 = s.gens := hm.gens
          have ed : d' = s.drawn := hm.drawn
          have eo : os' = s.os := hm.os
          subst eg ed eo
          show wpAny _ _ _ _ _ _
          refine wpAny_pure ?_
          show wpAny _ _ (ret Value.none) _ _ _
          refine wpAny_pure ⟨rfl, h', tk', rfl, hS', fun b o e => ?_⟩
          have b0 := Heap.lt_size e
          refine hm.heap b o ?_ (Heap.get?_push_of_some _ (Heap.get?_push_of_some _ e))
          rw [sz]
          simp only [List.mem_cons, List.not_mem_nil, or_false, not_or]
          exact ⟨Nat.ne_of_lt b0, Nat.ne_of_lt (Nat.lt_succ_of_lt b0)⟩
      · cases r2 with
        | error e => exact hr2
        | ok fl2 =>
          cases fl2 with
          | ret r =>
            obtain ⟨rfl, h', tk, rfl, hS', hk'⟩ := hr2
            repeat (any_goals (first | assumption | wp_step))
            exact h _ _ hS' hk'
          | _ => exact hr2.elim
    | _ => exact hr.elim
end
section
variable {X : Cx}
/-- set(xs), xs a list of texts -/
theorem cr_setTSL (hc : X.calm = true) : CallR X (.type "set") (fun vs H Q => ∃ (p : Addr) (xs : List Str), vs = [V.ref p] ∧ SqL X.K H p (xs.map V.str) ∧ xs.length + 1 < scanBound ∧ ∀ q, H q = none → Q (.ref q) (upd H q (TSO X.w q (setT xs)))) := by
  intro pins s σ H vs us Q I r h
  obtain ⟨p, xs, rfl, hs, hb, q⟩ := h
  rw [Vals.ref1 r]
  obtain ⟨its, rv, hl, _⟩ := I.list hs
  refine ts_ofList (I.ok.hd hc) hl.isList (xs := xs) (by simpa using rv.strs) hb fun h' tk R k => ?_
  exact ⟨.ref _, upd H s.heap.objs.size (TSO X.w s.heap.objs.size (setT xs)), I.laid (t' := tk) k (Nat.le_refl _) (tso_new R), rfl, q _ (I.hok.fresh (Nat.le_refl _))⟩
end
end
/-! ### own classes: o[i], o[i] = v, x in o -/
section
open PySem PySem.Spec PyProof.Rows
variable {X : Cx} {CX : CXT} {k : Nat} {C f a dx : Addr} {fs : List (Str × V)} {fd : FuncData} {ps : List Str} {sp : Sp} {E : L2.St → XK} {pins : List (Addr × Obj)} {σ : L2.St} {H : Hp} {s : Shared}
theorem own_at (I : Inv X pins σ H s) (ea : H a = some (.ins C dx fs)) : ∃ od, PySem.W.InstAt s.heap a (PySem.W.instObj C dx) C (some od) := by
  obtain ⟨mA, O, _⟩ := ins_get I.hok ea
  obtain ⟨od, J, _⟩ := O.look
  exact ⟨od, J⟩
/-- a method of the class, called below the place -/
theorem run_in1 {us : List Value} {vs : List V} {Q : VK} (F : FnOk X.prog X.w X.K X.mg X.base CX k f fd ps sp) (hr : Room (k + 1) X.A) (hb : L2.Binds X.K fd ps []) (hx : PassesAt CX X σ (E σ)) (I : Inv X pins σ H s) (r : Vals vs us) (h : sp vs H Q (E σ)) :
    wpAny (model X.prog X.w) X.A.in1 (call (.ref f) us) (EP X pins σ Q) X.xe s := by
  have hl : (us ++ []).length = ps.length := by rw [List.append_nil, ← r.length]; exact F.len _ _ _ _ h
  have b := hb s us I.kIn hl
  rw [List.append_nil] at b
  refine wpAny_call (codeAny_mono (F.run X.A.in1 X.stack s H ⟨us, []⟩ us vs Q (E σ) hr.in1 I.env0.in1 b r h) fun q s' hq => ?_)
  match q, hq with
  | .error e, hq => exact hx pins H s e s' I hq
  | .ok (.ret u), hq => exact I.after hq
  | .ok .next, hq => exact hq.elim
  | .ok .brk, hq => exact hq.elim
  | .ok .cont, hq => exact hq.elim
theorem run_here {us : List Value} {vs : List V} {Q : VK} (F : FnOk X.prog X.w X.K X.mg X.base CX k f fd ps sp) (hr : Room k X.A) (hb : L2.Binds X.K fd ps []) (hx : PassesAt CX X σ (E σ)) (I : Inv X pins σ H s) (r : Vals vs us) (h : sp vs H Q (E σ)) :
    wpAny (model X.prog X.w) X.A (call (.ref f) us) (EP X pins σ Q) X.xe s := by
  have e0 : vs ++ ([] : List V) = vs := List.append_nil vs
  exact run_fnSD (dvs := []) F hr hb .nil hx I r (e0.symm ▸ h)
def tGetO (C : Addr) (sp : Sp) (E : L2.St → XK) (ta tb : TE) : TE := fun σ H Q => ta σ H fun x H1 => tb σ H1 fun y H2 => ∃ a dx fs, x = .ref a ∧ H2 a = some (.ins C dx fs) ∧ sp [.ref a, y] H2 Q (E σ)
theorem pe_getO {o i : Expr} {ta tb : TE} {pos : Pos} (ho : PE X o ta) (hi : PE X i tb) (hm : Meth X.K C "__getitem__" f) (hfn : PySem.W.fnIn X.K f = true) (F : FnOk X.prog X.w X.K X.mg X.base CX k f fd ps sp) (hr : Room (k + 1) X.A) (hb : L2.Binds X.K fd ps []) (hx : ∀ σ, PassesAt CX X σ (E σ))
    (hsl : ∀ v u, subscripted i true v u = runValue (.builtin "lifetime.subscript" ⟨[v, u], []⟩) := by intro _ _; with_unfolding_all rfl) : PE X (.Subscript o i pos) (tGetO C sp E ta tb) := by
  refine ⟨fun pins s σ H Q I h => ?_⟩
  refine Subscript_ (binT ho hi I h fun v u s2 x y H2 I2 rx ry q => ?_)
  obtain ⟨a, dx, fs, rfl, ea, q⟩ := q
  cases (show v = Value.ref a from rx)
  obtain ⟨od, J⟩ := own_at I2 ea
  have fi := hm.fn
  unfold PySem.W.fnIn at hfn
  split at hfn
  · rename_i e
    unfold subscriptTail getitemInPython
    refine wpAny_bind (wpAny_bind (wpAny_bind (J.type.here ((PySem.W.looks_findIn I2.kIn hm.at_).here ?_))))
    dsimp only
    refine wpAny_bind (wpAny_load (I2.kIn _ _ e) (wpAny_pure ?_))
    dsimp only
    rw [hsl]
    refine wpAny_bind (wpAny_runValue (codeAny_builtin PySem.W.entry_sub ?_))
    unfold Builtin.«lifetime.subscript»
    refine wpAny_bind (PySem.W.special_fn I2.kIn J hm.at_ (beq_iff_eq.mp fi) (wpAny_mono (run_in1 F hr hb (hx σ) I2 (vs := [.ref a, y]) (.cons rfl (.cons ry .nil)) q) (fun z s3 hz => wpAny_pure ?_) fun _ _ z => z))
    show wpAny (model X.prog X.w) X.A (letTemporaryGo o (.ref a) z >>= fun _ => pure z) _ _ s3
    exact wpAny_bind (wpAny_letTemporaryGo (wpAny_pure hz))
  · cases hfn
def gSetO (C : Addr) (sp : Sp) (E : L2.St → XK) (to ti : TE) : TG := fun v σ H Q => to σ H fun o H1 => ti σ H1 fun i H2 => ∃ a dx fs, o = .ref a ∧ H2 a = some (.ins C dx fs) ∧ sp [.ref a, i, v] H2 (fun _ H3 => Q σ H3) (E σ)
theorem pg_setO {o i : Expr} {to ti : TE} {pos : Pos} (ho : PE X o to) (hi : PE X i ti) (hm : Meth X.K C "__setitem__" f) (hq : PySem.W.noSeq X.K C = true) (F : FnOk X.prog X.w X.K X.mg X.base CX k f fd ps sp) (hr : Room k X.A) (hb : L2.Binds X.K fd ps []) (hx : ∀ σ, PassesAt CX X σ (E σ))
    (ha : ∀ v, assign (.Subscript o i pos) X.env v = (do
      let ov ← holding [v] (eval o X.env)
      let iv ← holding [v, ov] (eval i X.env)
      standAt pos
      holding [v, ov, iv] (setItem ov iv v)
      release [v, ov, iv] []) := by intro _; rfl) : PG X (.Subscript o i pos) (gSetO C sp E to ti) := by
  refine ⟨fun pins s σ H v u Q I r h => ?_⟩
  rw [ha]
  refine wpAny_bind (wpAny_holding (thn (ho.run pins s σ H _ I h) fun ov s1 ⟨x, H1, I1, r1, q1⟩ => wpAny_bind (wpAny_holding (thn (hi.run pins s1 σ H1 _ I1 q1) fun iv s2 ⟨y, H2, I2, r2, a, dx, fs, ex, ea, q2⟩ => ?_))))
  subst ex
  cases (show ov = Value.ref a from r1)
  obtain ⟨od, J⟩ := own_at I2 ea
  refine wpAny_bind (wpAny_standAt (wpAny_bind (wpAny_holding ?_)))
  unfold setItem sequenceKey
  refine wpAny_holding (wpAny_bind (wpAny_bind (J.type.here (wpAny_bind ((PySem.W.anyM_none I2.kIn hq).here ?_)))))
  rw [if_pos (show (!false) = true from rfl)]
  refine wpAny_pure (wpAny_bind (PySem.W.special_fn I2.kIn J hm.at_ (beq_iff_eq.mp hm.fn) (wpAny_mono (run_here F hr hb (hx σ) I2 (vs := [.ref a, y, v]) (.cons rfl (.cons r2 (.cons r .nil))) q2) (fun z s3 hz => wpAny_pure ?_) fun _ _ z => z)))
  obtain ⟨_, H3, I3, _, q3⟩ := hz
  exact wpAny_release ⟨σ, H3, I3, q3⟩
/-- x in o; x not in o: __contains__ gives a truth value -/
def rInO (C : Addr) (neg : Bool) (sp : Sp) : R2 := fun x y H Q => ∃ a dx fs, y = .ref a ∧ H a = some (.ins C dx fs) ∧ sp [.ref a, x] H (fun v H' => ∃ b, v = .bl b ∧ Q (.bl (if neg = true then !b else b)) H') E0
theorem has_own {Q : Bool → Shared → Prop} {x : V} {v : Value} (I : Inv X pins σ H s) (rx : RelV x v) (ea : H a = some (.ins C dx fs)) (hm : Meth X.K C "__contains__" f) (F : FnOk X.prog X.w X.K X.mg X.base CX0 k f fd ps sp) (hr : Room k X.A) (hb : L2.Binds X.K fd ps []) {Qb : Bool → Hp → Prop}
    (h : sp [.ref a, x] H (fun v H' => ∃ b, v = .bl b ∧ Qb b H') E0) (hQ : ∀ b s' H', Inv X pins σ H' s' → Qb b H' → Q b s') : wpAny (model X.prog X.w) X.A (contains (.ref a) v) Q X.xe s := by
  obtain ⟨od, J⟩ := own_at I ea
  unfold contains
  refine wpAny_holding (wpAny_bind (wpAny_bind (J.type.here ((PySem.W.looks_findIn I.kIn hm.at_).here ?_))))
  rw [if_neg (by simp)]
  refine wpAny_bind (PySem.W.unlessNone_K I.kIn J hm.at_ hm.fn (wpAny_mono (run_here (E := fun _ => E0) F hr hb (fun _ _ _ _ _ _ z => z.elim) I (vs := [.ref a, x]) (.cons rfl (.cons rx .nil)) h) (fun z s3 hz => ?_) fun _ _ z => z))
  obtain ⟨w, H3, I3, rw', b, rfl, q⟩ := hz
  cases (show z = Value.bool b from rw')
  exact wpAny_truthy_bool (hQ b s3 H3 I3 q)
theorem op_inO (hm : Meth X.K C "__contains__" f) (F : FnOk X.prog X.w X.K X.mg X.base CX0 k f fd ps sp) (hr : Room k X.A) (hb : L2.Binds X.K fd ps []) : OpR X (compareOp .In) (rInO C false sp) := by
  intro pins s σ H x y v u Q I rx ry h
  obtain ⟨a, dx, fs, rfl, ea, q⟩ := h
  cases (show u = Value.ref a from ry)
  exact wpAny_bind (has_own I rx ea hm F hr hb (Qb := fun b H' => Q (.bl b) H') q fun b s' H' I' q' => wpAny_pure ⟨.bl b, H', I', rfl, q'⟩)
theorem op_notInO (hm : Meth X.K C "__contains__" f) (F : FnOk X.prog X.w X.K X.mg X.base CX0 k f fd ps sp) (hr : Room k X.A) (hb : L2.Binds X.K fd ps []) : OpR X (compareOp .NotIn) (rInO C true sp) := by
  intro pins s σ H x y v u Q I rx ry h
  obtain ⟨a, dx, fs, rfl, ea, q⟩ := h
  cases (show u = Value.ref a from ry)
  exact wpAny_bind (has_own I rx ea hm F hr hb (Qb := fun b H' => Q (.bl (!b)) H') q fun b s' H' I' q' => wpAny_pure ⟨.bl (!b), H', I', rfl, q'⟩)
theorem passL0 {X : Cx} {σ : L2.St} : PassesAt (L2.CX X.prog X.w) X σ E0 := fun pins H s e s' I c => passL pins σ H s e s' I c
end
/-! ### rules within a comprehension: the text's K by name -/
section
variable {X : Cx} {K : PySem.W.Frag}
theorem pe_fldK {o : Expr} {f : Str} {pos : Pos} {ta : TE} (hK : X.K = K) (ho : PE X o ta) (hab : attributeBase o f X.env (eval o X.env) = eval o X.env) : PE X (.Attribute o f pos) (tFld K ta f) := hK ▸ pe_fld ho hab
theorem op_inK (hK : X.K = K) : OpR X (compareOp .In) (rIn K false) := hK ▸ op_in_seq
theorem op_notInK (hK : X.K = K) : OpR X (compareOp .NotIn) (rIn K true) := hK ▸ op_notIn_seq
theorem ix_listK (hK : X.K = K) : IxR X (rIxL K) := hK ▸ ix_list
theorem ix_tupK (hK : X.K = K) : IxR X (rIxT K) := hK ▸ ix_tup
theorem op_eqDK (hK : X.K = K) (hu : X.A.units + 64 < cLine) : OpR X (compareOp .Eq) (rEqD K) := hK ▸ op_eqD hu
theorem op_neDK (hK : X.K = K) (hu : X.A.units + 64 < cLine) : OpR X (compareOp .NotEq) (rNeD K) := hK ▸ op_neD hu
end
/-! ### further rules within a comprehension -/
theorem call_len_seqK {X : Cx} {K : PySem.W.Frag} (hK : X.K = K) : CallR X (.builtin "len") (fun xs H Q => ∃ p ys, xs = [V.ref p] ∧ (SqL K H p ys ∨ SqT K H p ys) ∧ Q (V.int (ys.length : Int)) H) := hK ▸ call_len_seq
theorem pi_listK {X : Cx} {K : PySem.W.Frag} {tg l : Expr} {tl : TE} (hK : X.K = K) (hl : PE X l tl) : PI X tg l (iList K tl) := hK ▸ pi_list hl
theorem pi_tupK {X : Cx} {K : PySem.W.Frag} {tg l : Expr} {tl : TE} (hK : X.K = K) (hl : PE X l tl) : PI X tg l (iTup K tl) := hK ▸ pi_tup hl
/-! ### a dict comprehension over anything that is walked -/
section
open PySem PySem.Spec PyProof.Rows
theorem dc_it {J : It} {n : Nat} {G : Hp → Prop} {Y : Nat → Hp → V → Hp → Prop} (w : Walk J n G Y) {g : TG} {tt : TT} {tk tv : TE} {vs : List Nat} {σ : L2.St} {H1 : Hp} {D : Addr} {Qd : Hp → Prop} (Pv : Nat → Hp → Prop) (h0 : Pv 0 (upd H1 D (.dK []))) (hG : ∀ i H, i ≤ n → Pv i H → G H)
    (hs : ∀ i x H H', i < n → Pv i H → Y i H x H' → g x (wipe σ vs) H' fun σ2 H2 => wipe σ2 vs = wipe σ vs ∧ tt σ2 H2 fun b H3 =>
      if b = true then tk σ2 H3 fun y H4 => tv σ2 H4 fun z H5 => ∃ kvs k, y = kV k ∧ H5 D = some (.dK kvs) ∧ kvs.length < sizeLine ∧ Pv (i + 1) (upd H5 D (.dK (putK kvs k z))) else Pv (i + 1) H3) (hd : ∀ H, Pv n H → Qd H) :
    ∃ W : Nat → Nat → Hp → Prop, (∃ m, W 0 m (upd H1 D (.dK []))) ∧ ∀ i m H, W i m H →
      (J.stop i H ∧ Qd H) ∨ (J.go i H ∧ ∃ Nx : Hp → Prop, (∀ H', Nx H' → ∃ m', m' < m ∧ W (i + 1) m' H') ∧ ∀ x H', J.yld i H x H' → g x (wipe σ vs) H' fun σ2 H2 => wipe σ2 vs = wipe σ vs ∧ tt σ2 H2 fun b H3 =>
        if b = true then tk σ2 H3 fun y H4 => tv σ2 H4 fun z H5 => ∃ kvs k, y = kV k ∧ H5 D = some (.dK kvs) ∧ kvs.length < sizeLine ∧ Nx (upd H5 D (.dK (putK kvs k z))) else Nx H3) := by
  refine ⟨fun i m H => m = n - i ∧ i ≤ n ∧ Pv i H, ⟨n, by simp, Nat.zero_le _, h0⟩, ?_⟩
  rintro i m H ⟨rfl, hi, p⟩
  by_cases hlt : i < n
  · refine .inr ⟨w.goes i H hlt (hG i H hi p), Pv (i + 1), fun H' p' => ⟨n - (i + 1), by omega, rfl, hlt, p'⟩, fun x H' y => ?_⟩
    exact hs i x H H' hlt p (w.yields i H x H' hlt (hG i H hi p) y)
  · have e : i = n := by omega
    subst e
    exact .inl ⟨w.stops H (hG i H (Nat.le_refl _) p), hd H p⟩
theorem pg_tupK {X : Cx} {K : PySem.W.Frag} {es : List Expr} {k : Nat} {pos : Pos} {t : TGs} (n : Nat) (hK : X.K = K) (hc : X.calm = true) (h : PGs X es t)
    (hn : (assignEach es X.env).length = n := by rfl) (hst : (assignEach es X.env).findIdx? (·.1) = none := by rfl) : PG X (.Tuple es k pos) (gTup K n t) := hK ▸ pg_tup hc h hn hst
theorem call_tuple_ofK {X : Cx} {K : PySem.W.Frag} (hK : X.K = K) : CallR X (.type "tuple") (fun xs H Q => ∃ p ys, xs = [.ref p] ∧ ((SqL K H p ys ∧ ∀ l, H l = none → Q (.ref l) (upd H l (.tup ys))) ∨ (SqT K H p ys ∧ Q (.ref p) H))) := hK ▸ call_tuple_of
/-- a def with defaults that lets nothing out -/
theorem funD_ok {P : Program} {w : World} {K : PySem.W.Frag} {mg : Str → Option Value} {base : Heap} {x qual : Str} {params : Arguments} {body : List Stmt} {scope : Scope} {dvs : List V} {kws : List (Str × V)} {f : Addr} {fd : FuncData} {N ps : List Str} {k : Nat} {sp : Sp} (F : FunD K x qual params body scope dvs kws f fd) (S : FnScope N ps scope) (len : ∀ vs H Q E, sp vs H Q E → vs.length = ps.length)
    (hbody : ∀ (cdv : Value) (A : Around) (outer : List Env) (s : Shared) (H : Hp) (vs : List V) (Q : VK) (E : XK), Room k (A.deeper (envOfC qual scope s.heap.objs.size f cdv)) → sp vs H Q E →
      ∃ t, PSs (cxOf CX0 P w K mg base N qual scope f cdv A outer s H E).nox body t ∧ t { nx := fun _ H' => Q .non H', rt := Q } (start N vs) H) : FnOk P w K mg base CX0 (k + 1) f fd ps sp :=
  F.ok S len fun cdv A outer s H vs Q E hr h => by
    obtain ⟨t, p, q⟩ := hbody cdv A outer s H vs Q E hr h
    exact ⟨t, p.nox, q⟩
end
theorem ifF {p q : Prop} (h : q) : if false = true then p else q := by rw [if_neg (by simp)]; exact h
theorem ifT {p q : Prop} (h : p) : if true = true then p else q := by rw [if_pos rfl]; exact h
/-! ### sorted(list of data), of any length -/
section
open PySem PySem.Spec PyProof.Rows
/-- sorted(xs), the items of xs read as alike data: one list, the merge sort by the data -/
def rSortD (K : PySem.W.Frag) : List V → Hp → VK → Prop := fun vs H Q => ∃ (a : Addr) (bs : List (V × PyData)), vs = [V.ref a] ∧ SqL K H a (bs.map (·.1)) ∧ (∀ b ∈ bs, Dp K H b.1 b.2) ∧
  PySem.W.AllAlike (bs.map (·.2)) ∧ PySem.W.Sortable (bs.map (·.2)) ∧ (∀ b ∈ bs, b.2.depth ≤ 60) ∧
  ∀ p, H p = none → Q (.ref p) (upd H p (.lst ((bs.mergeSort (PySem.W.dataLe false (·.2))).map (·.1))))
theorem each_vals : ∀ {bs : List (V × PyData)} {us : List Value}, Vals (bs.map (·.1)) us → PySem.W.EachIs (fun v (b : V × PyData) => RelV b.1 v) us bs
  | [], _, r => by cases r; exact .nil
  | b :: bs, _, r => by
    cases r with
    | cons r rr => exact .cons r (each_vals rr)
theorem vals_each : ∀ {bs : List (V × PyData)} {us : List Value}, PySem.W.EachIs (fun v (b : V × PyData) => RelV b.1 v) us bs → Vals (bs.map (·.1)) us
  | _, _, .nil => .nil
  | _, _, .cons r rr => .cons r (vals_each rr)
theorem each_imp {R S : Value → V × PyData → Prop} : ∀ {bs : List (V × PyData)} {us : List Value}, (∀ b ∈ bs, ∀ u, R u b → S u b) → PySem.W.EachIs R us bs → PySem.W.EachIs S us bs
  | _, _, _, .nil => .nil
  | _, _, h, .cons r rr => .cons (h _ List.mem_cons_self _ r) (each_imp (fun b hb => h b (List.mem_cons_of_mem _ hb)) rr)
variable {X : Cx}
theorem cr_sortD (hu : X.A.units + 64 < cLine) : CallR X (.builtin "sorted") (rSortD X.K) := by
  intro pins s σ H vs us Q I r h
  obtain ⟨a, bs, rfl, hs, hd, hal, hk, hb, q⟩ := h
  obtain ⟨its, rv, hl, hz⟩ := I.list hs
  rw [Vals.ref1 r]
  have e := each_vals rv
  refine PySem.W.sorted_data hl.isList e (each_imp (fun b hb u ru => Dp.reads I b.2 b.1 u (hd b hb) ru) e) hal hk (by rw [List.length_map] at hz; exact hz) (fun b m => ?_) fun out e1 e2 => ?_
  · have := hb b m
    show X.A.units + 2 + b.2.depth < cLine
    omega
  · obtain ⟨ep, he'⟩ := PyProof.Rows.sortedAll_at s.heap its out.toArray
    have rv2 := vals_each e2
    have hlen : ((bs.mergeSort (PySem.W.dataLe false (·.2))).map (·.1)).length ≤ sizeLine := by
      rw [List.length_map, List.length_mergeSort]
      rw [List.length_map] at hz
      exact hz
    exact ⟨.ref _, upd H (s.heap.objs.size + 1) (.lst ((bs.mergeSort (PySem.W.dataLe false (·.2))).map (·.1))), I.laid (t' := s.toks) (fun _ _ => PyProof.Rows.sortedAll_old) (Nat.le_succ _) ⟨hlen, out, ep, rv2, he'⟩, rfl, q _ (I.hok.fresh (Nat.le_succ _))⟩
end
/-! ### data that stand, lists side by side -/
section
open PySem PySem.Spec PyProof.Rows
theorem same_seqT {K : PySem.W.Frag} {H H' : Hp} {a : Addr} {xs : List V} (e : Same H H') (h : SqT K H a xs) : SqT K H' a xs := by
  rcases h with (h | ⟨o, h⟩) | h
  · exact .inl (.inl (e _ _ h))
  · exact .inl (.inr ⟨o, e _ _ h⟩)
  · exact .inr h
mutual
theorem dp_same {K : PySem.W.Frag} {H H' : Hp} (e : Same H H') : ∀ {d : PyData} {v : V}, Dp K H v d → Dp K H' v d
  | _, _, .non => .non
  | _, _, .bl b => .bl b
  | _, _, .int i => .int i
  | _, _, .str x => .str x
  | _, _, .lst h r => .lst (e.seq h) (dpa_same e r)
  | _, _, .tup h r => .tup (same_seqT e h) (dpa_same e r)
theorem dpa_same {K : PySem.W.Frag} {H H' : Hp} (e : Same H H') : ∀ {ds : List PyData} {vs : List V}, DpAll K H vs ds → DpAll K H' vs ds
  | _, _, .nil => .nil
  | _, _, .cons h r => .cons (dp_same e h) (dpa_same e r)
end
theorem dpa_app {K : PySem.W.Frag} {H : Hp} : ∀ {ds es : List PyData} {vs us : List V}, DpAll K H vs ds → DpAll K H us es → DpAll K H (vs ++ us) (ds ++ es)
  | _, _, _, _, .nil, r => r
  | _, _, _, _, .cons h q, r => .cons h (dpa_app q r)
theorem dpa_len {K : PySem.W.Frag} {H : Hp} : ∀ {ds : List PyData} {vs : List V}, DpAll K H vs ds → vs.length = ds.length
  | _, _, .nil => rfl
  | _, _, .cons _ q => congrArg Nat.succ (dpa_len q)
theorem dpa_zip {K : PySem.W.Frag} {H : Hp} : ∀ {ds : List PyData} {vs : List V}, DpAll K H vs ds → ∃ bs : List (V × PyData), vs = bs.map (·.1) ∧ ds = bs.map (·.2) ∧ ∀ b ∈ bs, Dp K H b.1 b.2
  | _, _, .nil => ⟨[], rfl, rfl, fun _ h => nomatch h⟩
  | _, _, .cons (v := v) (d := d) h q => by
    obtain ⟨bs, rfl, rfl, hb⟩ := dpa_zip q
    refine ⟨(v, d) :: bs, rfl, rfl, fun b m => ?_⟩
    rcases List.mem_cons.mp m with rfl | m
    · exact h
    · exact hb b m
theorem dpa_of {K : PySem.W.Frag} {H : Hp} : ∀ {bs : List (V × PyData)}, (∀ b ∈ bs, Dp K H b.1 b.2) → DpAll K H (bs.map (·.1)) (bs.map (·.2))
  | [], _ => .nil
  | b :: r, h => .cons (h b List.mem_cons_self) (dpa_of fun x m => h x (List.mem_cons_of_mem _ m))
/-- the sorted data -/
def sortD (ds : List PyData) : List PyData := ds.mergeSort (PySem.W.dataLe false id)
theorem sortD_of (bs : List (V × PyData)) : (bs.mergeSort (PySem.W.dataLe false (·.2))).map (·.2) = sortD (bs.map (·.2)) :=
  List.map_mergeSort fun _ _ _ _ => rfl
theorem dpa_mem {K : PySem.W.Frag} {H : Hp} : ∀ {bs : List (V × PyData)}, DpAll K H (bs.map (·.1)) (bs.map (·.2)) → ∀ b ∈ bs, Dp K H b.1 b.2
  | [], _, _, m => nomatch m
  | _ :: _, .cons h q, _, m => by
    rcases List.mem_cons.mp m with rfl | m
    · exact h
    · exact dpa_mem q _ m
/-- all tuples stand -/
def TupK (H H' : Hp) : Prop := ∀ b l, H b = some (.tup l) → H' b = some (.tup l)
theorem TupK.of_same {H H' : Hp} (e : Same H H') : TupK H H' := fun b l h => e _ _ h
theorem TupK.trans {H H1 H2 : Hp} (a : TupK H H1) (b : TupK H1 H2) : TupK H H2 := fun c l h => b c l (a c l h)
theorem TupK.set {H : Hp} {D : Addr} {xs : List V} {o : HO} (h : H D = some (.lst xs)) : TupK H (upd H D o) := fun b l e => upd_oth (fun z => by rw [z, h] at e; cases e) e
/-- sorted(xs), xs a list of alike data -/
theorem call_sortD {K : PySem.W.Frag} {H : Hp} {a : Addr} {vs : List V} {ds : List PyData} {Q : VK} (hs : SqL K H a vs) (hd : ∀ H', TupK H H' → DpAll K H' vs ds) (al : PySem.W.AllAlike ds) (so : PySem.W.Sortable ds) (hk : ∀ d ∈ ds, d.depth ≤ 60)
    (q : ∀ p xs, H p = none → (∀ H', TupK H H' → DpAll K H' xs (sortD ds)) → xs.length = vs.length → Q (.ref p) (upd H p (.lst xs))) : rSortD K [.ref a] H Q := by
  obtain ⟨bs, rfl, rfl, hb⟩ := dpa_zip (hd H fun _ _ h => h)
  refine ⟨a, bs, rfl, hs, hb, al, so, fun b m => hk _ (List.mem_map_of_mem m), fun p hp => q p _ hp (fun H' e => ?_) (by rw [List.length_map, List.length_map, List.length_mergeSort])⟩
  rw [← sortD_of]
  exact dpa_of fun b m => dpa_mem (hd H' e) b (List.mem_mergeSort.mp m)
inductive A2 {α β : Type} (R : α → β → Prop) : List α → List β → Prop
  | nil : A2 R [] []
  | cons {x : α} {y : β} {xs : List α} {ys : List β} : R x y → A2 R xs ys → A2 R (x :: xs) (y :: ys)
theorem A2.imp {α β : Type} {R S : α → β → Prop} (h : ∀ x y, R x y → S x y) : ∀ {xs : List α} {ys : List β}, A2 R xs ys → A2 S xs ys
  | _, _, .nil => .nil
  | _, _, .cons r q => .cons (h _ _ r) (q.imp h)
theorem A2.app {α β : Type} {R : α → β → Prop} : ∀ {xs us : List α} {ys vs : List β}, A2 R xs ys → A2 R us vs → A2 R (xs ++ us) (ys ++ vs)
  | _, _, _, _, .nil, r => r
  | _, _, _, _, .cons h q, r => .cons h (q.app r)
theorem A2.len {α β : Type} {R : α → β → Prop} : ∀ {xs : List α} {ys : List β}, A2 R xs ys → xs.length = ys.length
  | _, _, .nil => rfl
  | _, _, .cons _ q => congrArg Nat.succ q.len
theorem A2.at {α β : Type} {R : α → β → Prop} : ∀ {xs : List α} {ys : List β}, A2 R xs ys → ∀ {i : Nat} {x : α}, xs[i]? = some x → ∃ y, ys[i]? = some y ∧ R x y
  | _, _, .nil, i, x, h => by simp at h
  | _, _, .cons r _, 0, _, h => by cases h; exact ⟨_, rfl, r⟩
  | _, _, .cons _ q, i + 1, _, h => q.at (i := i) h
end
/-! ### f(k = v, ..): a def called with keywords alone -/
section
open PySem PySem.Spec PyProof.Rows
variable {X : Cx} {CX : CXT} {k : Nat} {f : Addr} {fd : FuncData} {ps ks : List Str} {sp : Sp} {E : XK} {x : Str} {p pos : Pos} {kws : List Keyword} {tk : TA} {g : List Value → List Value → List Value} {gV : List V → List V → List V}
theorem pe_callN0 (F : FnOk X.prog X.w X.K X.mg X.base CX k f fd ps sp) (hr : Room k X.A) (hg : Gl X x) (hm : X.mg x = some (.ref f)) (hk : PySem.W.keepIn X.K (.ref f) = true) (hb : KBn X.K fd ps 0 ks g gV) (hx : Passes CX X E)
    (hkw : PK X kws tk) (hall : (backToKw pos (keywordEach kws X.env)).all (·.1.isSome) = true := by rfl) (hks : (backToKw pos (keywordEach kws X.env)).filterMap (·.1) = ks := by rfl)
    (hdb : (x == ("__debug__" : Str)) = false := by decide)
    (hpl : ((backTo pos (starEach [] X.env)).any (·.1) || (backToKw pos (keywordEach kws X.env)).any (·.1.isNone)) = false := by rfl) :
    PE X (.Call (.Name x p) [] kws pos) (tCallN 0 ks.length sp gV E tNil tk) := by
  refine ⟨fun pins s σ H Q I h => ?_⟩
  refine wpAny_Call_Name_kw (ld_glob I hg hm ?_ hdb)
  refine PySem.W.callWith_KW0 (h₀ := X.base) I.ok.mod.kin hk hall ?_ hpl
  refine thn (hkw.run pos pins s σ H _ I h) fun ws s2 ⟨zs, H2, I2, rz, l1, l2, q2⟩ => ⟨I2.kIn, ?_⟩
  rw [hks]
  exact run_fnN (us := []) (vs := []) F hr hb hx I2 .nil rz rfl l2 q2
end
/-! ### xs == [], xs != [], whatever the items are -/
section
open PySem PySem.Spec PyProof.Rows
variable {X : Cx}
def rEqNil (K : PySem.W.Frag) : R2 := fun x y H Q => ∃ a b xs, x = .ref a ∧ y = .ref b ∧ SqL K H a xs ∧ SqL K H b [] ∧ Q (.bl xs.isEmpty) H
def rNeNil (K : PySem.W.Frag) : R2 := fun x y H Q => ∃ a b xs, x = .ref a ∧ y = .ref b ∧ SqL K H a xs ∧ SqL K H b [] ∧ Q (.bl (!xs.isEmpty)) H
theorem eqnil_run {pins : List (Addr × Obj)} {s : Shared} {σ : L2.St} {H : Hp} {a b : Addr} {xs : List V} {v u : Value} {A : Around} {E : Value → Shared → Prop} {Q : Value → Shared → Prop} (hu : A.units + 1 < cLine) (I : Inv X pins σ H s) (rx : RelV (.ref a) v) (ry : RelV (.ref b) u) (h1 : SqL X.K H a xs) (h2 : SqL X.K H b []) :
    ∃ its its2 : Array Value, v = .ref a ∧ u = .ref b ∧ s.heap.IsList a its ∧ s.heap.IsList b its2 ∧ its2.size = 0 ∧ its.size = xs.length := by
  obtain ⟨i1, r1, l1, _⟩ := I.list h1
  obtain ⟨i2, r2, l2, _⟩ := I.list h2
  cases rx
  cases ry
  cases r2
  exact ⟨_, _, rfl, rfl, l1.isList, l2.isList, rfl, by rw [List.size_toArray, ← r1.length]⟩
theorem op_eqNil (hu : X.A.units + 1 < cLine) : OpR X (compareOp .Eq) (rEqNil X.K) := by
  intro pins s σ H x y v u Q I rx ry h
  obtain ⟨a, b, xs, rfl, rfl, h1, h2, q⟩ := h
  obtain ⟨its, its2, rfl, rfl, l1, l2, z2, z1⟩ := eqnil_run (A := X.A) (E := X.xe) (Q := fun _ _ => True) hu I rx ry h1 h2
  cases xs with
  | nil => exact SeqAt.eq_listAt (e := fun _ => true) l1 l2 (by rw [z1, z2]; rfl) (by omega) (fun j h1 => by rw [z1] at h1; exact absurd h1 (Nat.not_lt_zero _)) ⟨.bl true, H, I, by rw [z1]; rfl, q⟩
  | cons x r => exact SeqAt.eq_list_lengthsAt l1 l2 (by rw [z1, z2]; rfl) (by omega) ⟨.bl false, H, I, rfl, q⟩
theorem op_neNil (hu : X.A.units + 1 < cLine) : OpR X (compareOp .NotEq) (rNeNil X.K) := by
  intro pins s σ H x y v u Q I rx ry h
  obtain ⟨a, b, xs, rfl, rfl, h1, h2, q⟩ := h
  obtain ⟨its, its2, rfl, rfl, l1, l2, z2, z1⟩ := eqnil_run (A := X.A) (E := X.xe) (Q := fun _ _ => True) hu I rx ry h1 h2
  cases xs with
  | nil => exact SeqAt.RcNeAt.lists (e := fun _ => true) l1 l2 (by rw [z1, z2]; rfl) (by omega) (fun j h1 => by rw [z1] at h1; exact absurd h1 (Nat.not_lt_zero _)) X.prog X.w X.xe _ ⟨.bl false, H, I, by rw [z1]; rfl, q⟩
  | cons x r => exact SeqAt.RcNeAt.lists_lengths l1 l2 (by rw [z1, z2]; rfl) (by omega) X.prog X.w X.xe _ ⟨.bl true, H, I, rfl, q⟩
end
/-! ### sorted(dict of texts) -/
section
open PySem PySem.Spec PyProof.Rows
theorem strs_nth : ∀ {vs : List Value} {xs : List Str}, vs.length = xs.length → (∀ (j : Nat) (v : Value), vs[j]? = some v → ∃ x t, xs[j]? = some x ∧ v = .str x t) → StrsAre vs xs
  | [], [], _, _ => .nil
  | v :: vs, x :: xs, hl, h => by
    obtain ⟨y, t, e, rfl⟩ := h 0 v rfl
    cases e
    exact .cons _ _ (strs_nth (Nat.succ.inj hl) fun j u e => h (j + 1) u e)
  | [], _ :: _, hl, _ => nomatch hl
  | _ :: _, [], hl, _ => nomatch hl
section
variable {P : Program} {w : World} {A : Around} {E : Value → Shared → Prop} {s : Shared} {T : String} {r d : Addr} {n : Nat} {Pv : Nat → Value → Prop} {OK : Heap → Prop}
/-- collecting from a dict: the heap grows -/
theorem collect_more {R : List Value → Shared → Prop} (S : PySem.W.KdlSrc P w T r d n Pv OK) (hh : A.handled = none) (ho : OK s.heap) (hn : n ≤ sizeLine)
    (q : ∀ (h' : Heap) (tk : Nat) (acc : Array Value), (∀ b o, s.heap.get? b = some o → h'.get? b = some o) → s.heap.objs.size < h'.objs.size → ItemsOf Pv acc n → R acc.toList { s with heap := h', toks := tk }) : wpAny (model P w) A (collect (.ref r)) R E s := by
  have lt := S.there _ ho
  have new0 : (s.heap.push { cls := .type "list", data := .seq ([] : List Value).toArray }).get? s.heap.objs.size = some { cls := .type "list", data := .seq #[] } := Heap.get?_push_size _ rfl
  unfold collect
  refine wpAny_bind (wpAny_runValue (codeAny_builtin entry_proto_collect' ?_)); rw [Around.under_plainId PySem.F.plain_proto_collect _]
  show wpAny _ A.in1 (newList [] >>= fun l => again (.builtin "list.__iadd__" ⟨[l, .ref r], []⟩)) _ _ s; refine wpAny_bind (wpAny_newObj_type (wpAny_pure ⟨plainId_quiet PySem.F.plain_list_iadd _, codeAny_builtin entry_list_iadd' ?_⟩)); rw [Around.under_plainId PySem.F.plain_list_iadd _]
  refine wpAny_mono (PySem.W.kdl_extend (A := A) (s := { s with heap := s.heap.push { cls := .type "list", data := .seq ([] : List Value).toArray } })
    (R := fun (z : Result) (s2 : Shared) => ∃ (g : Heap) (t : Nat) (ac : Array Value) (c : Nat), z = .ok (.ret (.ref s.heap.objs.size)) ∧ s2 = { s with heap := g, toks := t } ∧ (∀ b o, s.heap.get? b = some o → g.get? b = some o) ∧ g.get? s.heap.objs.size = some { cls := .type "list", dict := none, data := .seq ac c, slots := #[] } ∧ ItemsOf Pv ac n)
    S hh (S.keep _ _ ho fun b _ o e => Heap.get?_push_of_some _ e) s.heap.objs.size (Nat.ne_of_gt lt.1) (Nat.ne_of_gt lt.2) (.ref s.heap.objs.size) 0 new0 (fun g t ac c k hS ha => ⟨g, t, ac, c, rfl, rfl, fun b o e => k b o (Nat.ne_of_lt (Heap.lt_size e)) (Heap.get?_push_of_some _ e), hS, ha⟩) hn) (fun fin s2 x => ?_) fun e s2 x => ?_
  · match fin, x with
    | .done f, ⟨g, t, ac, c, e, es, k, hS, ha⟩ =>
      subst es; cases e
      show wpAny _ A (load s.heap.objs.size >>= _) _ _ _; exact wpAny_bind (wpAny_load hS (wpAny_pure (q g t ac k (Heap.lt_size hS) ha)))
    | .again c1, x =>
      refine ⟨x.1, codeAny_mono x.2 fun z s3 y => ?_⟩
      obtain ⟨g, t, ac, c, rfl, rfl, k, hS, ha⟩ := y
      show wpAny _ A (load s.heap.objs.size >>= _) _ _ _; exact wpAny_bind (wpAny_load hS (wpAny_pure (q g t ac k (Heap.lt_size hS) ha)))
  · obtain ⟨_, _, _, _, z, _⟩ := x
    cases z
end
section
variable {X : Cx}
/-- sorted(d), d a dict with texts as keys -/
theorem cr_sortDK (hc : X.calm = true) : CallR X (.builtin "sorted") (fun vs H Q => ∃ (a : Addr) (kvs : List (Key × V)) (xs : List Str), vs = [V.ref a] ∧ H a = some (.dK kvs) ∧ kvs.map (·.1) = xs.map Sum.inr ∧ ∀ p, H p = none → Q (.ref p) (upd H p (.lst ((sortT xs).map V.str)))) := by
  intro pins s σ H vs us Q I r h
  obtain ⟨a, kvs, xs, rfl, ha, hk, q⟩ := h
  rw [Vals.ref1 r]
  obtain ⟨z, hd, ws, rel, dd⟩ := dk_of I.hok ha
  obtain ⟨ep, hat⟩ := dd.dictAt
  have hks : ws.map (·.1) = xs.map Sum.inr := rel.keys ▸ hk
  have hlw : ws.length = xs.length := by
    have := congrArg List.length hks
    rwa [List.length_map, List.length_map] at this
  have hlx : xs.length ≤ sizeLine := by rw [← hlw, ← rel.length]; exact z
  refine Calls.call_function_entry kind_sorted plain_sorted entry_sorted (args_sorted1 _) ?_
  unfold Builtin.«sorted»
  refine wpAny_bind (m := checkCount "sorted" 1 1 _) (wpAny_pure (wpAny_bind (collect_more (A := X.A.in1) (PySem.W.kdl_dict (knd := mixKind X.prog X.w) (kvs := ws) (ep := ep) hd) (I.ok.hd hc) hat (by rw [hlw]; exact hlx) fun h' tk acc k1 hlt hacc => ?_)))
  have hl : acc.toList.length = xs.length := by rw [Array.length_toList, ← hlw]; exact hacc.1
  have hS : StrsAre acc.toList xs := strs_nth hl fun j v hv => by
    obtain ⟨k, x, e, hi⟩ := hacc.2 j v (by rw [← Array.getElem?_toList]; exact hv)
    have hx : (xs.map Sum.inr : List Key)[j]? = some k := by rw [← hks, List.getElem?_map, e]; rfl
    rw [List.getElem?_map] at hx
    cases ex : xs[j]? with
    | none => rw [ex] at hx; cases hx
    | some y =>
      rw [ex] at hx
      cases hx
      rcases keyIs_shape (show keyIs (Sum.inr y) v = true from hi) with ⟨i, t, e1, e2⟩ | ⟨x', t, e1, e2⟩
      · cases e1
      · cases e1
        exact ⟨_, t, rfl, e2⟩
  have hL : acc.toList.length ≤ sizeLine := by rw [hl]; exact hlx
  refine wpAny_bind (wpAny_newList ?_ hL)
  have hoL : (h'.push (seqObj "list" acc.toList.toArray 0)).get? h'.objs.size = some (seqObj "list" acc.toList.toArray 0) := Heap.get?_push_size _ rfl
  refine wpAny_bind (wpAny_holding (wpAny_call_entry slot_list_sort ⟨_, hoL, rfl⟩ entry_list_sort (list_sort_treeKAny strKind_oneLt hoL hS.keysOf (fun v₁ v₂ rest e => keyKind_strs (by rw [← e]; exact hS)) hL fun st' hp hs => ⟨_, rfl, ?_⟩) (args_list_sort _)))
  obtain ⟨ys, h1, h2, h3⟩ := sorted_out_str hS hp hs
  obtain ⟨c, hcc⟩ := sortedHeap_at (vs := acc.toList) (out := (arrOf st').map (·.2)) hoL
  rw [sortT_of h2 h3] at h1
  have hge : s.heap.objs.size ≤ h'.objs.size := Nat.le_of_lt hlt
  have hn : H h'.objs.size = none := I.hok.fresh hge
  have k2 : ∀ b o, s.heap.get? b = some o → (sortedHeap (h'.push (seqObj "list" acc.toList.toArray 0)) h'.objs.size acc.toList ((arrOf st').map (·.2))).get? b = some o := fun b u e => by
    have q := k1 b u e
    have lt := Heap.lt_size q
    rw [sortedHeap_old (Nat.ne_of_lt lt) (by rw [size_push']; exact Nat.lt_succ_of_lt lt)]
    exact Heap.get?_push_of_some _ q
  refine wpAny_pure ⟨_, rfl, ?_⟩
  exact ⟨.ref h'.objs.size, upd H h'.objs.size (.lst ((sortT xs).map V.str)), I.laid (t' := tk) k2 hge ⟨by rw [List.length_map, sortT_len]; exact hlx, ((arrOf st').map (·.2)).toList, c, vals_of_strs h1, hcc⟩, rfl, q _ hn⟩
end
end
/-! ### d.update(d2), both with ints and texts as keys -/
section
open PySem PySem.Spec PyProof.Rows
variable {X : Cx}
def rUpdK : V → List V → Hp → VK → Prop := fun x vs H Q => ∃ l b kvs more, x = .ref l ∧ vs = [.ref b] ∧ H l = some (.dK kvs) ∧ H b = some (.dK more) ∧ l ≠ b ∧ kvs.length + more.length ≤ sizeLine ∧ Q .non (upd H l (.dK (mergeK kvs more)))
theorem mt_updK : MtM X "dict.update" rUpdK := by
  intro pins s σ H x vs v us Q I rx rv h
  obtain ⟨l, b, kvs, more, rfl, rfl, hH, hB, hne, hz, q⟩ := h
  cases rx
  obtain ⟨u, rfl, ru⟩ := rv.one
  cases ru
  obtain ⟨z, hd, ws, rel, dd⟩ := dk_of I.hok hH
  obtain ⟨zB, hdB, wsB, relB, ddB⟩ := dk_of I.hok hB
  refine call_meetsIn PySem.F.slot_dict_update dd.typeIs PySem.F.entry_dict_update (PySem.F.args_dict_update_2 _ _) (meets_dict_update (mixKind X.prog X.w) l b hne hdB) ⟨ws, wsB, dd, ddB, by rw [← rel.length, ← relB.length]; exact hz, fun h' dd' _ hs => ⟨.non, _, ?_, rfl, q⟩⟩
  have he : ∃ q, h'.get? l = some q := let ⟨q, _, _, hq, _⟩ := dd'; ⟨q, hq⟩
  have hl : (mergeK kvs more).length ≤ sizeLine := by have := length_mergeK more kvs; omega
  exact d_write (t' := s.toks) I (by rw [hH]; exact True.intro) hs he (dk_new hl hd (KV.merge relB rel) dd')
end
/-! ### C(e, ..) with a wish by the caller's slots (in a try) -/
section
open PySem PySem.Spec PyProof.Rows
variable {X : Cx} {CX : CXT} {k : Nat} {f C : Addr} {fd : FuncData} {ps : List Str} {sp : Sp} {dvs : List V} {ds : List Value} {E : L2.St → XK} {x : Str} {p pos : Pos} {e : Expr} {es : List Expr} {t : TA}
def tMakeSD (C : Addr) (sp : Sp) (dvs : List V) (E : L2.St → XK) (t : TA) : TE := fun σ H Q => t σ H fun vs H1 => ∀ x dx, H1 x = none → H1 dx = none → dx ≠ x →
  sp (.ref x :: (vs ++ dvs)) (upd (upd H1 dx (.own x)) x (.ins C dx [])) (fun v H2 => v = .non ∧ Q (.ref x) H2) (E σ)
theorem run_makeSD {pins : List (Addr × Obj)} {σ : L2.St} {H : Hp} {s : Shared} {Q : VK} {us : List Value} {vs : List V} (M : L2.Mk X.K C f) (F : FnOk X.prog X.w X.K X.mg X.base CX k f fd ps sp) (hr : Room (k + 1) X.A) (hb : Binds X.K fd ps ds) (hd : Vals dvs ds)
    (hx : PassesAt CX X σ (E σ)) (I : Inv X pins σ H s) (r : Vals vs us)
    (h : ∀ x dx, H x = none → H dx = none → dx ≠ x → sp (.ref x :: (vs ++ dvs)) (upd (upd H dx (.own x)) x (.ins C dx [])) (fun v H2 => v = .non ∧ Q (.ref x) H2) (E σ)) :
    wpAny (model X.prog X.w) X.A (call (.ref C) us) (EP X pins σ Q) X.xe s := by
  have hq := h (s.heap.objs.size + 1) s.heap.objs.size (I.hok.fresh (Nat.le_succ _)) (I.hok.fresh (Nat.le_refl _)) (Nat.ne_of_lt (Nat.lt_succ_self _))
  have I2 := Inv.made (C := C) I
  have r2 : Vals (V.ref (s.heap.objs.size + 1) :: (vs ++ dvs)) (Value.ref (s.heap.objs.size + 1) :: (us ++ ds)) := .cons rfl (r.append hd)
  have hl : (Value.ref (s.heap.objs.size + 1) :: us ++ ds).length = ps.length := by
    have e := r2.length
    rw [F.len _ _ _ _ hq] at e
    exact e.symm
  refine wpAny_call (make_map (f := f) I.kIn M.makes M.init (beq_iff_eq.mp M.fn) (codeAny_mono (F.run _ X.stack _ _ ⟨Value.ref (s.heap.objs.size + 1) :: us, []⟩ (Value.ref (s.heap.objs.size + 1) :: (us ++ ds)) _ _ (E σ) (hr.make C us [])
    (I2.env0.make C us []) (hb _ (Value.ref (s.heap.objs.size + 1) :: us) I2.kIn hl) r2 hq) fun r s' hq' => ?_))
  cases r with
  | error e => exact hx pins _ _ e s' I2 hq'
  | ok fl =>
    cases fl with
    | ret u =>
      obtain ⟨v, H', I3, rv, ev, q3⟩ := I2.after hq'
      subst ev
      exact ⟨rv, ⟨V.ref (s.heap.objs.size + 1), H', I3, rfl, q3⟩⟩
    | next => exact False.elim hq'
    | brk => exact False.elim hq'
    | cont => exact False.elim hq'
theorem pe_makeSD (M : L2.Mk X.K C f) (F : FnOk X.prog X.w X.K X.mg X.base CX k f fd ps sp) (hr : Room (k + 1) X.A) (hg : Gl X x) (hm : X.mg x = some (.ref C)) (hb : Binds X.K fd ps ds) (hd : Vals dvs ds) (hx : ∀ σ, PassesAt CX X σ (E σ))
    (ha : PA X (e :: es) t) (hdb : (x == ("__debug__" : Str)) = false := by decide) (he : starEach (e :: es) X.env = (false, eval e X.env) :: starEach es X.env := by rfl) (hpl : (backTo pos (starEach es X.env)).any (·.1) = false := by rfl) :
    PE X (.Call (.Name x p) (e :: es) [] pos) (tMakeSD C sp dvs E t) := by
  refine ⟨fun pins s σ H Q I h => ?_⟩
  refine wpAny_Call_Name_kw (ld_glob I hg hm ?_ hdb)
  refine PySem.W.callWith_K (h₀ := X.base) I.ok.mod.kin M.kp (thn (ha.run pos pins s σ H _ I h) fun us s1 ⟨vs, H1, I1, r, q⟩ => ⟨I1.kIn, ?_⟩) he hpl
  exact run_makeSD M F hr hb hd (hx σ) I1 r q
end
/-! ### text * int; set(texts) inside a comprehension; len of an instance with its own __len__ -/
section
open PySem PySem.Spec PyProof.Rows
variable {X : Cx} {K : PySem.W.Frag}
theorem op_mul_str : OpR X (binaryOp .Mult) (fun x y H Q => ∃ (z : Str) (n : Nat), x = .str z ∧ y = .int (n : Int) ∧ z.length ≤ 16 ∧ n ≤ 1000 ∧ Q (.str (Txt.mul z (n : Int))) H) := by
  intro pins s σ H x y v u Q I rx ry h
  obtain ⟨z, n, rfl, rfl, hz, hn, q⟩ := h
  obtain ⟨t, rfl⟩ := rx
  obtain ⟨t', rfl⟩ := ry
  exact PySem.W.KXi.mul rfl hz (by omega) (by omega) fun t'' k _ _ => ⟨.str (Txt.mul z (n : Int)), H, I.tok _, ⟨_, rfl⟩, q⟩
theorem cr_setTSLK (hK : X.K = K) (hc : X.calm = true) : CallR X (.type "set") (fun vs H Q => ∃ (p : Addr) (xs : List Str), vs = [V.ref p] ∧ SqL K H p (xs.map V.str) ∧ xs.length + 1 < scanBound ∧ ∀ q, H q = none → Q (.ref q) (upd H q (TSO X.w q (setT xs)))) := hK ▸ cr_setTSL hc
variable {k : Nat} {C f : Addr} {fd : FuncData} {ps : List Str} {sp : Sp}
theorem cr_lenO (hm : Meth X.K C "__len__" f) (F : FnOk X.prog X.w X.K X.mg X.base CX0 k f fd ps sp) (hr : Room (k + 1) X.A) (hb : L2.Binds X.K fd ps []) :
    CallR X (.builtin "len") (fun xs H Q => ∃ a dx fs, xs = [V.ref a] ∧ H a = some (.ins C dx fs) ∧ sp [.ref a] H (fun v H' => ∃ n : Nat, v = .int (n : Int) ∧ n ≤ 1000000 ∧ Q v H') E0) := by
  intro pins s σ H xs us Q I r h
  obtain ⟨a, dx, fs, rfl, ea, q⟩ := h
  obtain ⟨od, J⟩ := own_at I ea
  rw [Vals.ref1 r]
  refine Calls.call_function_entry kind_len plain_len entry_len (args_len1 _) ?_; unfold Builtin.«len»
  refine wpAny_bind (m := oneArg "len" _) (wpAny_pure (wpAny_bind (m := callSpecial? (.ref a) (Str.ofString "__len__")) (PySem.W.special_fn I.kIn J hm.at_ (beq_iff_eq.mp hm.fn) (wpAny_mono (run_in1 (E := fun _ => E0) F hr hb (fun _ _ _ _ _ _ z => z.elim) I (vs := [.ref a]) (.cons rfl .nil) q) (fun u s3 hz => ?_) fun _ _ z => z))))
  obtain ⟨v, H3, I3, ru, n, rfl, hn, q3⟩ := hz
  obtain ⟨t, rfl⟩ : ∃ t, u = Value.int (n : Int) t := ru
  refine wpAny_bind (wpAny_holding (wpAny_pure (wpAny_bind (wpAny_letGo ?_))))
  show wpAny _ _ (if (n : Int) < 0 then _ else _) _ _ _; rw [if_neg (by omega)]
  show wpAny _ _ (if (n : Int) ≥ 2 ^ 63 then _ else _) _ _ _; rw [if_neg (by omega)]
  exact wpAny_bind (wpAny_mkInt (wpAny_pure ⟨_, rfl, .int (n : Int), H3, I3.tok _, ⟨_, rfl⟩, q3⟩))
end
/-! ### staticmethods by a promise on positional values -/
section
variable {X : Cx} {CX : CXT} {k : Nat} {C p f : Addr} {mc : Value} {sp : Sp} {E : XK} {o e : Expr} {es : List Expr} {m : Str} {pos apos : Pos} {ta : TE} {t : TA} {pl : Sem Bool}
def tSMethR (C : Addr) (sp : Sp) (E : XK) (ta : TE) (t : TA) : TE := fun σ H Q => ta σ H fun x H1 => x = .ref C ∧ t σ H1 fun vs H2 => sp vs H2 Q E
theorem pe_smethR (he : PE X o ta) (r : ClX.CRead X.K C mc) (c : SMet X.K C mc m p f) (F : FnR X.prog X.w X.K X.mg X.base CX k f sp) (hr : Room k X.A) (hk : PySem.W.keepIn X.K (.ref f) = true) (hx : Passes CX X E) (ha : PA X (e :: es) t)
    (hst : starEach (e :: es) X.env = (false, eval e X.env) :: starEach es X.env := by rfl) (hpl : (backTo pos (starEach es X.env)).any (·.1) = false := by rfl)
    (ht : eval (.Call (.Attribute o m apos) (e :: es) [] pos) X.env = (do
      let ov ← eval o X.env
      standAt apos.atName
      let (f, first) ← holding [ov] (getMethod ov m pl)
      callWith pos f first (backTo pos (starEach (e :: es) X.env)) (backToKw pos (keywordEach [] X.env))) := by rfl) :
    PE X (.Call (.Attribute o m apos) (e :: es) [] pos) (tSMethR C sp E ta t) := by
  refine ⟨fun pins s σ H Q I h => ?_⟩
  refine PySem.W.methodCall_KW (pl := pl) (thn (he.run pins s σ H _ I h) fun u s1 ⟨x, H1, I1, rx, ex, q⟩ => ?_) ht
  subst ex
  obtain rfl : u = Value.ref C := rx
  obtain ⟨rest, hp⟩ := c.rc
  refine PySem.W.method_cls I1.kIn r.ga (PySem.W.cls_bind I1.kIn r.rd c.at_ ?_)
  refine wpAny_call (PySem.W.sm_get (s := { s1 with toks := s1.toks + 1 }) I1.kIn hp (PySem.W.handed_on rfl ?_))
  have I2 := I1.tok (s1.toks + 1)
  refine PySem.W.callWith_K (h₀ := X.base) (first := []) I2.ok.mod.kin hk (thn (ha.run pos pins _ σ H1 _ I2 q) fun us s3 ⟨vs, H2, I3, rv, q2⟩ => ⟨I3.kIn, ?_⟩) hst hpl
  exact wpAny_call (run_fnR F hr hx I3 rv q2)
theorem pe_smethR0 (he : PE X o ta) (r : ClX.CRead X.K C mc) (c : SMet X.K C mc m p f) (F : FnR X.prog X.w X.K X.mg X.base CX k f sp) (hr : Room k X.A) (hk : PySem.W.keepIn X.K (.ref f) = true) (hx : Passes CX X E)
    (ht : eval (.Call (.Attribute o m apos) [] [] pos) X.env = (do
      let ov ← eval o X.env
      standAt apos.atName
      let (f, first) ← holding [ov] (getMethod ov m pl)
      callWith pos f first (backTo pos (starEach [] X.env)) (backToKw pos (keywordEach [] X.env))) := by rfl) :
    PE X (.Call (.Attribute o m apos) [] [] pos) (tSMethR C sp E ta tNil) := by
  refine ⟨fun pins s σ H Q I h => ?_⟩
  refine PySem.W.methodCall_KW (pl := pl) (thn (he.run pins s σ H _ I h) fun u s1 ⟨x, H1, I1, rx, ex, q⟩ => ?_) ht
  subst ex
  obtain rfl : u = Value.ref C := rx
  obtain ⟨rest, hp⟩ := c.rc
  refine PySem.W.method_cls I1.kIn r.ga (PySem.W.cls_bind I1.kIn r.rd c.at_ ?_)
  refine wpAny_call (PySem.W.sm_get (s := { s1 with toks := s1.toks + 1 }) I1.kIn hp (PySem.W.handed_on rfl ?_))
  have I2 := I1.tok (s1.toks + 1)
  exact PySem.W.callWith_K0 (first := []) I2.kIn hk (wpAny_call (run_fnR (us := []) (vs := []) F hr hx I2 .nil q))
end
/-! ### C.m(e, ..), m a staticmethod by a promise on positional values, in a try (a wish by the slots) -/
section
open PySem PySem.Spec PyProof.Rows
variable {X : Cx} {CX : CXT} {k : Nat} {C p f : Addr} {mc : Value} {sp : Sp} {E : L2.St → XK} {o e : Expr} {es : List Expr} {m : Str} {pos apos : Pos} {ta : TE} {t : TA} {pl : Sem Bool}
theorem run_fnRAt {pins : List (Addr × Obj)} {σ : L2.St} {H : Hp} {s : Shared} {Q : VK} {us : List Value} {vs : List V} (F : FnR X.prog X.w X.K X.mg X.base CX k f sp) (hr : Room k X.A) (hx : PassesAt CX X σ (E σ)) (I : Inv X pins σ H s) (r : Vals vs us) (h : sp vs H Q (E σ)) :
    codeAny (model X.prog X.w) X.A (.call (.ref f) ⟨us, []⟩) (fun r s' => match r with | .ok (.ret v) => EP X pins σ Q v s' | .ok _ => False | .error e => X.xe e s') s := by
  refine codeAny_mono (F X.A X.stack s H us vs Q (E σ) hr I.env0 r h) fun r s' hq => ?_
  cases r with
  | error e => exact hx pins H s e s' I hq
  | ok fl =>
    cases fl with
    | ret u => exact I.after hq
    | next => exact False.elim hq
    | brk => exact False.elim hq
    | cont => exact False.elim hq
def tSMethSD (C : Addr) (sp : Sp) (E : L2.St → XK) (ta : TE) (t : TA) : TE := fun σ H Q => ta σ H fun x H1 => x = .ref C ∧ t σ H1 fun vs H2 => sp vs H2 Q (E σ)
theorem pe_smethRSD (he : PE X o ta) (r : ClX.CRead X.K C mc) (c : SMet X.K C mc m p f) (F : FnR X.prog X.w X.K X.mg X.base CX k f sp) (hr : Room k X.A) (hk : PySem.W.keepIn X.K (.ref f) = true) (hx : ∀ σ, PassesAt CX X σ (E σ)) (ha : PA X (e :: es) t)
    (hst : starEach (e :: es) X.env = (false, eval e X.env) :: starEach es X.env := by rfl) (hpl : (backTo pos (starEach es X.env)).any (·.1) = false := by rfl)
    (ht : eval (.Call (.Attribute o m apos) (e :: es) [] pos) X.env = (do
      let ov ← eval o X.env
      standAt apos.atName
      let (f, first) ← holding [ov] (getMethod ov m pl)
      callWith pos f first (backTo pos (starEach (e :: es) X.env)) (backToKw pos (keywordEach [] X.env))) := by rfl) :
    PE X (.Call (.Attribute o m apos) (e :: es) [] pos) (tSMethSD C sp E ta t) := by
  refine ⟨fun pins s σ H Q I h => ?_⟩
  refine PySem.W.methodCall_KW (pl := pl) (thn (he.run pins s σ H _ I h) fun u s1 ⟨x, H1, I1, rx, ex, q⟩ => ?_) ht
  subst ex
  obtain rfl : u = Value.ref C := rx
  obtain ⟨rest, hp⟩ := c.rc
  refine PySem.W.method_cls I1.kIn r.ga (PySem.W.cls_bind I1.kIn r.rd c.at_ ?_)
  refine wpAny_call (PySem.W.sm_get (s := { s1 with toks := s1.toks + 1 }) I1.kIn hp (PySem.W.handed_on rfl ?_))
  have I2 := I1.tok (s1.toks + 1)
  refine PySem.W.callWith_K (h₀ := X.base) (first := []) I2.ok.mod.kin hk (thn (ha.run pos pins _ σ H1 _ I2 q) fun us s3 ⟨vs, H2, I3, rv, q2⟩ => ⟨I3.kIn, ?_⟩) hst hpl
  exact wpAny_call (run_fnRAt F hr (hx σ) I3 rv q2)
theorem pe_smethRSD0 (he : PE X o ta) (r : ClX.CRead X.K C mc) (c : SMet X.K C mc m p f) (F : FnR X.prog X.w X.K X.mg X.base CX k f sp) (hr : Room k X.A) (hk : PySem.W.keepIn X.K (.ref f) = true) (hx : ∀ σ, PassesAt CX X σ (E σ))
    (ht : eval (.Call (.Attribute o m apos) [] [] pos) X.env = (do
      let ov ← eval o X.env
      standAt apos.atName
      let (f, first) ← holding [ov] (getMethod ov m pl)
      callWith pos f first (backTo pos (starEach [] X.env)) (backToKw pos (keywordEach [] X.env))) := by rfl) :
    PE X (.Call (.Attribute o m apos) [] [] pos) (tSMethSD C sp E ta tNil) := by
  refine ⟨fun pins s σ H Q I h => ?_⟩
  refine PySem.W.methodCall_KW (pl := pl) (thn (he.run pins s σ H _ I h) fun u s1 ⟨x, H1, I1, rx, ex, q⟩ => ?_) ht
  subst ex
  obtain rfl : u = Value.ref C := rx
  obtain ⟨rest, hp⟩ := c.rc
  refine PySem.W.method_cls I1.kIn r.ga (PySem.W.cls_bind I1.kIn r.rd c.at_ ?_)
  refine wpAny_call (PySem.W.sm_get (s := { s1 with toks := s1.toks + 1 }) I1.kIn hp (PySem.W.handed_on rfl ?_))
  have I2 := I1.tok (s1.toks + 1)
  exact PySem.W.callWith_K0 (first := []) I2.kIn hk (wpAny_call (run_fnRAt (us := []) (vs := []) F hr (hx σ) I2 .nil q))
end
/-! ### xs.count(y), a list of texts -/
section
open PySem PySem.Spec PyProof.Rows
variable {X : Cx}
def eqz (w : Str) : Value → Bool
  | .str z _ => z == w
  | _ => false
theorem eqz_count {w : Str} : ∀ {zs : List Str} {us : List Value}, Vals (zs.map V.str) us → us.countP (eqz w) = zs.countP (fun z => z == w) ∧ ∀ y ∈ us, ∃ z t, y = .str z t
  | [], _, .nil => ⟨rfl, fun y h => nomatch h⟩
  | z :: r, _, .cons h t => by
    obtain ⟨tk, rfl⟩ := h
    obtain ⟨h1, h2⟩ := eqz_count (w := w) t
    refine ⟨?_, fun y hy => ?_⟩
    · rw [List.countP_cons, List.countP_cons, h1]; rfl
    · rcases List.mem_cons.mp hy with rfl | hy
      · exact ⟨z, tk, rfl⟩
      · exact h2 y hy
def rCntS (K : PySem.W.Frag) : V → List V → Hp → VK → Prop := fun x xs H Q => ∃ (p : Addr) (zs : List Str) (w : Str), x = .ref p ∧ xs = [.str w] ∧ SqL K H p (zs.map V.str) ∧ Q (.int ((zs.countP fun z => z == w : Nat) : Int)) H
theorem mt_countS : MtR X "list.count" (rCntS X.K) := by
  intro pins s σ H x xs v us Q I rx rxs h
  obtain ⟨p, zs, w, rfl, rfl, hs, q⟩ := h
  cases rx
  obtain ⟨u, rfl, ru⟩ := rxs.one
  obtain ⟨t, rfl⟩ := ru
  obtain ⟨its, rv, ⟨⟨cls, dd, data, sl⟩, n, ho, hc, hdn, hd⟩, hlen⟩ := I.list hs
  simp only at hc hd
  subst hc hd
  obtain ⟨ec, hk⟩ := eqz_count (w := w) rv
  refine call_meets PySem.F.slot_list_count ⟨_, ho, rfl⟩ PySem.F.entry_list_count (PySem.F.args_list_count_2 _ _)
    (SeqAt.list_countAt p its.toArray n dd sl (.str w t) (eqz w)) ⟨ho, fun y hy => ?_, ?_⟩
  · obtain ⟨z, tk, rfl⟩ := hk y (by simpa using hy)
    exact SeqAt.EqAt.str_str z tk w t
  refine ⟨.int ((zs.countP fun z => z == w : Nat) : Int), H, I.tok _, ⟨s.toks, ?_⟩, q⟩
  show Value.int ((its.toArray.toList.countP (eqz w) : Nat) : Int) s.toks = Value.int ((zs.countP fun z => z == w : Nat) : Int) s.toks
  rw [ec]
end
abbrev s_is_word : Stmt := top 9
theorem sc_is_word : FnScope ["thing", "letter"] ["thing"] (defScope s_is_word) := ⟨rfl, rfl, rfl, by decide +kernel, rfl, by decide +kernel, by decide +kernel⟩
abbrev s_Mode_is_mode : Stmt := inClass (top 10) 9
theorem sc_Mode_is_mode : FnScope ["thing"] ["thing"] (defScope s_Mode_is_mode) := ⟨rfl, rfl, rfl, by decide +kernel, rfl, by decide +kernel, by decide +kernel⟩
abbrev s_TooManyU_initU : Stmt := inClass (top 3) 0
abbrev s_BadLibraryU_initU : Stmt := inClass (top 4) 0
abbrev s_EndlessU_initU : Stmt := inClass (top 5) 0
abbrev s_ClashU_initU : Stmt := inClass (top 6) 0
abbrev s_split_line : Stmt := top 13
theorem sc_split_line : FnScope ["line", "bare", "spaces", "words", "word"] ["line"] (defScope s_split_line) := ⟨rfl, rfl, rfl, by decide +kernel, rfl, by decide +kernel, by decide +kernel⟩
abbrev s_ReaderU_initU : Stmt := inClass (top 14) 0
theorem sc_ReaderU_initU : FnScope ["self", "lines", "line"] ["self", "lines"] (defScope s_ReaderU_initU) := ⟨rfl, rfl, rfl, by decide +kernel, rfl, by decide +kernel, by decide +kernel⟩
abbrev s_Reader_words_at : Stmt := inClass (top 14) 1
theorem sc_Reader_words_at : FnScope ["self", "nesting", "row"] ["self", "nesting"] (defScope s_Reader_words_at) := ⟨rfl, rfl, rfl, by decide +kernel, rfl, by decide +kernel, by decide +kernel⟩
abbrev s_Reader_wrong_if : Stmt := inClass (top 14) 2
theorem sc_Reader_wrong_if : FnScope ["self", "is_wrong"] ["self", "is_wrong"] (defScope s_Reader_wrong_if) := ⟨rfl, rfl, rfl, by decide +kernel, rfl, by decide +kernel, by decide +kernel⟩
abbrev s_Reader_read_all : Stmt := inClass (top 14) 3
theorem sc_Reader_read_all : FnScope ["self", "words", "name"] ["self"] (defScope s_Reader_read_all) := ⟨rfl, rfl, rfl, by decide +kernel, rfl, by decide +kernel, by decide +kernel⟩
abbrev s_Reader_read_body : Stmt := inClass (top 14) 4
theorem sc_Reader_read_body : FnScope ["self", "nesting", "found", "words"] ["self", "nesting"] (defScope s_Reader_read_body) := ⟨rfl, rfl, rfl, by decide +kernel, rfl, by decide +kernel, by decide +kernel⟩
abbrev s_Reader_read_statement : Stmt := inClass (top 14) 5
theorem sc_Reader_read_statement : FnScope ["self", "words", "nesting", "first"] ["self", "words", "nesting"] (defScope s_Reader_read_statement) := ⟨rfl, rfl, rfl, by decide +kernel, rfl, by decide +kernel, by decide +kernel⟩
abbrev s_Reader_read_block : Stmt := inClass (top 14) 6
theorem sc_Reader_read_block : FnScope ["self", "words", "nesting", "number"] ["self", "words", "nesting"] (defScope s_Reader_read_block) := ⟨rfl, rfl, rfl, by decide +kernel, rfl, by decide +kernel, by decide +kernel⟩
abbrev s_Reader_read_try : Stmt := inClass (top 14) 7
theorem sc_Reader_read_try : FnScope ["self", "nesting", "body", "handlers", "is_open", "listed", "final"] ["self", "nesting"] (defScope s_Reader_read_try) := ⟨rfl, rfl, rfl, by decide +kernel, rfl, by decide +kernel, by decide +kernel⟩
abbrev s_parts_of : Stmt := top 20
theorem sc_parts_of : FnScope ["statement", "found", "words", "body"] ["statement"] (defScope s_parts_of) := ⟨rfl, rfl, rfl, by decide +kernel, rfl, by decide +kernel, by decide +kernel⟩
abbrev s_listed_statements : Stmt := top 21
theorem sc_listed_statements : FnScope ["body", "is_guarded", "found", "statement", "part"] ["body", "is_guarded"] (defScope s_listed_statements) := ⟨rfl, rfl, rfl, by decide +kernel, rfl, by decide +kernel, by decide +kernel⟩
abbrev s_words_of : Stmt := top 22
theorem sc_words_of : FnScope ["statement", "found", "words", "body"] ["statement"] (defScope s_words_of) := ⟨rfl, rfl, rfl, by decide +kernel, rfl, by decide +kernel, by decide +kernel⟩
abbrev s_comes_back : Stmt := top 23
theorem sc_comes_back : FnScope ["name", "calls", "reached", "done", "other"] ["name", "calls"] (defScope s_comes_back) := ⟨rfl, rfl, rfl, by decide +kernel, rfl, by decide +kernel, by decide +kernel⟩
abbrev s_free_statements : Stmt := top 24
theorem sc_free_statements : FnScope ["body", "statement", "is_guarded"] ["body"] (defScope s_free_statements) := ⟨rfl, rfl, rfl, by decide +kernel, rfl, by decide +kernel, by decide +kernel⟩
abbrev s_weight_of : Stmt := top 25
theorem sc_weight_of : FnScope ["name", "bodies", "known"] ["name", "bodies", "known"] (defScope s_weight_of) := ⟨rfl, rfl, rfl, by decide +kernel, rfl, by decide +kernel, by decide +kernel⟩
abbrev s_body_weight : Stmt := top 26
theorem sc_body_weight : FnScope ["body", "bodies", "known", "found", "statement"] ["body", "bodies", "known"] (defScope s_body_weight) := ⟨rfl, rfl, rfl, by decide +kernel, rfl, by decide +kernel, by decide +kernel⟩
abbrev s_LibraryU_initU : Stmt := inClass (top 27) 0
theorem sc_LibraryU_initU : FnScope ["self", "text", "longest", "reader", "name"] ["self", "text", "longest"] (defScope s_LibraryU_initU) := ⟨rfl, rfl, rfl, by decide +kernel, rfl, by decide +kernel, by decide +kernel⟩
abbrev s_Library_stay_in_bounds : Stmt := inClass (top 27) 1
theorem sc_Library_stay_in_bounds : FnScope ["self", "counts", "what", "most"] ["self"] (defScope s_Library_stay_in_bounds) := ⟨rfl, rfl, rfl, by decide +kernel, rfl, by decide +kernel, by decide +kernel⟩
abbrev s_Library_come_to_an_end : Stmt := inClass (top 27) 2
theorem sc_Library_come_to_an_end : FnScope ["self", "calls", "known", "name", "free", "statement", "is_guarded", "one"] ["self"] (defScope s_Library_come_to_an_end) := ⟨rfl, rfl, rfl, by decide +kernel, rfl, by decide +kernel, by decide +kernel⟩
abbrev s_Library_functions : Stmt := inClass (top 27) 3
theorem sc_Library_functions : FnScope ["self"] ["self"] (defScope s_Library_functions) := ⟨rfl, rfl, rfl, by decide +kernel, rfl, by decide +kernel, by decide +kernel⟩
abbrev s_Library_records : Stmt := inClass (top 27) 4
theorem sc_Library_records : FnScope ["self", "statement", "is_guarded"] ["self"] (defScope s_Library_records) := ⟨rfl, rfl, rfl, by decide +kernel, rfl, by decide +kernel, by decide +kernel⟩
abbrev s_Library_errors : Stmt := inClass (top 27) 5
theorem sc_Library_errors : FnScope ["self", "found", "statement", "is_guarded"] ["self"] (defScope s_Library_errors) := ⟨rfl, rfl, rfl, by decide +kernel, rfl, by decide +kernel, by decide +kernel⟩
abbrev s_Library_unknown : Stmt := inClass (top 27) 6
theorem sc_Library_unknown : FnScope ["self", "called", "statement", "is_guarded", "name"] ["self"] (defScope s_Library_unknown) := ⟨rfl, rfl, rfl, by decide +kernel, rfl, by decide +kernel, by decide +kernel⟩
abbrev s_Library_blocks : Stmt := inClass (top 27) 7
theorem sc_Library_blocks : FnScope ["self", "line", "mode"] ["self"] (defScope s_Library_blocks) := ⟨rfl, rfl, rfl, by decide +kernel, rfl, by decide +kernel, by decide +kernel⟩
abbrev s_Library_joined : Stmt := inClass (top 27) 16
theorem sc_Library_joined : FnScope ["libraries", "names", "library", "name"] ["libraries"] (defScope s_Library_joined) := ⟨rfl, rfl, rfl, by decide +kernel, rfl, by decide +kernel, by decide +kernel⟩
abbrev s_law_pool : Stmt := top 29
theorem sc_law_pool : FnScope ["_law_script", "_law_at", "_law_cell", "_law_size", "_law_seed"] ["_law_script", "_law_at"] (defScope s_law_pool) := ⟨rfl, rfl, rfl, by decide +kernel, rfl, by decide +kernel, by decide +kernel⟩
abbrev s_law_draw : Stmt := top 30
theorem sc_law_draw : FnScope ["_law_pool_here", "_law_many", "_law_digit", "_law_count", "_law_mixed"] ["_law_pool_here", "_law_many"] (defScope s_law_draw) := ⟨rfl, rfl, rfl, by decide +kernel, rfl, by decide +kernel, by decide +kernel⟩
abbrev s_law_word : Stmt := top 31
theorem sc_law_word : FnScope ["_law_pool_here", "_law_letters", "_law_k"] ["_law_pool_here"] (defScope s_law_word) := ⟨rfl, rfl, rfl, by decide +kernel, rfl, by decide +kernel, by decide +kernel⟩
abbrev s_law_join : Stmt := top 32
theorem sc_law_join : FnScope ["_law_first", "_law_second", "_law_told", "e"] ["_law_first", "_law_second"] (defScope s_law_join) := ⟨rfl, rfl, rfl, by decide +kernel, rfl, by decide +kernel, by decide +kernel⟩
abbrev s_law_rows : Stmt := top 33
theorem sc_law_rows : FnScope ["_law_name", "_law_sort", "_law_words", "_law_rows_here", "_law_word_here"] ["_law_name", "_law_sort", "_law_words"] (defScope s_law_rows) := ⟨rfl, rfl, rfl, by decide +kernel, rfl, by decide +kernel, by decide +kernel⟩
abbrev s_law_bound : Stmt := top 34
theorem sc_law_bound : FnScope ["_law_pool_here", "_law_sort", "_law_most", "_law_many", "_law_stem", "_law_words", "_law_part", "_law_names", "_law_first", "_law_second", "_law_what", "_law_unknown", "_law_k"] ["_law_pool_here"] (defScope s_law_bound) := ⟨rfl, rfl, rfl, by decide +kernel, rfl, by decide +kernel, by decide +kernel⟩
abbrev s_law_ring : Stmt := top 35
theorem sc_law_ring : FnScope ["_law_pool_here", "_law_stem", "_law_names", "_law_guards", "_law_first", "_law_second", "_law_k", "_law_line", "_law_is_turned", "_law_due", "_law_through", "_law_order", "_law_name"] ["_law_pool_here"] (defScope s_law_ring) := ⟨rfl, rfl, rfl, by decide +kernel, rfl, by decide +kernel, by decide +kernel⟩
abbrev s_law : Stmt := top 36
theorem sc_law : FnScope ["_law_script", "_law_at", "_law_pool_here", "_law_turn"] ["_law_script"] (defScope s_law) := ⟨rfl, rfl, rfl, by decide +kernel, rfl, by decide +kernel, by decide +kernel⟩
abbrev ef_TooMany : List (Str × Sum Nat Str) := [("what", .inl 0)]
theorem ec_TooMany {K : PySem.W.Frag} {C fI : Addr} {nm qn : Str} {N : Addr} {bs bm : List Value} {sn : List Str} {sub : List Value} {ab : Bool} {col : Option Bool} {dd : Option Addr} {k0 k1 k2 k3 k5 : Option Value}
    {oc : Value} {od : Option Addr} {doc pm : Value} {an : Option Addr} {cda cc : Addr} {ct : Value} {osl : Array (Option Value)} {ccl : Value} {cdd : Option Addr} {vs : Array Value} {ccs : Array (Option Value)} {tf : Tok} {cl : Value} {cld : Option Addr} {csl : Array (Option Value)}
    (h1 : K.lookup C = some (excClassObj nm qn C N bs bm true sn sub ab col dd k0 k1 k2 k3 k5 "ValueError.__new__")) (h2 : PySem.HandSPX.refsVE bm = true) (h3 : PySem.W.findIn K (.ref C) "__setattr__" = some (some (.builtin "object.__setattr__")))
    (h4 : PySem.W.findIn K (.ref C) "__getattribute__" = some (some (.builtin "BaseException.__getattribute__"))) (h5 : PySem.W.findIn K (.ref C) "__getattr__" = some none) (h6 : PySem.W.findIn K (.ref C) "__init__" = some (some (.ref fI)))
    (h7 : PySem.W.typeIn K (.ref fI) = some (.type "function")) (h8 : PySem.W.keepIn K (.ref C) = true) (h9 : PySem.W.subIn K (.ref C) (.type "BaseException") = some true) (h10 : PySem.W.subIn K (.ref C) (.type "ValueError") = some true)
    (h11 : PySem.W.typeIn K (.ref C) = some (.type "type")) (h12 : PySem.W.hasDictIn K C = true) (h13 : PySem.W.ks_superIn K C C "__init__" = some (some (.builtin "ValueError.__init__"))) (h14 : PySem.W.mroIn K C (.ref C) = some true) (h15 : PySem.W.exmOne K (.ref C) (.ref C) = some true)
    (h16 : PySem.W.nsIn K cStatics "thirdparty.any" = some none) (h17 : K.lookup fI = some ⟨oc, od, .func (PySem.W.ksFn "__init__" "TooMany.__init__" (defArgs s_TooManyU_initU) (defBody s_TooManyU_initU) (defScope s_TooManyU_initU) .none .none doc pm an (.ref cda) ct cc), osl⟩) (h18 : PySem.W.codeIn K (.ref cda) "TooMany.__init__" = true)
    (h19 : K.lookup cda = some ⟨ccl, cdd, .fields vs, ccs⟩) (h20 : vs[2]? = some (.str P.main.file tf)) (h21 : K.lookup cc = some ⟨cl, cld, .cell (some (.ref C)), csl⟩) (nf0 : PySem.W.findIn K (.ref C) "what" = some none) : ErrC P K C fI s_TooManyU_initU "TooMany.__init__" ["what"] ef_TooMany := by
  refine ⟨⟨nm, qn, N, bs, bm, sn, sub, ab, col, dd, k0, k1, k2, k3, k5, h1, h2⟩, h3, h4, h5, ?_, h6, h7, h8, h9, h10, h11, h12, h13, h14, h15, h16, ⟨oc, od, doc, pm, an, cda, cc, ct, osl, ccl, cdd, vs, ccs, tf, cl, cld, csl, h17, h18, h19, h20, h21⟩, ⟨_, rfl, rfl⟩, (fun _ _ _ _ _ _ us hl => match us, hl with | [_, _], _ => rfl),
    ⟨_, _, _, _, _, _, _, _, _, rfl, (.par (i := 0) rfl .nil), fun L cda cc => ⟨_, rfl⟩⟩, rfl, rfl, rfl, by decide +kernel, by decide +kernel, rfl, rfl, by decide +kernel, by decide +kernel⟩
  intro p hp
  rcases List.mem_cons.mp hp with rfl | hp
  · exact nf0
  · exact absurd hp (by simp)
abbrev ef_BadLibrary : List (Str × Sum Nat Str) := [("line", .inl 0)]
theorem ec_BadLibrary {K : PySem.W.Frag} {C fI : Addr} {nm qn : Str} {N : Addr} {bs bm : List Value} {sn : List Str} {sub : List Value} {ab : Bool} {col : Option Bool} {dd : Option Addr} {k0 k1 k2 k3 k5 : Option Value}
    {oc : Value} {od : Option Addr} {doc pm : Value} {an : Option Addr} {cda cc : Addr} {ct : Value} {osl : Array (Option Value)} {ccl : Value} {cdd : Option Addr} {vs : Array Value} {ccs : Array (Option Value)} {tf : Tok} {cl : Value} {cld : Option Addr} {csl : Array (Option Value)}
    (h1 : K.lookup C = some (excClassObj nm qn C N bs bm true sn sub ab col dd k0 k1 k2 k3 k5 "ValueError.__new__")) (h2 : PySem.HandSPX.refsVE bm = true) (h3 : PySem.W.findIn K (.ref C) "__setattr__" = some (some (.builtin "object.__setattr__")))
    (h4 : PySem.W.findIn K (.ref C) "__getattribute__" = some (some (.builtin "BaseException.__getattribute__"))) (h5 : PySem.W.findIn K (.ref C) "__getattr__" = some none) (h6 : PySem.W.findIn K (.ref C) "__init__" = some (some (.ref fI)))
    (h7 : PySem.W.typeIn K (.ref fI) = some (.type "function")) (h8 : PySem.W.keepIn K (.ref C) = true) (h9 : PySem.W.subIn K (.ref C) (.type "BaseException") = some true) (h10 : PySem.W.subIn K (.ref C) (.type "ValueError") = some true)
    (h11 : PySem.W.typeIn K (.ref C) = some (.type "type")) (h12 : PySem.W.hasDictIn K C = true) (h13 : PySem.W.ks_superIn K C C "__init__" = some (some (.builtin "ValueError.__init__"))) (h14 : PySem.W.mroIn K C (.ref C) = some true) (h15 : PySem.W.exmOne K (.ref C) (.ref C) = some true)
    (h16 : PySem.W.nsIn K cStatics "thirdparty.any" = some none) (h17 : K.lookup fI = some ⟨oc, od, .func (PySem.W.ksFn "__init__" "BadLibrary.__init__" (defArgs s_BadLibraryU_initU) (defBody s_BadLibraryU_initU) (defScope s_BadLibraryU_initU) .none .none doc pm an (.ref cda) ct cc), osl⟩) (h18 : PySem.W.codeIn K (.ref cda) "BadLibrary.__init__" = true)
    (h19 : K.lookup cda = some ⟨ccl, cdd, .fields vs, ccs⟩) (h20 : vs[2]? = some (.str P.main.file tf)) (h21 : K.lookup cc = some ⟨cl, cld, .cell (some (.ref C)), csl⟩) (nf0 : PySem.W.findIn K (.ref C) "line" = some none) : ErrC P K C fI s_BadLibraryU_initU "BadLibrary.__init__" ["line"] ef_BadLibrary := by
  refine ⟨⟨nm, qn, N, bs, bm, sn, sub, ab, col, dd, k0, k1, k2, k3, k5, h1, h2⟩, h3, h4, h5, ?_, h6, h7, h8, h9, h10, h11, h12, h13, h14, h15, h16, ⟨oc, od, doc, pm, an, cda, cc, ct, osl, ccl, cdd, vs, ccs, tf, cl, cld, csl, h17, h18, h19, h20, h21⟩, ⟨_, rfl, rfl⟩, (fun _ _ _ _ _ _ us hl => match us, hl with | [_, _], _ => rfl),
    ⟨_, _, _, _, _, _, _, _, _, rfl, (.par (i := 0) rfl .nil), fun L cda cc => ⟨_, rfl⟩⟩, rfl, rfl, rfl, by decide +kernel, by decide +kernel, rfl, rfl, by decide +kernel, by decide +kernel⟩
  intro p hp
  rcases List.mem_cons.mp hp with rfl | hp
  · exact nf0
  · exact absurd hp (by simp)
abbrev ef_Endless : List (Str × Sum Nat Str) := [("name", .inl 0)]
theorem ec_Endless {K : PySem.W.Frag} {C fI : Addr} {nm qn : Str} {N : Addr} {bs bm : List Value} {sn : List Str} {sub : List Value} {ab : Bool} {col : Option Bool} {dd : Option Addr} {k0 k1 k2 k3 k5 : Option Value}
    {oc : Value} {od : Option Addr} {doc pm : Value} {an : Option Addr} {cda cc : Addr} {ct : Value} {osl : Array (Option Value)} {ccl : Value} {cdd : Option Addr} {vs : Array Value} {ccs : Array (Option Value)} {tf : Tok} {cl : Value} {cld : Option Addr} {csl : Array (Option Value)}
    (h1 : K.lookup C = some (excClassObj nm qn C N bs bm true sn sub ab col dd k0 k1 k2 k3 k5 "ValueError.__new__")) (h2 : PySem.HandSPX.refsVE bm = true) (h3 : PySem.W.findIn K (.ref C) "__setattr__" = some (some (.builtin "object.__setattr__")))
    (h4 : PySem.W.findIn K (.ref C) "__getattribute__" = some (some (.builtin "BaseException.__getattribute__"))) (h5 : PySem.W.findIn K (.ref C) "__getattr__" = some none) (h6 : PySem.W.findIn K (.ref C) "__init__" = some (some (.ref fI)))
    (h7 : PySem.W.typeIn K (.ref fI) = some (.type "function")) (h8 : PySem.W.keepIn K (.ref C) = true) (h9 : PySem.W.subIn K (.ref C) (.type "BaseException") = some true) (h10 : PySem.W.subIn K (.ref C) (.type "ValueError") = some true)
    (h11 : PySem.W.typeIn K (.ref C) = some (.type "type")) (h12 : PySem.W.hasDictIn K C = true) (h13 : PySem.W.ks_superIn K C C "__init__" = some (some (.builtin "ValueError.__init__"))) (h14 : PySem.W.mroIn K C (.ref C) = some true) (h15 : PySem.W.exmOne K (.ref C) (.ref C) = some true)
    (h16 : PySem.W.nsIn K cStatics "thirdparty.any" = some none) (h17 : K.lookup fI = some ⟨oc, od, .func (PySem.W.ksFn "__init__" "Endless.__init__" (defArgs s_EndlessU_initU) (defBody s_EndlessU_initU) (defScope s_EndlessU_initU) .none .none doc pm an (.ref cda) ct cc), osl⟩) (h18 : PySem.W.codeIn K (.ref cda) "Endless.__init__" = true)
    (h19 : K.lookup cda = some ⟨ccl, cdd, .fields vs, ccs⟩) (h20 : vs[2]? = some (.str P.main.file tf)) (h21 : K.lookup cc = some ⟨cl, cld, .cell (some (.ref C)), csl⟩) (nf0 : PySem.W.findIn K (.ref C) "name" = some none) : ErrC P K C fI s_EndlessU_initU "Endless.__init__" ["name"] ef_Endless := by
  refine ⟨⟨nm, qn, N, bs, bm, sn, sub, ab, col, dd, k0, k1, k2, k3, k5, h1, h2⟩, h3, h4, h5, ?_, h6, h7, h8, h9, h10, h11, h12, h13, h14, h15, h16, ⟨oc, od, doc, pm, an, cda, cc, ct, osl, ccl, cdd, vs, ccs, tf, cl, cld, csl, h17, h18, h19, h20, h21⟩, ⟨_, rfl, rfl⟩, (fun _ _ _ _ _ _ us hl => match us, hl with | [_, _], _ => rfl),
    ⟨_, _, _, _, _, _, _, _, _, rfl, (.par (i := 0) rfl .nil), fun L cda cc => ⟨_, rfl⟩⟩, rfl, rfl, rfl, by decide +kernel, by decide +kernel, rfl, rfl, by decide +kernel, by decide +kernel⟩
  intro p hp
  rcases List.mem_cons.mp hp with rfl | hp
  · exact nf0
  · exact absurd hp (by simp)
abbrev ef_Clash : List (Str × Sum Nat Str) := [("name", .inl 0)]
theorem ec_Clash {K : PySem.W.Frag} {C fI : Addr} {nm qn : Str} {N : Addr} {bs bm : List Value} {sn : List Str} {sub : List Value} {ab : Bool} {col : Option Bool} {dd : Option Addr} {k0 k1 k2 k3 k5 : Option Value}
    {oc : Value} {od : Option Addr} {doc pm : Value} {an : Option Addr} {cda cc : Addr} {ct : Value} {osl : Array (Option Value)} {ccl : Value} {cdd : Option Addr} {vs : Array Value} {ccs : Array (Option Value)} {tf : Tok} {cl : Value} {cld : Option Addr} {csl : Array (Option Value)}
    (h1 : K.lookup C = some (excClassObj nm qn C N bs bm true sn sub ab col dd k0 k1 k2 k3 k5 "ValueError.__new__")) (h2 : PySem.HandSPX.refsVE bm = true) (h3 : PySem.W.findIn K (.ref C) "__setattr__" = some (some (.builtin "object.__setattr__")))
    (h4 : PySem.W.findIn K (.ref C) "__getattribute__" = some (some (.builtin "BaseException.__getattribute__"))) (h5 : PySem.W.findIn K (.ref C) "__getattr__" = some none) (h6 : PySem.W.findIn K (.ref C) "__init__" = some (some (.ref fI)))
    (h7 : PySem.W.typeIn K (.ref fI) = some (.type "function")) (h8 : PySem.W.keepIn K (.ref C) = true) (h9 : PySem.W.subIn K (.ref C) (.type "BaseException") = some true) (h10 : PySem.W.subIn K (.ref C) (.type "ValueError") = some true)
    (h11 : PySem.W.typeIn K (.ref C) = some (.type "type")) (h12 : PySem.W.hasDictIn K C = true) (h13 : PySem.W.ks_superIn K C C "__init__" = some (some (.builtin "ValueError.__init__"))) (h14 : PySem.W.mroIn K C (.ref C) = some true) (h15 : PySem.W.exmOne K (.ref C) (.ref C) = some true)
    (h16 : PySem.W.nsIn K cStatics "thirdparty.any" = some none) (h17 : K.lookup fI = some ⟨oc, od, .func (PySem.W.ksFn "__init__" "Clash.__init__" (defArgs s_ClashU_initU) (defBody s_ClashU_initU) (defScope s_ClashU_initU) .none .none doc pm an (.ref cda) ct cc), osl⟩) (h18 : PySem.W.codeIn K (.ref cda) "Clash.__init__" = true)
    (h19 : K.lookup cda = some ⟨ccl, cdd, .fields vs, ccs⟩) (h20 : vs[2]? = some (.str P.main.file tf)) (h21 : K.lookup cc = some ⟨cl, cld, .cell (some (.ref C)), csl⟩) (nf0 : PySem.W.findIn K (.ref C) "name" = some none) : ErrC P K C fI s_ClashU_initU "Clash.__init__" ["name"] ef_Clash := by
  refine ⟨⟨nm, qn, N, bs, bm, sn, sub, ab, col, dd, k0, k1, k2, k3, k5, h1, h2⟩, h3, h4, h5, ?_, h6, h7, h8, h9, h10, h11, h12, h13, h14, h15, h16, ⟨oc, od, doc, pm, an, cda, cc, ct, osl, ccl, cdd, vs, ccs, tf, cl, cld, csl, h17, h18, h19, h20, h21⟩, ⟨_, rfl, rfl⟩, (fun _ _ _ _ _ _ us hl => match us, hl with | [_, _], _ => rfl),
    ⟨_, _, _, _, _, _, _, _, _, rfl, (.par (i := 0) rfl .nil), fun L cda cc => ⟨_, rfl⟩⟩, rfl, rfl, rfl, by decide +kernel, by decide +kernel, rfl, rfl, by decide +kernel, by decide +kernel⟩
  intro p hp
  rcases List.mem_cons.mp hp with rfl | hp
  · exact nf0
  · exact absurd hp (by simp)
structure Ad where
  Mode : Addr
  Mode_ALL : Addr
  Mode_is_mode : Addr
  p_Mode_is_mode : Addr
  is_word : Addr
  TooMany : Addr
  TooManyU_initU : Addr
  BadLibrary : Addr
  BadLibraryU_initU : Addr
  Endless : Addr
  EndlessU_initU : Addr
  Clash : Addr
  ClashU_initU : Addr
  split_line : Addr
  Reader : Addr
  ReaderU_initU : Addr
  Reader_words_at : Addr
  Reader_wrong_if : Addr
  Reader_read_all : Addr
  Reader_read_body : Addr
  Reader_read_statement : Addr
  Reader_read_block : Addr
  Reader_read_try : Addr
  DATABASE_ERRORS : Addr
  BOUNDS : Addr
  BOUNDS_0 : Addr
  BOUNDS_1 : Addr
  BOUNDS_2 : Addr
  BOUNDS_3 : Addr
  BOUNDS_4 : Addr
  BOUNDS_5 : Addr
  Library : Addr
  LibraryU_initU : Addr
  parts_of : Addr
  listed_statements : Addr
  words_of : Addr
  comes_back : Addr
  free_statements : Addr
  weight_of : Addr
  body_weight : Addr
  Library_stay_in_bounds : Addr
  Library_come_to_an_end : Addr
  Library_functions : Addr
  Library_records : Addr
  Library_errors : Addr
  Library_unknown : Addr
  Library_blocks : Addr
  Library_joined : Addr
  p_Library_joined : Addr
  law_pool : Addr
  law_draw : Addr
  law_word : Addr
  law_join : Addr
  law_rows : Addr
  law_bound : Addr
  law_ring : Addr
  law : Addr
structure Fd where
  Mode_is_mode : FuncData
  is_word : FuncData
  split_line : FuncData
  ReaderU_initU : FuncData
  Reader_words_at : FuncData
  Reader_wrong_if : FuncData
  Reader_read_all : FuncData
  Reader_read_body : FuncData
  Reader_read_statement : FuncData
  Reader_read_block : FuncData
  Reader_read_try : FuncData
  LibraryU_initU : FuncData
  parts_of : FuncData
  listed_statements : FuncData
  words_of : FuncData
  comes_back : FuncData
  free_statements : FuncData
  weight_of : FuncData
  body_weight : FuncData
  Library_stay_in_bounds : FuncData
  Library_come_to_an_end : FuncData
  Library_functions : FuncData
  Library_records : FuncData
  Library_errors : FuncData
  Library_unknown : FuncData
  Library_blocks : FuncData
  Library_joined : FuncData
  law_pool : FuncData
  law_draw : FuncData
  law_word : FuncData
  law_join : FuncData
  law_rows : FuncData
  law_bound : FuncData
  law_ring : FuncData
  law : FuncData
structure Txt (K : PySem.W.Frag) (mg : Str → Option Value) (a : Ad) (d : Fd) : Prop where
  g_Mode : mg "Mode" = some (.ref a.Mode)
  r_Mode : ClX.CRead K a.Mode (.type "type")
  c_Mode_JOIN : ∃ u, ClX.CVal K a.Mode (.type "type") "JOIN" (.str "join") u
  c_Mode_INNER : ∃ u, ClX.CVal K a.Mode (.type "type") "INNER" (.str "inner") u
  c_Mode_APART : ∃ u, ClX.CVal K a.Mode (.type "type") "APART" (.str "apart") u
  c_Mode_MUST : ∃ u, ClX.CVal K a.Mode (.type "type") "MUST" (.str "must") u
  c_Mode_EITHER : ∃ u, ClX.CVal K a.Mode (.type "type") "EITHER" (.str "either") u
  c_Mode_NEVER : ∃ u, ClX.CVal K a.Mode (.type "type") "NEVER" (.str "never") u
  c_Mode_OUTSIDE : ∃ u, ClX.CVal K a.Mode (.type "type") "OUTSIDE" (.str "outside") u
  c_Mode_ALONE : ∃ u, ClX.CVal K a.Mode (.type "type") "ALONE" (.str "alone") u
  c_Mode_ALL : ∃ u, ClX.CVal K a.Mode (.type "type") "ALL" (.ref a.Mode_ALL) u
  q_Mode_ALL : (∀ H, SqT K H a.Mode_ALL [.str "join", .str "inner", .str "apart", .str "must", .str "either", .str "never", .str "outside", .str "alone"])
  k_Mode_ALL : (∃ o, K.lookup a.Mode_ALL = some o ∧ o.cls = .type "tuple")
  Mode_is_mode : Fun K "is_mode" "Mode.is_mode" s_Mode_is_mode a.Mode_is_mode d.Mode_is_mode
  b_Mode_is_mode : Binds K d.Mode_is_mode ["thing"] []
  s_Mode_is_mode : SMet K a.Mode (.type "type") "is_mode" a.p_Mode_is_mode a.Mode_is_mode
  is_word : Fun K "is_word" "is_word" s_is_word a.is_word d.is_word
  b_is_word : Binds K d.is_word ["thing"] []
  g_is_word : mg "is_word" = some (.ref a.is_word)
  g_TooMany : mg "TooMany" = some (.ref a.TooMany)
  e_TooMany : ErrC P K a.TooMany a.TooManyU_initU s_TooManyU_initU "TooMany.__init__" ["what"] ef_TooMany
  g_BadLibrary : mg "BadLibrary" = some (.ref a.BadLibrary)
  e_BadLibrary : ErrC P K a.BadLibrary a.BadLibraryU_initU s_BadLibraryU_initU "BadLibrary.__init__" ["line"] ef_BadLibrary
  g_Endless : mg "Endless" = some (.ref a.Endless)
  e_Endless : ErrC P K a.Endless a.EndlessU_initU s_EndlessU_initU "Endless.__init__" ["name"] ef_Endless
  g_Clash : mg "Clash" = some (.ref a.Clash)
  e_Clash : ErrC P K a.Clash a.ClashU_initU s_ClashU_initU "Clash.__init__" ["name"] ef_Clash
  x_TooMany_Endless : PySem.W.exmOne K (.ref a.TooMany) (.ref a.Endless) = some false
  x_Endless_TooMany : PySem.W.exmOne K (.ref a.Endless) (.ref a.TooMany) = some false
  v_DEEPEST : ∃ u, mg "DEEPEST" = some u ∧ RelV (.int 8) u
  split_line : Fun K "split_line" "split_line" s_split_line a.split_line d.split_line
  b_split_line : Binds K d.split_line ["line"] []
  g_split_line : mg "split_line" = some (.ref a.split_line)
  g_Reader : mg "Reader" = some (.ref a.Reader)
  k_Reader : Cls K a.Reader
  na_Reader_rows : NoAttr K a.Reader "rows"
  na_Reader_at : NoAttr K a.Reader "at"
  na_Reader_starts : NoAttr K a.Reader "starts"
  na_Reader_bodies : NoAttr K a.Reader "bodies"
  na_Reader_marks : NoAttr K a.Reader "marks"
  ReaderU_initU : Fun K "__init__" "Reader.__init__" s_ReaderU_initU a.ReaderU_initU d.ReaderU_initU
  b_ReaderU_initU : Binds K d.ReaderU_initU ["self", "lines"] []
  mk_Reader : Mk K a.Reader a.ReaderU_initU
  Reader_words_at : Fun K "words_at" "Reader.words_at" s_Reader_words_at a.Reader_words_at d.Reader_words_at
  b_Reader_words_at : Binds K d.Reader_words_at ["self", "nesting"] []
  m_Reader_words_at : Meth K a.Reader "words_at" a.Reader_words_at
  Reader_wrong_if : Fun K "wrong_if" "Reader.wrong_if" s_Reader_wrong_if a.Reader_wrong_if d.Reader_wrong_if
  b_Reader_wrong_if : Binds K d.Reader_wrong_if ["self", "is_wrong"] []
  m_Reader_wrong_if : Meth K a.Reader "wrong_if" a.Reader_wrong_if
  Reader_read_all : Fun K "read_all" "Reader.read_all" s_Reader_read_all a.Reader_read_all d.Reader_read_all
  b_Reader_read_all : Binds K d.Reader_read_all ["self"] []
  m_Reader_read_all : Meth K a.Reader "read_all" a.Reader_read_all
  Reader_read_body : Fun K "read_body" "Reader.read_body" s_Reader_read_body a.Reader_read_body d.Reader_read_body
  b_Reader_read_body : Binds K d.Reader_read_body ["self", "nesting"] []
  m_Reader_read_body : Meth K a.Reader "read_body" a.Reader_read_body
  Reader_read_statement : Fun K "read_statement" "Reader.read_statement" s_Reader_read_statement a.Reader_read_statement d.Reader_read_statement
  b_Reader_read_statement : Binds K d.Reader_read_statement ["self", "words", "nesting"] []
  m_Reader_read_statement : Meth K a.Reader "read_statement" a.Reader_read_statement
  Reader_read_block : Fun K "read_block" "Reader.read_block" s_Reader_read_block a.Reader_read_block d.Reader_read_block
  b_Reader_read_block : Binds K d.Reader_read_block ["self", "words", "nesting"] []
  m_Reader_read_block : Meth K a.Reader "read_block" a.Reader_read_block
  Reader_read_try : Fun K "read_try" "Reader.read_try" s_Reader_read_try a.Reader_read_try d.Reader_read_try
  b_Reader_read_try : Binds K d.Reader_read_try ["self", "nesting"] []
  m_Reader_read_try : Meth K a.Reader "read_try" a.Reader_read_try
  v_MOST_CHARACTERS : ∃ u, mg "MOST_CHARACTERS" = some u ∧ RelV (.int 6000) u
  v_MOST_WEIGHT : ∃ u, mg "MOST_WEIGHT" = some u ∧ RelV (.int 400) u
  g_DATABASE_ERRORS : mg "DATABASE_ERRORS" = some (.ref a.DATABASE_ERRORS)
  q_DATABASE_ERRORS : (∀ H, SqT K H a.DATABASE_ERRORS [.str "doomed", .str "missing", .str "present", .str "refused", .str "waits"])
  g_BOUNDS : mg "BOUNDS" = some (.ref a.BOUNDS)
  q_BOUNDS_0 : (∀ H, SqT K H a.BOUNDS_0 [.str "functions", .int 12])
  q_BOUNDS_1 : (∀ H, SqT K H a.BOUNDS_1 [.str "statements", .int 80])
  q_BOUNDS_2 : (∀ H, SqT K H a.BOUNDS_2 [.str "records", .int 6])
  q_BOUNDS_3 : (∀ H, SqT K H a.BOUNDS_3 [.str "errors", .int 11])
  q_BOUNDS_4 : (∀ H, SqT K H a.BOUNDS_4 [.str "blocks", .int 16])
  q_BOUNDS_5 : (∀ H, SqT K H a.BOUNDS_5 [.str "unknown", .int 4])
  q_BOUNDS : (∀ H, SqT K H a.BOUNDS [.ref a.BOUNDS_0, .ref a.BOUNDS_1, .ref a.BOUNDS_2, .ref a.BOUNDS_3, .ref a.BOUNDS_4, .ref a.BOUNDS_5])
  g_Library : mg "Library" = some (.ref a.Library)
  k_Library : Cls K a.Library
  na_Library_text : NoAttr K a.Library "text"
  na_Library_lines : NoAttr K a.Library "lines"
  na_Library_starts : NoAttr K a.Library "starts"
  na_Library_bodies : NoAttr K a.Library "bodies"
  na_Library_marks : NoAttr K a.Library "marks"
  na_Library_pairs : NoAttr K a.Library "pairs"
  LibraryU_initU : FunD K "__init__" "Library.__init__" (defArgs s_LibraryU_initU) (defBody s_LibraryU_initU) (defScope s_LibraryU_initU) [.int 6000] [] a.LibraryU_initU d.LibraryU_initU
  mk_Library : Mk K a.Library a.LibraryU_initU
  parts_of : Fun K "parts_of" "parts_of" s_parts_of a.parts_of d.parts_of
  b_parts_of : Binds K d.parts_of ["statement"] []
  g_parts_of : mg "parts_of" = some (.ref a.parts_of)
  listed_statements : FunD K "listed_statements" "listed_statements" (defArgs s_listed_statements) (defBody s_listed_statements) (defScope s_listed_statements) [.bl false] [] a.listed_statements d.listed_statements
  g_listed_statements : mg "listed_statements" = some (.ref a.listed_statements)
  words_of : Fun K "words_of" "words_of" s_words_of a.words_of d.words_of
  b_words_of : Binds K d.words_of ["statement"] []
  g_words_of : mg "words_of" = some (.ref a.words_of)
  comes_back : Fun K "comes_back" "comes_back" s_comes_back a.comes_back d.comes_back
  b_comes_back : Binds K d.comes_back ["name", "calls"] []
  g_comes_back : mg "comes_back" = some (.ref a.comes_back)
  free_statements : Fun K "free_statements" "free_statements" s_free_statements a.free_statements d.free_statements
  b_free_statements : Binds K d.free_statements ["body"] []
  g_free_statements : mg "free_statements" = some (.ref a.free_statements)
  weight_of : Fun K "weight_of" "weight_of" s_weight_of a.weight_of d.weight_of
  b_weight_of : Binds K d.weight_of ["name", "bodies", "known"] []
  g_weight_of : mg "weight_of" = some (.ref a.weight_of)
  body_weight : Fun K "body_weight" "body_weight" s_body_weight a.body_weight d.body_weight
  b_body_weight : Binds K d.body_weight ["body", "bodies", "known"] []
  g_body_weight : mg "body_weight" = some (.ref a.body_weight)
  Library_stay_in_bounds : Fun K "stay_in_bounds" "Library.stay_in_bounds" s_Library_stay_in_bounds a.Library_stay_in_bounds d.Library_stay_in_bounds
  b_Library_stay_in_bounds : Binds K d.Library_stay_in_bounds ["self"] []
  m_Library_stay_in_bounds : Meth K a.Library "stay_in_bounds" a.Library_stay_in_bounds
  Library_come_to_an_end : Fun K "come_to_an_end" "Library.come_to_an_end" s_Library_come_to_an_end a.Library_come_to_an_end d.Library_come_to_an_end
  b_Library_come_to_an_end : Binds K d.Library_come_to_an_end ["self"] []
  m_Library_come_to_an_end : Meth K a.Library "come_to_an_end" a.Library_come_to_an_end
  Library_functions : Fun K "functions" "Library.functions" s_Library_functions a.Library_functions d.Library_functions
  b_Library_functions : Binds K d.Library_functions ["self"] []
  m_Library_functions : Meth K a.Library "functions" a.Library_functions
  Library_records : Fun K "records" "Library.records" s_Library_records a.Library_records d.Library_records
  b_Library_records : Binds K d.Library_records ["self"] []
  m_Library_records : Meth K a.Library "records" a.Library_records
  Library_errors : Fun K "errors" "Library.errors" s_Library_errors a.Library_errors d.Library_errors
  b_Library_errors : Binds K d.Library_errors ["self"] []
  m_Library_errors : Meth K a.Library "errors" a.Library_errors
  Library_unknown : Fun K "unknown" "Library.unknown" s_Library_unknown a.Library_unknown d.Library_unknown
  b_Library_unknown : Binds K d.Library_unknown ["self"] []
  m_Library_unknown : Meth K a.Library "unknown" a.Library_unknown
  Library_blocks : Fun K "blocks" "Library.blocks" s_Library_blocks a.Library_blocks d.Library_blocks
  b_Library_blocks : Binds K d.Library_blocks ["self"] []
  m_Library_blocks : Meth K a.Library "blocks" a.Library_blocks
  r_Library : ClX.CRead K a.Library (.type "type")
  Library_joined : Fun K "joined" "Library.joined" s_Library_joined a.Library_joined d.Library_joined
  s_Library_joined : SMet K a.Library (.type "type") "joined" a.p_Library_joined a.Library_joined
  law_pool : Fun K "_law_pool" "_law_pool" s_law_pool a.law_pool d.law_pool
  b_law_pool : Binds K d.law_pool ["_law_script", "_law_at"] []
  g_law_pool : mg "_law_pool" = some (.ref a.law_pool)
  law_draw : Fun K "_law_draw" "_law_draw" s_law_draw a.law_draw d.law_draw
  b_law_draw : Binds K d.law_draw ["_law_pool_here", "_law_many"] []
  g_law_draw : mg "_law_draw" = some (.ref a.law_draw)
  law_word : Fun K "_law_word" "_law_word" s_law_word a.law_word d.law_word
  b_law_word : Binds K d.law_word ["_law_pool_here"] []
  g_law_word : mg "_law_word" = some (.ref a.law_word)
  law_join : Fun K "_law_join" "_law_join" s_law_join a.law_join d.law_join
  b_law_join : Binds K d.law_join ["_law_first", "_law_second"] []
  g_law_join : mg "_law_join" = some (.ref a.law_join)
  law_rows : Fun K "_law_rows" "_law_rows" s_law_rows a.law_rows d.law_rows
  b_law_rows : Binds K d.law_rows ["_law_name", "_law_sort", "_law_words"] []
  g_law_rows : mg "_law_rows" = some (.ref a.law_rows)
  law_bound : Fun K "_law_bound" "_law_bound" s_law_bound a.law_bound d.law_bound
  b_law_bound : Binds K d.law_bound ["_law_pool_here"] []
  g_law_bound : mg "_law_bound" = some (.ref a.law_bound)
  law_ring : Fun K "_law_ring" "_law_ring" s_law_ring a.law_ring d.law_ring
  b_law_ring : Binds K d.law_ring ["_law_pool_here"] []
  g_law_ring : mg "_law_ring" = some (.ref a.law_ring)
  law : Fun K "law" "law" s_law a.law d.law
  b_law : Binds K d.law ["_law_script"] []
  g_law : mg "law" = some (.ref a.law)
  n_len : mg "len" = none
  n_isinstance : mg "isinstance" = none
  n_str : mg "str" = none
  n_all : mg "all" = none
  n_super : mg "super" = none
  n_tuple : mg "tuple" = none
  n_list : mg "list" = none
  n_sorted : mg "sorted" = none
  n_set : mg "set" = none
  n_abs : mg "abs" = none
  n_int : mg "int" = none
  n_range : mg "range" = none
  n_max : mg "max" = none
  n_min : mg "min" = none

section
variable {w : World} {K : PySem.W.Frag} {mg : Str → Option Value} {base : Heap} {a : Ad} {d : Fd}
theorem ok_is_word (T : Txt K mg a d) : FnOk P w K mg base CX0 1 a.is_word d.is_word ["thing"] spIsWord := by
  refine T.is_word.ok sc_is_word (fun vs H Q E h => ?_) (fun cdv A outer s H vs Q E hr h => ?_)
  · obtain ⟨v, rfl, _⟩ := h
    rfl
  · obtain ⟨v, rfl, hv, k⟩ := h
    refine ⟨_, (pss_cons (ps_if (PW.pt (pw_or (pt_not (pt_val (pe_callB call_isi (by rfl) T.n_isinstance (by decide +kernel) (pa_cons (pv 0) (pa_cons (pe_bltn (v := .ty "str") (u := .type "str") (by rfl) T.n_str (by decide +kernel) rfl) pa_nil))))) (pw_or1 (pt_not (pt_chain op_le op_le pe_int (pe_callB call_len_str (by rfl) T.n_len PySem.boot_len (pa_cons (pv 0) pa_nil)) pe_int))))) (pss_one (ps_ret pe_bl)) pss_nil)
  (pss_cons (ps_for PassesOwn.never rfl (pi_str (pv 0)) (pg_name (i := 1) sc_is_word.nd rfl (Or.inl rfl))
  (pss_one (ps_if (pt_not (pt_chain op_le_str op_le_str pe_str (pv 1) pe_str)) (pss_one (ps_ret pe_bl)) pss_nil)))
  (pss_one (ps_ret pe_bl)))), ?_⟩
    dsimp only [cxOf]
    obtain ⟨ty, h1, h2⟩ := hv.isi (K := K)
    refine ⟨_, rfl, _, _, _, _, _, rfl, ClsV.ty _, h1, h2, _, rfl, ?_⟩
    cases hv with
    | str z hz ha0 =>
      refine iteF ?_
      have hs : z.length ≤ sizeLine := by rw [sizeLine_eq]; omega
      refine ⟨_, rfl, z, rfl, hs, ?_⟩
      walk_at "rd"
      by_cases c1 : (1 : Int) ≤ (z.length : Int)
      · rw [decide_eq_true c1]
        refine iteT ?_
        walk_at "rd"
        by_cases c2 : (z.length : Int) ≤ 8
        · rw [decide_eq_true c2]
          refine iteF ?_
          walk_at "rd"
          refine for_it (walk_str (z := z)) (fun i σ H' => H' = H ∧ ∃ v, σ = [some (.str z), v] ∧ (z.cps.toList.take i).all okC = true) ?_ (fun _ _ _ _ _ => trivial) ?_ ?_
          · exact ⟨rfl, none, rfl, rfl⟩
          · rintro i x σ H1 H2 hi ⟨rfl, v, rfl, ha⟩ ⟨rfl, c, hc, rfl⟩
            have hc' : z.cps.toList[i]? = some c := by rw [Array.getElem?_toList]; exact hc
            walk_at "rd"
            rw [le_a]
            by_cases d1 : 97 ≤ c
            · rw [decide_eq_true d1]
              refine iteT ?_
              walk_at "rd"
              rw [le_z]
              by_cases d2 : c ≤ 122
              · rw [decide_eq_true d2]
                refine iteF ?_
                refine ⟨rfl, _, rfl, all_take hc' ha ?_⟩
                unfold okC; rw [decide_eq_true d1, decide_eq_true d2]; rfl
              · rw [decide_eq_false d2]
                refine iteT ?_
                have : wordB (.str z) = false := by
                  show wordS z = false
                  unfold wordS; rw [all_no hc' (show okC c = false by unfold okC; rw [decide_eq_false d2, Bool.and_false]), Bool.and_false]
                rw [this] at k
                exact k
            · rw [decide_eq_false d1]
              refine iteF ?_
              walk_at "rd"
              refine iteT ?_
              have : wordB (.str z) = false := by
                show wordS z = false
                unfold wordS; rw [all_no hc' (show okC c = false by unfold okC; rw [decide_eq_false d1, Bool.false_and]), Bool.and_false]
              rw [this] at k
              exact k
          · rintro σ H1 ⟨rfl, v, rfl, ha⟩
            have e : (z.cps.toList.take z.cps.size) = z.cps.toList := List.take_of_length_le (by simp)
            rw [e] at ha
            have : wordB (.str z) = true := by
              show wordS z = true
              unfold wordS; rw [ha, decide_eq_true (show 1 ≤ z.length by omega), decide_eq_true (show z.length ≤ 8 by omega)]; rfl
            rw [this] at k
            exact k
        · rw [decide_eq_false c2]
          refine iteT ?_
          have : wordB (.str z) = false := by
            show wordS z = false
            unfold wordS; rw [decide_eq_false (show ¬ z.length ≤ 8 by omega), Bool.and_false, Bool.false_and]
          rw [this] at k
          exact k
      · rw [decide_eq_false c1]
        refine iteF ?_
        walk_at "rd"
        refine iteT ?_
        have : wordB (.str z) = false := by
          show wordS z = false
          unfold wordS; rw [decide_eq_false (show ¬ 1 ≤ z.length by omega), Bool.false_and, Bool.false_and]
        rw [this] at k
        exact k
    | int i => exact iteT (iteT k)
    | bl b => exact iteT (iteT k)
    | non => exact iteT (iteT k)
    | lst h => exact iteT (iteT k)
    | tup h => exact iteT (iteT k)
/-! ### modes -/
abbrev modesS : List Str := ["join", "inner", "apart", "must", "either", "never", "outside", "alone"]
abbrev modesV : List V := [.str "join", .str "inner", .str "apart", .str "must", .str "either", .str "never", .str "outside", .str "alone"]
def modeB (v : V) : Bool := strB v && inV v modesV
theorem strB_flat {v : V} (h : strB v = true) : flatV v = true := by
  cases v <;> first | rfl | cases h
def spIsMode : Sp := fun vs H Q _ => ∃ v, vs = [v] ∧ Thing H v ∧ Q (.bl (modeB v)) H
theorem ok_Mode_is_mode (T : Txt K mg a d) : FnOk P w K mg base CX0 1 a.Mode_is_mode d.Mode_is_mode ["thing"] spIsMode := by
  refine T.Mode_is_mode.ok sc_Mode_is_mode (fun vs H Q E h => ?_) (fun cdv A outer s H vs Q E hr h => ?_)
  · obtain ⟨v, rfl, _⟩ := h
    rfl
  · obtain ⟨v, rfl, hv, k⟩ := h
    refine ⟨_, (pss_one (ps_ret (pe_and (pe_callB call_isi (by rfl) T.n_isinstance (by decide +kernel) (pa_cons (pv 0) (pa_cons (pe_bltn (v := .ty "str") (u := .type "str") (by rfl) T.n_str (by decide +kernel) rfl) pa_nil))) (pe_one (pe_cmpR op_in_seq (pv 0) (ClX.pe_cval (pe_glob (v := .ref a.Mode) (by rfl) T.g_Mode rfl)) (by rfl)))))), ?_⟩
    dsimp only [cxOf]
    obtain ⟨ty, h1, h2⟩ := hv.isi (K := K)
    refine ⟨_, rfl, _, _, _, _, _, rfl, ClsV.ty _, h1, h2, _, rfl, ?_⟩
    obtain ⟨u, hu⟩ := T.c_Mode_ALL
    unfold modeB at k
    cases hb : strB v with
    | true =>
      rw [hb] at k
      refine iteT ⟨_, rfl, _, _, _, _, rfl, T.r_Mode, hu, _, _, rfl, .inr (T.q_Mode_ALL H), strB_flat hb, rfl, k⟩
    | false =>
      rw [hb] at k
      exact iteF k
theorem mode_thing {H : Hp} {m : Str} (h : m ∈ modesS) : Thing H (.str m) := by
  refine .str m ?_ ?_
  · have : modesS.all (fun m => decide (m.length ≤ 1000)) = true := by decide +kernel
    exact of_decide_eq_true (List.all_eq_true.mp this m h)
  · intro c hc
    have : modesS.all (fun m => m.cps.toList.all fun c => decide (c < 128)) = true := by decide +kernel
    exact of_decide_eq_true (List.all_eq_true.mp (List.all_eq_true.mp this m h) c hc)
theorem mode_isB {m : Str} (h : m ∈ modesS) : modeB (.str m) = true := by
  have : modesS.all (fun m => modeB (.str m)) = true := by decide +kernel
  exact List.all_eq_true.mp this m h
/-! ### libraries: rows, statements, the reader as a plain function -/
abbrev Row := Option (Nat × List Str)
abbrev Mk := Nat × Str
/-- what a statement says beside its bodies -/
inductive Hd
  | sim (w : Str)
  | one (k w : Str)
  | blk (n : Nat) (m : Str) (ks : List Str)
  | gua (k : Str)
  | tr (ws : List (Option (List Str))) (fin : Bool)
inductive Stm
  | mk (h : Hd) (ps : List (List Stm))
inductive Rs (α : Type)
  | err (l : Nat)
  | ok (x : α) (at_ : Nat) (mk : List Mk)
def wordsAt (rows : List Row) (n at_ : Nat) : List Str := match rows[at_]? with
  | some (some (m, ws)) => if m = n then ws else []
  | _ => []
def stops (ws : List Str) : Bool := match ws with
  | [] => true
  | w :: _ => decide (w ∈ (["except", "finally"] : List Str))
def fstW (ws : List Str) : Str := ws.getD 0 ""
def modeS (z : Str) : Bool := decide (z ∈ (["join", "inner", "apart", "must", "either", "never", "outside", "alone"] : List Str))
mutual
def rdB (rows : List Row) : Nat → Nat → Nat → List Mk → Option (Rs (List Stm))
  | 0, _, _, _ => none
  | k + 1, n, i, mk => rdL rows k n i mk []
def rdL (rows : List Row) : Nat → Nat → Nat → List Mk → List Stm → Option (Rs (List Stm))
  | 0, _, _, _, _ => none
  | k + 1, n, i, mk, acc =>
    if stops (wordsAt rows n i) = true then (if acc.isEmpty = true then some (.err i) else some (.ok acc i mk))
    else match rdS rows k n i mk with
      | none => none
      | some (.err l) => some (.err l)
      | some (.ok s j mk1) => rdL rows k n j mk1 (acc ++ [s])
def rdS (rows : List Row) : Nat → Nat → Nat → List Mk → Option (Rs Stm)
  | 0, _, _, _ => none
  | k + 1, n, i, mk =>
    if fstW (wordsAt rows n i) ∈ (["pass", "doom"] : List Str) then (if (wordsAt rows n i).length = 1 then some (.ok (.mk (.sim (fstW (wordsAt rows n i))) []) (i + 1) mk) else some (.err i))
    else if fstW (wordsAt rows n i) ∈ (["write", "raise", "call"] : List Str) then (if (wordsAt rows n i).length = 2 then some (.ok (.mk (.one (fstW (wordsAt rows n i)) ((wordsAt rows n i).getD 1 "")) []) (i + 1) mk) else some (.err i))
    else if fstW (wordsAt rows n i) ∉ (["block", "maybe", "repeat", "try"] : List Str) ∨ n = 8 then some (.err i)
    else if fstW (wordsAt rows n i) = "block" then
      (if (wordsAt rows n i).length < 2 ∨ modeS ((wordsAt rows n i).getD 1 "") = false ∨ (wordsAt rows n i).length = 3 then some (.err i)
      else if 3 < (wordsAt rows n i).length ∧ (wordsAt rows n i).getD 2 "" ≠ "keep" then some (.err i)
      else match rdB rows k (n + 1) (i + 1) (mk ++ [(i, (wordsAt rows n i).getD 1 "")]) with
        | none => none
        | some (.err l) => some (.err l)
        | some (.ok b j mk1) => some (.ok (.mk (.blk mk.length ((wordsAt rows n i).getD 1 "") ((wordsAt rows n i).drop 3)) [b]) j mk1))
    else if (wordsAt rows n i).length ≠ 1 then some (.err i)
    else if fstW (wordsAt rows n i) = "try" then rdT rows k n (i + 1) mk
    else match rdB rows k (n + 1) (i + 1) mk with
        | none => none
        | some (.err l) => some (.err l)
        | some (.ok b j mk1) => some (.ok (.mk (.gua (fstW (wordsAt rows n i))) [b]) j mk1)
def rdT (rows : List Row) : Nat → Nat → Nat → List Mk → Option (Rs Stm)
  | 0, _, _, _ => none
  | k + 1, n, i, mk => match rdB rows k (n + 1) i mk with
      | none => none
      | some (.err l) => some (.err l)
      | some (.ok b j mk1) => rdH rows k n j mk1 b [] [] true
def rdH (rows : List Row) : Nat → Nat → Nat → List Mk → List Stm → List (Option (List Str)) → List (List Stm) → Bool → Option (Rs Stm)
  | 0, _, _, _, _, _, _, _ => none
  | k + 1, n, i, mk, b, hw, hb, op =>
    if op = true ∧ (wordsAt rows n i).take 1 = (["except"] : List Str) then
      match rdB rows k (n + 1) (i + 1) mk with
        | none => none
        | some (.err l) => some (.err l)
        | some (.ok c j mk1) => rdH rows k n j mk1 b (hw ++ [if (wordsAt rows n i).drop 1 = [] then none else some ((wordsAt rows n i).drop 1)]) (hb ++ [c]) (decide ((wordsAt rows n i).drop 1 ≠ []))
    else if wordsAt rows n i = (["finally"] : List Str) then
      match rdB rows k (n + 1) (i + 1) mk with
        | none => none
        | some (.err l) => some (.err l)
        | some (.ok c j mk1) => some (.ok (.mk (.tr hw true) (b :: hb ++ [c])) j mk1)
    else if hw = [] then some (.err i)
    else some (.ok (.mk (.tr hw false) (b :: hb)) i mk)
end
/-- a function of a library: its name, its line, its body -/
structure Fun where
  name : Str
  start : Nat
  body : List Stm
def rdAll (rows : List Row) : Nat → Nat → List Mk → List Fun → Option (Rs (List Fun))
  | 0, _, _, _ => none
  | k + 1, i, mk, fs =>
    if i < rows.length then
      (if (wordsAt rows 0 i).length ≠ 2 ∨ fstW (wordsAt rows 0 i) ≠ "function" ∨ (wordsAt rows 0 i).getD 1 "" ∈ fs.map (·.name) then some (.err i)
      else match rdB rows k 1 (i + 1) mk with
        | none => none
        | some (.err l) => some (.err l)
        | some (.ok b j mk1) => rdAll rows k j mk1 (fs ++ [⟨(wordsAt rows 0 i).getD 1 "", i, b⟩]))
    else some (.ok fs i mk)
/-! ### in the heap -/
def optV : Option (List Str) → (Option Addr) → HO → Prop := fun _ _ _ => True
/-- the tuple's items, its bodies' tuples at rs -/
def HdAt (H : Hp) : Hd → List Addr → List V → Prop
  | .sim w, rs, xs => rs = [] ∧ xs = [.str w]
  | .one k w, rs, xs => rs = [] ∧ xs = [.str k, .str w]
  | .blk n m ks, rs, xs => ∃ q r, rs = [r] ∧ xs = [.str "block", .int (n : Int), .str m, .ref q, .ref r] ∧ H q = some (.tup (ks.map V.str))
  | .gua k, rs, xs => ∃ r, rs = [r] ∧ xs = [.str k, .ref r]
  | .tr ws fin, rs, xs => ∃ r0 rr q ts fv, xs = [.str "try", .ref r0, .ref q, fv] ∧ H q = some (.tup (ts.map V.ref)) ∧
      A2 (fun (t : Addr) (p : Option (List Str) × Addr) => ∃ lv, H t = some (.tup [lv, .ref p.2]) ∧ match p.1 with | none => lv = .non | some l => ∃ y, lv = .ref y ∧ H y = some (.tup (l.map V.str))) ts (ws.zip rr) ∧ rr.length = ws.length ∧
      (if fin = true then ∃ r1, fv = .ref r1 ∧ rs = r0 :: rr ++ [r1] else fv = .non ∧ rs = r0 :: rr)
mutual
def SAt (H : Hp) : Stm → V → Prop
  | .mk h ps, v => ∃ p xs rs, v = .ref p ∧ H p = some (.tup xs) ∧ HdAt H h rs xs ∧ PsAt H ps rs
def PsAt (H : Hp) : List (List Stm) → List Addr → Prop
  | [], rs => rs = []
  | b :: r, rs => ∃ y rt vs, rs = y :: rt ∧ H y = some (.tup vs) ∧ BAt H b vs ∧ PsAt H r rt
def BAt (H : Hp) : List Stm → List V → Prop
  | [], vs => vs = []
  | s :: r, vs => ∃ v vt, vs = v :: vt ∧ SAt H s v ∧ BAt H r vt
end
theorem A2.imp2 {α β : Type} {R S : α → β → Prop} (h : ∀ x y, R x y → S x y) : ∀ {xs : List α} {ys : List β}, A2 R xs ys → A2 S xs ys := fun a => a.imp h
theorem HdAt.tup {H H' : Hp} (e : TupK H H') : ∀ {h : Hd} {rs : List Addr} {xs : List V}, HdAt H h rs xs → HdAt H' h rs xs
  | .sim _, _, _, h => h
  | .one _ _, _, _, h => h
  | .blk _ _ _, _, _, ⟨q, r, h1, h2, h3⟩ => ⟨q, r, h1, h2, e _ _ h3⟩
  | .gua _, _, _, h => h
  | .tr ws fin, rs, xs, ⟨r0, rr, q, ts, fv, h1, h2, h3, h4, h5⟩ => ⟨r0, rr, q, ts, fv, h1, e _ _ h2, h3.imp fun t p ⟨lv, a1, a2⟩ => ⟨lv, e _ _ a1, by
      cases hp : p.1 with
      | none => rw [hp] at a2; exact a2
      | some l =>
        rw [hp] at a2
        obtain ⟨y, b1, b2⟩ := a2
        exact ⟨y, b1, e _ _ b2⟩⟩, h4, h5⟩
mutual
theorem SAt.tup {H H' : Hp} (e : TupK H H') : ∀ {s : Stm} {v : V}, SAt H s v → SAt H' s v
  | .mk h ps, v, ⟨p, xs, rs, h1, h2, h3, h4⟩ => ⟨p, xs, rs, h1, e _ _ h2, h3.tup e, PsAt.tup e h4⟩
theorem PsAt.tup {H H' : Hp} (e : TupK H H') : ∀ {ps : List (List Stm)} {rs : List Addr}, PsAt H ps rs → PsAt H' ps rs
  | [], _, h => h
  | b :: r, rs, ⟨y, rt, vs, h1, h2, h3, h4⟩ => ⟨y, rt, vs, h1, e _ _ h2, BAt.tup e h3, PsAt.tup e h4⟩
theorem BAt.tup {H H' : Hp} (e : TupK H H') : ∀ {b : List Stm} {vs : List V}, BAt H b vs → BAt H' b vs
  | [], _, h => h
  | s :: r, vs, ⟨v, vt, h1, h2, h3⟩ => ⟨v, vt, h1, SAt.tup e h2, BAt.tup e h3⟩
end
theorem BAt.app {H : Hp} : ∀ {b c : List Stm} {vs us : List V}, BAt H b vs → BAt H c us → BAt H (b ++ c) (vs ++ us)
  | [], _, _, _, h, h2 => by
    have h : _ = ([] : List V) := h
    subst h; exact h2
  | s :: r, _, _, _, ⟨v, vt, h1, h3, h4⟩, h2 => by
    subst h1
    exact ⟨v, vt ++ _, rfl, h3, BAt.app h4 h2⟩
theorem BAt.len {H : Hp} : ∀ {b : List Stm} {vs : List V}, BAt H b vs → vs.length = b.length
  | [], _, h => by
    have h : _ = ([] : List V) := h
    subst h; rfl
  | s :: r, _, ⟨v, vt, h1, h3, h4⟩ => by
    subst h1
    exact congrArg Nat.succ (BAt.len h4)
theorem PsAt.app {H : Hp} : ∀ {b c : List (List Stm)} {vs us : List Addr}, PsAt H b vs → PsAt H c us → PsAt H (b ++ c) (vs ++ us)
  | [], _, _, _, h, h2 => by
    have h : _ = ([] : List Addr) := h
    subst h; exact h2
  | s :: r, _, _, _, ⟨y, rt, vs, h1, h3, h4, h5⟩, h2 => by
    subst h1
    exact ⟨y, rt ++ _, vs, rfl, h3, h4, PsAt.app h5 h2⟩
theorem cutV_from (xs : List V) (k : Nat) : cutV xs (some (k : Int)) none = xs.drop k := by
  unfold cutV
  rw [HT.sIx_none, HT.sIx_nat]
  rcases Nat.le_total k xs.length with h | h
  · rw [Nat.min_eq_left h, List.take_of_length_le (by rw [List.length_drop]; omega)]
  · rw [Nat.min_eq_right h, List.drop_length, List.drop_of_length_le h, List.take_nil]
theorem cutV_to (xs : List V) (k : Nat) : cutV xs none (some (k : Int)) = xs.take k := by
  unfold cutV
  rw [HT.sIx_none, HT.sIx_nat, List.drop_zero, Nat.sub_zero]
  rcases Nat.le_total k xs.length with h | h
  · rw [Nat.min_eq_left h]
  · rw [Nat.min_eq_right h, List.take_length, List.take_of_length_le h]
/-! ### split_line -/
def bareS (z : Str) : Str := Txt.lstripChars z " "
def spacesN (z : Str) : Nat := z.length - (bareS z).length
def wordsN (z : Str) : List Str := Txt.split (bareS z) " "
def rowOf (z : Str) : Row := if spacesN z % 2 = 1 ∨ (wordsN z).all wordS = false then none else some (spacesN z / 2, wordsN z)
structure LineOk (z : Str) : Prop where
  len : z.length ≤ 100000
  bl : (bareS z).length ≤ z.length
  wl : (wordsN z).length ≤ 100002
  ws : ∀ w ∈ wordsN z, w.length ≤ 1000 ∧ asc w
/-- a row in the heap; its list of words is not at m -/
def RowAt (m : Addr) (H : Hp) (v : V) (r : Row) : Prop := match r with
  | none => v = .non
  | some (n, ws) => ∃ t l, v = .ref t ∧ H t = some (.tup [.int (n : Int), .ref l]) ∧ H l = some (.lst (ws.map V.str)) ∧ l ≠ m
def spSplit : Sp := fun vs H Q _ => ∃ z : Str, vs = [.str z] ∧ LineOk z ∧ ∀ H' v, Same H H' → (∀ m, H m ≠ none → RowAt m H' v (rowOf z)) → Q v H'
theorem bitAnd_one (n : Nat) : Builtin.bitAnd (n : Int) 1 = ((n % 2 : Nat) : Int) := by
  unfold Builtin.bitAnd
  rw [decide_eq_true (Int.natCast_nonneg n), decide_eq_true (by decide : (0 : Int) ≤ 1)]
  simp
theorem words_all : ∀ (ws : List Str) (i : Nat), ((ws.take i).map fun w => V.bl (wordS w)) = ((ws.take i).map wordS).map V.bl := fun ws i => by rw [List.map_map]; rfl
theorem ok_split_line (T : Txt K mg a d) : FnOk P w K mg base CX0 2 a.split_line d.split_line ["line"] spSplit := by
  have G_is_word : FnOk P w K mg base CX0 1 a.is_word d.is_word ["thing"] spIsWord := ok_is_word T
  refine T.split_line.ok sc_split_line (fun vs H Q E h => ?_) (fun cdv A outer s H vs Q E hr h => ?_)
  · obtain ⟨z, rfl, _⟩ := h
    rfl
  · obtain ⟨z, rfl, L, k⟩ := h
    refine ⟨_, (pss_cons (ps_set (i := 1) sc_split_line.nd rfl (Or.inl rfl) (pe_bm PySem.F.plainAttrs_str PySem.F.slot_str_lstrip PySem.F.type_str_lstrip mt_lstripChars (pv 0) (pa_cons pe_str pa_nil)))
  (pss_cons (ps_set (i := 2) sc_split_line.nd rfl (Or.inl rfl) (pe_op op_sub (pe_callB call_len_str (by rfl) T.n_len PySem.boot_len (pa_cons (pv 0) pa_nil)) (pe_callB call_len_str (by rfl) T.n_len PySem.boot_len (pa_cons (pv 1) pa_nil))))
  (pss_cons (ps_set (i := 3) sc_split_line.nd rfl (Or.inl rfl) (pe_split (pv 1) pe_str))
  (pss_cons (ps_if (PW.pt (pw_or (pt_truth (pe_op op_and (pv 2) pe_int) (by intro _; rfl)) (pw_or1 (pt_not (pt_truth (pe_callB (cr_all rfl) (by rfl) T.n_all (by decide +kernel) (pa_cons (pe_lc (own := [("word", 4)]) (tt := tYes) rfl sc_split_line.nd (pi_list (pv 3)) (blkOk_by (own := [("word", 4)]) (N := ["line", "bare", "spaces", "words", "word"]) (sc := defScope s_split_line) (by decide +kernel)) (fun _ _ _ _ _ => (pg_name (i := 4) sc_split_line.nd rfl (Or.inl rfl))) (fun _ _ _ _ _ => pts_nil) (fun _ _ _ _ _ => (pe_call G_is_word (hr.mono (by omega)) (by rfl) T.g_is_word T.is_word.kp T.b_is_word .nil pass0 (pa_cons (pv 4) pa_nil)))) pa_nil)) (by intro _; rfl)))))) (pss_one (ps_ret pe_non)) pss_nil)
  (pss_one (ps_ret (pe_tup (pa_cons (pe_op op_fdivW (pv 2) pe_int) (pa_cons (pv 3) pa_nil))))))))), ?_⟩
    dsimp only [cxOf]
    have esp : (z.length : Int) - ((bareS z).length : Int) = (spacesN z : Int) := by have := L.bl; unfold spacesN; omega
    walk_at "rd"
    rw [show Txt.lstripChars z (Str.ofString " ") = bareS z from rfl]
    have hl : z.length ≤ sizeLine := by rw [sizeLine_eq]; have := L.len; omega
    have hb : (bareS z).length ≤ sizeLine := by have := L.bl; omega
    refine ⟨hl, ?_⟩
    walk_at "rd"
    have hb2 : (bareS z).length + 2 ≤ sizeLine := by rw [sizeLine_eq]; have := L.len; have := L.bl; omega
    refine ⟨hb2, ?_⟩
    rw [show ((fun i j => V.int (i - j)) ((z.length : Nat) : Int) ((bareS z).length : Int)) = V.int (spacesN z : Int) from congrArg V.int esp]
    intro l hl1
    rw [show Txt.split (bareS z) (Str.ofString " ") = wordsN z from rfl]
    have s1 : Same H (upd H l (.lst ((wordsN z).map V.str))) := (Same.refl H).new hl1
    have e1 := upd_same (H := H) (a := l) (o := .lst ((wordsN z).map V.str))
    generalize upd H l (.lst ((wordsN z).map V.str)) = H1 at s1 e1 ⊢
    have b1 := bitAnd_one (spacesN z)
    by_cases c0 : spacesN z % 2 = 1
    · have er : rowOf z = none := if_pos (.inl c0)
      have c1 : (Builtin.bitAnd (spacesN z : Int) 1 != 0) = true := by rw [b1, c0]; rfl
      walk_at "rd"
      rw [c1]
      refine iteT ?_
      walk_at "rd"
      exact k H1 .non s1 (fun m _ => by rw [er]; rfl)
    · have c1 : (Builtin.bitAnd (spacesN z : Int) 1 != 0) = false := by rw [b1, show spacesN z % 2 = 0 by omega]; rfl
      walk_at "rd"
      rw [c1]
      refine iteF ?_
      walk_at "rd"
      refine ⟨⟨_, SqL.of e1⟩, fun D hD => ?_⟩
      refine lc_list (xs := (wordsN z).map V.str) (fun i G => Same H1 G ∧ G D = some (.lst (((wordsN z).take i).map fun w => V.bl (wordS w)))) ?_ ?_ ?_ ?_
      · exact ⟨(Same.refl _).new hD, upd_same⟩
      · rintro i G _ ⟨s2, _⟩
        exact SqL.of (s2 _ _ e1)
      · rintro i x G hx ⟨s2, g2⟩
        obtain ⟨w', hw', rfl⟩ : ∃ w', (wordsN z)[i]? = some w' ∧ x = V.str w' := by
          rw [List.getElem?_map] at hx
          cases q : (wordsN z)[i]? with
          | none => rw [q] at hx; cases hx
          | some w' => rw [q] at hx; cases hx; exact ⟨w', rfl, rfl⟩
        obtain ⟨lw, aw⟩ := L.ws w' (List.mem_of_getElem? hw')
        have li : i < (wordsN z).length := (List.getElem?_eq_some_iff.mp hw').1
        have lw2 := L.wl
        refine ⟨rfl, ?_⟩
        walk_at "rd"
        refine ⟨.str w' lw aw, ?_⟩
        refine ⟨_, g2, by rw [List.length_map, List.length_take, sizeLine_eq]; omega, s2.frsh hD, ?_⟩
        rw [upd_same, List.take_add_one, hw', List.map_append]; rfl
      · rintro G ⟨s2, g2⟩
        rw [List.length_map, List.take_length] at g2
        have g3 : G D = some (.lst (((wordsN z).map wordS).map V.bl)) := by rw [g2, List.map_map]; rfl
        refine ⟨D, _, rfl, SqL.of g3, ?_⟩
        have ea : ((wordsN z).map wordS).all id = (wordsN z).all wordS := by rw [List.all_map]; rfl
        have e2 := s2 _ _ e1
        refine ⟨_, rfl, ?_⟩
        rw [ea]
        cases c2 : (wordsN z).all wordS with
        | false =>
          have er : rowOf z = none := if_pos (.inr c2)
          refine iteT ?_
          exact k G .non (s1.trans s2) (fun m _ => by rw [er]; rfl)
        | true =>
          have er : rowOf z = some (spacesN z / 2, wordsN z) := if_neg (by rw [c2]; simp [c0])
          refine iteF ?_
          have ed : ((spacesN z : Int)) / 2 = ((spacesN z / 2 : Nat) : Int) := by omega
          walk_at "rd"
          intro p hp
          rw [show (fun i j => V.int (i / j)) (spacesN z : Int) 2 = V.int ((spacesN z / 2 : Nat) : Int) from congrArg V.int ed]
          refine k _ _ ((s1.trans s2).new hp) (fun m hm => ?_)
          rw [er]
          exact ⟨p, l, rfl, upd_same, upd_old e2 hp, fun e => hm (e ▸ hl1)⟩
/-! ### Reader: its state in the heap; words_at, wrong_if -/
structure RA where
  x : Addr
  dx : Addr
  rl : Addr
  sd : Addr
  bd : Addr
  ml : Addr
def MkAt (H : Hp) (t : Addr) (m : Mk) : Prop := H t = some (.tup [.int (m.1 : Int), .str m.2])
def rdF (L : RA) (i : Nat) : List (Str × V) := [("rows", .ref L.rl), ("at", .int (i : Int)), ("starts", .ref L.sd), ("bodies", .ref L.bd), ("marks", .ref L.ml)]
/-- all tuples stand, and all lists but the one at m -/
def LK (m : Addr) (H H' : Hp) : Prop := TupK H H' ∧ ∀ b l, b ≠ m → H b = some (.lst l) → H' b = some (.lst l)
theorem LK.of_same {m : Addr} {H H' : Hp} (e : Same H H') : LK m H H' := ⟨TupK.of_same e, fun b l _ h => e _ _ h⟩
theorem LK.trans {m : Addr} {H H1 H2 : Hp} (a : LK m H H1) (b : LK m H1 H2) : LK m H H2 := ⟨a.1.trans b.1, fun c l n h => b.2 c l n (a.2 c l n h)⟩
theorem LK.ins {m x C dx : Addr} {H : Hp} {fs : List (Str × V)} {o : HO} (h : H x = some (.ins C dx fs)) : LK m H (upd H x o) :=
  ⟨fun b l e => upd_oth (fun z => by rw [z, h] at e; cases e) e, fun b l _ e => upd_oth (fun z => by rw [z, h] at e; cases e) e⟩
theorem LK.lst {m : Addr} {H : Hp} {xs : List V} {o : HO} (h : H m = some (.lst xs)) : LK m H (upd H m o) := ⟨TupK.set h, fun b l n e => upd_oth n e⟩
theorem RowAt.lk {m : Addr} {H H' : Hp} (e : LK m H H') {v : V} {r : Row} (h : RowAt m H v r) : RowAt m H' v r := by
  cases r with
  | none => exact h
  | some p =>
    obtain ⟨t, l, h1, h2, h3, h4⟩ := h
    exact ⟨t, l, h1, e.1 _ _ h2, e.2 _ _ h4 h3, h4⟩
/-- what all rows that are read have -/
def RowsOk (rows : List Row) : Prop := rows.length ≤ 100000 ∧ ∀ n ws, some (n, ws) ∈ rows → (∀ w ∈ ws, IsWord w) ∧ ws.length ≤ 100002
theorem wordsAt_ok {rows : List Row} (h : RowsOk rows) {n i : Nat} : (∀ w ∈ wordsAt rows n i, IsWord w) ∧ (wordsAt rows n i).length ≤ 100002 := by
  unfold wordsAt
  cases e : rows[i]? with
  | none => exact ⟨(fun w h => nomatch h), Nat.zero_le _⟩
  | some r =>
    cases r with
    | none => exact ⟨(fun w h => nomatch h), Nat.zero_le _⟩
    | some p =>
      obtain ⟨m, ws⟩ := p
      dsimp only
      by_cases c : m = n
      · rw [if_pos c]
        exact h.2 m ws (List.mem_of_getElem? e)
      · rw [if_neg c]
        exact ⟨(fun w h => nomatch h), Nat.zero_le _⟩
structure RdAt (a : Ad) (H : Hp) (L : RA) (rows : List Row) (i : Nat) (mk : List Mk) : Prop where
  ob : H L.x = some (.ins a.Reader L.dx (rdF L i))
  rw_ : ∃ vs, H L.rl = some (.lst vs) ∧ A2 (RowAt L.ml H) vs rows
  mk_ : ∃ ms : List Addr, H L.ml = some (.lst (ms.map V.ref)) ∧ A2 (MkAt H) ms mk
  ne : L.rl ≠ L.ml
  le : i ≤ rows.length
  ln : RowsOk rows
theorem RdAt.same {a : Ad} {H H' : Hp} {L : RA} {rows : List Row} {i : Nat} {mk : List Mk} (e : Same H H') (h : RdAt a H L rows i mk) : RdAt a H' L rows i mk := by
  obtain ⟨vs, h1, h2⟩ := h.rw_
  obtain ⟨ms, h3, h4⟩ := h.mk_
  exact ⟨e _ _ h.ob, ⟨vs, e _ _ h1, h2.imp fun _ _ r => r.lk (LK.of_same e)⟩, ⟨ms, e _ _ h3, h4.imp fun _ _ r => e _ _ r⟩, h.ne, h.le, h.ln⟩
/-- self.at is moved -/
theorem RdAt.move {a : Ad} {H : Hp} {L : RA} {rows : List Row} {i j : Nat} {mk : List Mk} (h : RdAt a H L rows i mk) (hj : j ≤ rows.length) : RdAt a (upd H L.x (.ins a.Reader L.dx (rdF L j))) L rows j mk := by
  obtain ⟨vs, h1, h2⟩ := h.rw_
  obtain ⟨ms, h3, h4⟩ := h.mk_
  have n : ∀ {b l}, H b = some (.lst l) → b ≠ L.x := fun {b l} e z => by rw [z, h.ob] at e; cases e
  exact ⟨upd_same, ⟨vs, upd_oth (n h1) h1, h2.imp fun _ _ r => r.lk (LK.ins h.ob)⟩, ⟨ms, upd_oth (n h3) h3, h4.imp fun _ _ r => (LK.ins (m := L.ml) h.ob).1 _ _ r⟩, h.ne, hj, h.ln⟩
/-- a mark is put behind -/
theorem RdAt.mark {a : Ad} {H : Hp} {L : RA} {rows : List Row} {i : Nat} {mk : List Mk} {m : Mk} {ms : List Addr} {t : Addr} (h : RdAt a H L rows i mk) (h3 : H L.ml = some (.lst (ms.map V.ref))) (h4 : A2 (MkAt H) ms mk) (ht : MkAt H t m) :
    RdAt a (upd H L.ml (.lst (ms.map V.ref ++ [.ref t]))) L rows i (mk ++ [m]) := by
  obtain ⟨vs, h1, h2⟩ := h.rw_
  have nx : L.x ≠ L.ml := fun z => by rw [← z, h.ob] at h3; cases h3
  have lk := LK.lst (o := .lst (ms.map V.ref ++ [.ref t])) h3
  exact ⟨upd_oth nx h.ob, ⟨vs, upd_oth h.ne h1, h2.imp fun _ _ r => r.lk lk⟩, ⟨ms ++ [t], by rw [upd_same, List.map_append]; rfl, (h4.imp fun _ _ r => lk.1 _ _ r).app (.cons (lk.1 _ _ ht) .nil)⟩, h.ne, h.le, h.ln⟩
abbrev FrR (L : RA) (H H' : Hp) : Prop := Kp (fun b => b = L.x ∨ b = L.ml) H H'
theorem words_some {rows : List Row} {n i : Nat} (h : wordsAt rows n i ≠ []) : i < rows.length := by
  rcases Nat.lt_or_ge i rows.length with l | g
  · exact l
  · exfalso
    apply h
    unfold wordsAt
    rw [List.getElem?_eq_none g]
def spWat (a : Ad) : Sp := fun vs H Q _ => ∃ (L : RA) (rows : List Row) (n i : Nat) (mk : List Mk), vs = [.ref L.x, .int (n : Int)] ∧ RdAt a H L rows i mk ∧
  ∀ H' l, Same H H' → H' l = some (.lst ((wordsAt rows n i).map V.str)) → l ≠ L.ml → Q (.ref l) H'
theorem ok_Reader_words_at (T : Txt K mg a d) : FnOk P w K mg base CX0 1 a.Reader_words_at d.Reader_words_at ["self", "nesting"] (spWat a) := by
  refine T.Reader_words_at.ok sc_Reader_words_at (fun vs H Q E h => ?_) (fun cdv A outer s H vs Q E hr h => ?_)
  · obtain ⟨L, rows, n, i, mk, rfl, _⟩ := h
    rfl
  · obtain ⟨L, rows, n, i, mk, rfl, I, k⟩ := h
    have c1 := T.k_Reader
    have n1 := T.na_Reader_at
    have n2 := T.na_Reader_rows
    obtain ⟨vs, h1, h2⟩ := I.rw_
    have ho := I.ob
    have lv := h2.len
    obtain ⟨ms, h3, _⟩ := I.mk_
    refine ⟨_, (pss_cons (ps_if (pt_cmpR op_eq (pe_fld (pv 0) rfl) (pe_callB call_len_seq (by rfl) T.n_len PySem.boot_len (pa_cons (pe_fld (pv 0) rfl) pa_nil)) (nomark _)) (pss_one (ps_ret (pe_lst pa_nil))) pss_nil)
  (pss_cons (ps_set (i := 2) sc_Reader_words_at.nd rfl (Or.inl rfl) (pe_ix ix_list (pe_fld (pv 0) rfl) (pe_fld (pv 0) rfl) (fun _ _ => rfl)))
  (pss_one (ps_ret (pe_ifExp (PW.pt (pw_and (pt_cmpR op_notN (pv 2) pe_non (nomark _)) (pw_and1 (pt_cmpR op_eq (pe_ix ix_tup (pv 2) pe_int (fun _ _ => rfl)) (pv 1) (nomark _))))) (pe_ix ix_tup (pv 2) pe_int (fun _ _ => rfl)) (pe_lst pa_nil)))))), ?_⟩
    dsimp only [cxOf]
    have l1 : List.lookup ("at" : Str) (rdF L i) = some (.int (i : Int)) := rfl
    have l2 : List.lookup ("rows" : Str) (rdF L i) = some (.ref L.rl) := rfl
    have a0 : ∀ (p q : V), atI [p, q] 0 = some p := fun p q => (atI_nat rfl : atI [p, q] ((0 : Nat) : Int) = _)
    have a1 : ∀ (p q : V), atI [p, q] 1 = some q := fun p q => (atI_nat rfl : atI [p, q] ((1 : Nat) : Int) = _)
    walk_at "rd"
    refine ite2 (fun c0 => ?_) (fun c0 => ?_)
    · have e := V.int.inj (of_decide_eq_true c0)
      have ew : wordsAt rows n i = [] := by
        unfold wordsAt
        rw [List.getElem?_eq_none (by omega)]
      rw [ew] at k
      walk_at "rd"
      intro p hp
      exact k _ p ((Same.refl H).new hp) upd_same (Ne.symm (ne_of_none h3 hp))
    · have li : i < vs.length := by
        have le := I.le
        rcases Nat.lt_or_ge i vs.length with l | g
        · exact l
        · exact absurd (decide_eq_true (congrArg V.int (by omega : (i : Int) = (vs.length : Int)))) c0
      have hv := List.getElem?_eq_getElem li
      obtain ⟨r, hr1, hrow⟩ := h2.at hv
      have hat : atI vs (i : Int) = some vs[i] := atI_nat hv
      generalize vs[i] = v at hat hrow
      unfold wordsAt at k
      rw [hr1] at k
      cases r with
      | none =>
        have hrow : v = .non := hrow
        subst hrow
        walk_at "rd"
        intro p hp
        exact k _ p ((Same.refl H).new hp) upd_same (Ne.symm (ne_of_none h3 hp))
      | some p =>
        obtain ⟨m, ws⟩ := p
        obtain ⟨t, l, rfl, ht, hl, nl⟩ := hrow
        have b0 := a0 (.int (m : Int)) (.ref l)
        have b1 := a1 (.int (m : Int)) (.ref l)
        dsimp only at k
        walk_at "rd"
        refine ite2 (fun c1 => ?_) (fun c1 => ?_)
        · have e := V.int.inj (of_decide_eq_true c1)
          rw [if_pos (show m = n by omega)] at k
          walk_at "rd"
          exact k H l (Same.refl H) hl nl
        · rw [if_neg (fun e => c1 (decide_eq_true (by rw [e])))] at k
          walk_at "rd"
          intro p hp
          exact k _ p ((Same.refl H).new hp) upd_same (Ne.symm (ne_of_none h3 hp))
/-! ### Reader: wrong_if, read_block, read_statement -/
def spWrong (a : Ad) : Sp := fun vs H Q E => ∃ (x dx : Addr) (fs : List (Str × V)) (i : V) (b : Bool), vs = [.ref x, .bl b] ∧ H x = some (.ins a.Reader dx fs) ∧ List.lookup ("wrong_if" : Str) fs = none ∧ List.lookup ("at" : Str) fs = some i ∧ (b = true → errQ a.BadLibrary ef_BadLibrary [i] H E) ∧ (b = false → Q .non H)
theorem ok_Reader_wrong_if (T : Txt K mg a d) : FnOk P w K mg base (L2.CX P w) 3 a.Reader_wrong_if d.Reader_wrong_if ["self", "is_wrong"] (spWrong a) := by
  refine T.Reader_wrong_if.okX sc_Reader_wrong_if (fun vs H Q E h => ?_) (fun cdv A outer s H vs Q E hr h => ?_)
  · obtain ⟨x, dx, fs, i, b, rfl, _⟩ := h
    rfl
  · obtain ⟨x, dx, fs, i, b, rfl, hx, _, hl, k1, k2⟩ := h
    have c1 := T.k_Reader
    have n1 := T.na_Reader_at
    refine ⟨_, (pss_one (ps_if (pt_val (pv 1)) (pss_one (ps_raise rfl (takes_of rfl rfl rfl rfl) (pmk_err T.e_BadLibrary T.g_BadLibrary T.n_super hr (pa_cons (pe_fld (pv 0) rfl) pa_nil)))) pss_nil)), ?_⟩
    try dsimp only [cxOf]
    cases b
    · walk_at "rd"
      refine iteF ?_
      exact k2 rfl
    · walk_at "rd"
      exact k1 rfl
def outB (a : Ad) (L : RA) (rows : List Row) (H : Hp) (Q : VK) (E : XK) : Rs (List Stm) → Prop
  | .err l => ∀ H', FrR L H H' → errQ a.BadLibrary ef_BadLibrary [.int (l : Int)] H' E
  | .ok b j mk => ∀ H' p vs, FrR L H H' → RdAt a H' L rows j mk → H' p = some (.tup vs) → BAt H' b vs → Q (.ref p) H'
def outS (a : Ad) (L : RA) (rows : List Row) (H : Hp) (Q : VK) (E : XK) : Rs Stm → Prop
  | .err l => ∀ H', FrR L H H' → errQ a.BadLibrary ef_BadLibrary [.int (l : Int)] H' E
  | .ok s j mk => ∀ H' v, FrR L H H' → RdAt a H' L rows j mk → SAt H' s v → Q v H'
theorem outB.fr {a : Ad} {L : RA} {rows : List Row} {H H1 : Hp} {Q : VK} {E : XK} {r : Rs (List Stm)} (f : FrR L H H1) (h : outB a L rows H Q E r) : outB a L rows H1 Q E r := by
  cases r with
  | err l => exact fun H' f' => h H' (f.trans f')
  | ok b j mk => exact fun H' p vs f' => h H' p vs (f.trans f')
theorem outS.fr {a : Ad} {L : RA} {rows : List Row} {H H1 : Hp} {Q : VK} {E : XK} {r : Rs Stm} (f : FrR L H H1) (h : outS a L rows H Q E r) : outS a L rows H1 Q E r := by
  cases r with
  | err l => exact fun H' f' => h H' (f.trans f')
  | ok b j mk => exact fun H' v f' => h H' v (f.trans f')
def spBody (a : Ad) (r : Nat) : Sp := fun vs H Q E => ∃ (L : RA) (rows : List Row) (n i : Nat) (mk : List Mk) (k : Nat) (res : Rs (List Stm)), vs = [.ref L.x, .int (n : Int)] ∧ n + r = 9 ∧ n ≤ 8 ∧ RdAt a H L rows i mk ∧ mk.length ≤ i ∧ rdB rows k n i mk = some res ∧ outB a L rows H Q E res
def spStm (a : Ad) (r : Nat) : Sp := fun vs H Q E => ∃ (L : RA) (rows : List Row) (n i : Nat) (mk : List Mk) (l : Addr) (k : Nat) (res : Rs Stm), vs = [.ref L.x, .ref l, .int (n : Int)] ∧ n + r = 9 ∧ n ≤ 8 ∧ RdAt a H L rows i mk ∧ H l = some (.lst ((wordsAt rows n i).map V.str)) ∧ l ≠ L.ml ∧ stops (wordsAt rows n i) = false ∧
  mk.length ≤ i ∧ rdS rows k n i mk = some res ∧ outS a L rows H Q E res
def blkX (rows : List Row) (k n i : Nat) (mk : List Mk) : Option (Rs Stm) :=
  if (wordsAt rows n i).length < 2 ∨ modeS ((wordsAt rows n i).getD 1 "") = false ∨ (wordsAt rows n i).length = 3 then some (.err i)
  else if 3 < (wordsAt rows n i).length ∧ (wordsAt rows n i).getD 2 "" ≠ "keep" then some (.err i)
  else match rdB rows k (n + 1) (i + 1) (mk ++ [(i, (wordsAt rows n i).getD 1 "")]) with
    | none => none
    | some (.err l) => some (.err l)
    | some (.ok b j mk1) => some (.ok (.mk (.blk mk.length ((wordsAt rows n i).getD 1 "") ((wordsAt rows n i).drop 3)) [b]) j mk1)
def spBlk (a : Ad) (r : Nat) : Sp := fun vs H Q E => ∃ (L : RA) (rows : List Row) (n i : Nat) (mk : List Mk) (l : Addr) (k : Nat) (res : Rs Stm), vs = [.ref L.x, .ref l, .int (n : Int)] ∧ n + 1 + r = 9 ∧ n ≤ 7 ∧ RdAt a H L rows i mk ∧ H l = some (.lst ((wordsAt rows n i).map V.str)) ∧ l ≠ L.ml ∧ wordsAt rows n i ≠ [] ∧
  mk.length ≤ i ∧ blkX rows k n i mk = some res ∧ outS a L rows H Q E res
theorem word_thingL {H : Hp} {z : Str} (h : IsWord z) : Thing H (.str z) :=
  .str z (by rw [← len_toList]; have := h.hi; omega) (fun c hc => by have := h.al c hc; omega)
theorem inV_strL {z : Str} {l : List Str} : inV (.str z) (l.map V.str) = decide (z ∈ l) := by
  unfold inV
  rw [List.any_map]
  cases h : decide (z ∈ l) with
  | true =>
    rw [List.any_eq_true]
    exact ⟨z, of_decide_eq_true h, by show eqV (.str z) (.str z) = true; simp [eqV]⟩
  | false =>
    rw [List.any_eq_false]
    intro y hy e
    have e : eqV (.str y) (.str z) = true := e
    simp [eqV] at e
    subst e
    exact of_decide_eq_false h hy
theorem modeB_S (z : Str) : modeB (.str z) = modeS z := by
  show (true && inV (.str z) modesV) = _
  rw [Bool.true_and]
  exact inV_strL (l := modesS)
theorem getD_at {ws : List Str} {j : Nat} (h : j < ws.length) : ws.getD j "" = ws[j] := by
  rw [List.getD_eq_getElem?_getD, List.getElem?_eq_getElem h]; rfl
theorem at_str {ws : List Str} {j : Nat} (h : j < ws.length) : atI (ws.map V.str) (j : Int) = some (.str (ws.getD j "")) := by
  refine atI_nat ?_
  rw [List.getElem?_map, List.getElem?_eq_getElem h, getD_at h]; rfl
theorem getD_mem {ws : List Str} {j : Nat} (h : j < ws.length) : ws.getD j "" ∈ ws := by
  rw [getD_at h]
  exact List.getElem_mem h
theorem ok_Reader_read_block (T : Txt K mg a d) (r : Nat) (G_Reader_read_body : FnOk P w K mg base (L2.CX P w) (4 * r + 4) a.Reader_read_body d.Reader_read_body ["self", "nesting"] (spBody a r)) : FnOk P w K mg base (L2.CX P w) (4 * r + 5) a.Reader_read_block d.Reader_read_block ["self", "words", "nesting"] (spBlk a r) := by
  have G_Reader_wrong_if : FnOk P w K mg base (L2.CX P w) 3 a.Reader_wrong_if d.Reader_wrong_if ["self", "is_wrong"] (spWrong a) := ok_Reader_wrong_if T
  have G_Mode_is_mode : FnOk P w K mg base CX0 1 a.Mode_is_mode d.Mode_is_mode ["thing"] spIsMode := ok_Mode_is_mode T
  refine T.Reader_read_block.okX sc_Reader_read_block (fun vs H Q E h => ?_) (fun cdv A outer s H vs Q E hr h => ?_)
  · obtain ⟨L, rows, n, i, mk, l, k, res, rfl, _⟩ := h
    rfl
  · obtain ⟨L, rows, n, i, mk, l, k, res, rfl, hn, hn7, I, hl, nl, nw, lm, hk, out⟩ := h
    obtain ⟨iw, lw⟩ := wordsAt_ok I.ln (n := n) (i := i)
    have lr := I.ln.1
    have c1 := T.k_Reader
    have n1 := T.na_Reader_at
    have n2 := T.na_Reader_marks
    have ho := I.ob
    have li := words_some nw
    obtain ⟨ms, h3, h4⟩ := I.mk_
    have lms := h4.len
    unfold blkX at hk
    generalize wordsAt rows n i = ws at hl nw iw lw hk
    refine ⟨_, (pss_cons (ps_expr (pe_meth (pv 0) T.k_Reader T.m_Reader_wrong_if G_Reader_wrong_if (hr.mono (by omega)) T.b_Reader_wrong_if .nil (passes_call (takes_of rfl rfl rfl rfl) (fun _ _ _ _ h => h)) (pa_cons (pe_or (pe_cmpR op_lt (pe_callB call_len_seq (by rfl) T.n_len PySem.boot_len (pa_cons (pv 1) pa_nil)) pe_int (nomark _)) (pe_or (pe_not (pe_smeth (pe_glob (v := .ref a.Mode) (by rfl) T.g_Mode rfl) T.r_Mode T.s_Mode_is_mode G_Mode_is_mode (hr.mono (by omega)) T.Mode_is_mode.kp T.b_Mode_is_mode .nil pass0 (pa_cons (pe_ix ix_list (pv 1) pe_int (fun _ _ => rfl)) pa_nil))) (pe_one (pe_cmpR op_eq (pe_callB call_len_seq (by rfl) T.n_len PySem.boot_len (pa_cons (pv 1) pa_nil)) pe_int (nomark _))))) pa_nil)))
  (C8.pss_cut (ps_expr (pe_meth (pv 0) T.k_Reader T.m_Reader_wrong_if G_Reader_wrong_if (hr.mono (by omega)) T.b_Reader_wrong_if .nil (passes_call (takes_of rfl rfl rfl rfl) (fun _ _ _ _ h => h)) (pa_cons (pe_and (pe_cmpR op_gt (pe_callB call_len_seq (by rfl) T.n_len PySem.boot_len (pa_cons (pv 1) pa_nil)) pe_int (nomark _)) (pe_one (pe_cmpR op_ne (pe_ix ix_list (pv 1) pe_int (fun _ _ => rfl)) pe_str (nomark _)))) pa_nil)))
  (pss_cons (ps_set (i := 3) sc_Reader_read_block.nd rfl (Or.inl rfl) (pe_callB call_len_seq (by rfl) T.n_len PySem.boot_len (pa_cons (pe_fld (pv 0) rfl) pa_nil)))
  (pss_cons (ps_expr (pe_bm PySem.F.plainAttrs_list PySem.F.slot_list_append PySem.F.type_list_append mt_append (pe_fld (pv 0) rfl) (pa_cons (pe_tup (pa_cons (pe_fld (pv 0) rfl) (pa_cons (pe_ix ix_list (pv 1) pe_int (fun _ _ => rfl)) pa_nil))) pa_nil)))
  (pss_cons (ps_fldaug (pv 0) pe_int in_add)
  (pss_one (ps_ret (pe_tup (pa_cons pe_str (pa_cons (pv 3) (pa_cons (pe_ix ix_list (pv 1) pe_int (fun _ _ => rfl)) (pa_cons (pe_callTy call_tuple_of (by rfl) T.n_tuple (by decide +kernel) (pa_cons (pe_slice sl_list (pv 1) (po_some pe_int) po_none) pa_nil)) (pa_cons (pe_meth (pv 0) T.k_Reader T.m_Reader_read_body G_Reader_read_body (hr.mono (by omega)) T.b_Reader_read_body .nil (passes_call (takes_of rfl rfl rfl rfl) (fun _ _ _ _ h => h)) (pa_cons (pe_op op_add (pv 2) pe_int) pa_nil)) pa_nil))))))))))))), ?_⟩
    try dsimp only [cxOf]
    have hw0 : List.lookup ("wrong_if" : Str) (rdF L i) = none := rfl
    have hat : List.lookup ("at" : Str) (rdF L i) = some (.int (i : Int)) := rfl
    walk_at "rd"
    rw [List.length_map]
    by_cases d1 : ws.length < 2
    · rw [if_pos (.inl d1)] at hk
      cases hk
      refine (if_pos (decide_eq_true (by omega))).mpr ?_
      refine ⟨L.x, L.dx, rdF L i, .int (i : Int), true, rfl, ho, rfl, rfl, fun _ => out H Kp.refl, fun h => by cases h⟩
    · refine (if_neg (fun e => d1 (by have := of_decide_eq_true e; omega))).mpr ?_
      have w1 := at_str (ws := ws) (j := 1) (by omega)
      have m1 := iw _ (getD_mem (ws := ws) (j := 1) (by omega))
      walk_at "rd"
      refine ⟨word_thingL m1, ?_⟩
      rw [modeB_S]
      refine ⟨_, rfl, _, rfl, ?_⟩
      cases d2 : modeS (ws.getD 1 "") with
      | false =>
        rw [if_pos (.inr (.inl d2))] at hk
        cases hk
        refine iteT ?_
        refine ⟨L.x, L.dx, rdF L i, .int (i : Int), true, rfl, ho, rfl, rfl, fun _ => out H Kp.refl, fun h => by cases h⟩
      | true =>
        refine iteF ?_
        walk_at "rd"
        rw [List.length_map]
        by_cases d3 : ws.length = 3
        · rw [if_pos (.inr (.inr d3))] at hk
          cases hk
          have e3 : decide (V.int (ws.length : Int) = V.int 3) = true := by rw [d3]; rfl
          rw [e3]
          exact ⟨fun _ => out H Kp.refl, fun h => by cases h⟩
        · rw [if_neg (by rw [d2]; simp [d1, d3])] at hk
          have e3 : decide (V.int (ws.length : Int) = V.int 3) = false := decide_eq_false (fun e => d3 (by have := V.int.inj e; omega))
          rw [e3]
          refine ⟨fun h => (by cases h), fun _ => ?_⟩
          refine ⟨fun σ' H' => H' = H ∧ ¬ (3 < ws.length ∧ ws.getD 2 "" ≠ "keep") ∧ σ' = [some (.ref L.x), some (.ref l), some (.int (n : Int)), none], ?_, ?_⟩
          · walk_at "rd"
            rw [List.length_map]
            by_cases d4 : 3 < ws.length
            · refine (if_pos (decide_eq_true (by omega))).mpr ?_
              have w2 := at_str (ws := ws) (j := 2) (by omega)
              walk_at "rd"
              by_cases d5 : ws.getD 2 "" = "keep"
              · refine ⟨fun e => ?_, fun _ => ?_⟩
                · rw [d5] at e
                  exact absurd e (by decide +kernel)
                · exact ⟨rfl, fun z => z.2 d5, rfl⟩
              · rw [if_pos ⟨d4, d5⟩] at hk
                cases hk
                refine ⟨fun e => ?_, fun e => ?_⟩
                · exact out H Kp.refl
                · rw [decide_eq_false (fun z => d5 (V.str.inj z))] at e
                  cases e
            · refine (if_neg (fun e => d4 (by have := of_decide_eq_true e; omega))).mpr ?_
              walk_at "rd"
              exact ⟨fun e => (by cases e), fun _ => ⟨rfl, fun z => d4 z.1, rfl⟩⟩
          · rintro σ' _ ⟨rfl, d4, rfl⟩
            rw [if_neg d4] at hk
            rename_i H
            have lz : (ms.map V.ref).length < sizeLine := by rw [List.length_map, sizeLine_eq]; omega
            walk_at "rd"
            rw [List.length_map, lms]
            intro t ht
            have I1 := I.same ((Same.refl H).new (o := .tup [.int (i : Int), .str (ws.getD 1 "")]) ht)
            have f1 : FrR L H (upd H t (.tup [.int (i : Int), .str (ws.getD 1 "")])) := Kp.refl.new ht
            have g3 := upd_old (o := .tup [.int (i : Int), .str (ws.getD 1 "")]) h3 ht
            have g4 := h4.imp fun _ _ r => (Same.refl H).new (o := .tup [.int (i : Int), .str (ws.getD 1 "")]) ht _ _ r
            have gl := upd_old (o := .tup [.int (i : Int), .str (ws.getD 1 "")]) hl ht
            have gt := upd_same (H := H) (a := t) (o := .tup [.int (i : Int), .str (ws.getD 1 "")])
            generalize upd H t (.tup [.int (i : Int), .str (ws.getD 1 "")]) = H1 at I1 f1 g3 g4 gl gt ⊢
            refine ⟨_, _, _, rfl, rfl, g3, lz, ?_⟩
            have I2 := I1.mark (m := (i, ws.getD 1 "")) g3 g4 gt
            have f2 := f1.set (o := .lst (ms.map V.ref ++ [.ref t])) (.inr rfl : L.ml = L.x ∨ L.ml = L.ml)
            have gl2 := upd_oth (o := .lst (ms.map V.ref ++ [.ref t])) nl gl
            generalize upd H1 L.ml (.lst (ms.map V.ref ++ [.ref t])) = H2 at I2 f2 gl2 ⊢
            have ho2 := I2.ob
            walk_at "rd"
            rw [show putF "at" (.int ((i : Int) + 1)) (rdF L i) = rdF L (i + 1) from rfl]
            have I3 := I2.move (j := i + 1) (by omega)
            have gl3 := (LK.ins (m := L.ml) (o := .ins a.Reader L.dx (rdF L (i + 1))) ho2).2 l _ nl gl2
            have f3 := f2.set (o := .ins a.Reader L.dx (rdF L (i + 1))) (.inl rfl : L.x = L.x ∨ L.x = L.ml)
            generalize upd H2 L.x (.ins a.Reader L.dx (rdF L (i + 1))) = H3 at I3 f3 gl3 ⊢
            have w1' := at_str (ws := ws) (j := 1) (by omega)
            walk_at "rd"
            intro p1 hp1
            rw [show cutV (ws.map V.str) (some 3) none = (ws.drop 3).map V.str by rw [List.map_drop]; exact cutV_from _ 3]
            have I4 := I3.same ((Same.refl H3).new (o := .lst ((ws.drop 3).map V.str)) hp1)
            have f4 := f3.new (o := .lst ((ws.drop 3).map V.str)) hp1
            have e4 := upd_same (H := H3) (a := p1) (o := .lst ((ws.drop 3).map V.str))
            generalize upd H3 p1 (.lst ((ws.drop 3).map V.str)) = H4 at I4 f4 e4 ⊢
            refine ⟨p1, _, rfl, .inl ⟨SqL.of e4, fun q hq => ?_⟩⟩
            have I5 := I4.same ((Same.refl H4).new (o := .tup ((ws.drop 3).map V.str)) hq)
            have f5 := f4.new (o := .tup ((ws.drop 3).map V.str)) hq
            have e5 := upd_same (H := H4) (a := q) (o := .tup ((ws.drop 3).map V.str))
            generalize upd H4 q (.tup ((ws.drop 3).map V.str)) = H5 at I5 f5 e5 ⊢
            have ho5 := I5.ob
            walk_at "rd"
            cases hb : rdB rows k (n + 1) (i + 1) (mk ++ [(i, ws.getD 1 "")]) with
            | none => rw [hb] at hk; cases hk
            | some rb =>
              rw [hb] at hk
              refine ⟨L, rows, n + 1, i + 1, _, k, rb, rfl, by omega, by omega, I5, by rw [List.length_append]; simp only [List.length_cons, List.length_nil]; omega, hb, ?_⟩
              cases rb with
              | err l =>
                cases hk
                exact fun H' f' => out H' (f5.trans f')
              | ok b j mk1 =>
                cases hk
                intro H' pb vs f' I' hp' hB
                walk_at "rd"
                intro y hy
                have e5' : H' q = some (.tup ((ws.drop 3).map V.str)) := f' _ _ e5 (by
                  rintro (z | z)
                  · rw [z, I5.ob] at e5; cases e5
                  · obtain ⟨ms5, g5, _⟩ := I5.mk_
                    rw [z, g5] at e5; cases e5)
                refine out _ (.ref y) ((f5.trans f').new hy) (I'.same ((Same.refl H').new hy)) ?_
                have tk : TupK H' (upd H' y (.tup [.str "block", .int (mk.length : Int), .str (ws.getD 1 ""), .ref q, .ref pb])) := TupK.of_same ((Same.refl H').new hy)
                exact ⟨y, _, [pb], rfl, upd_same, ⟨q, pb, rfl, rfl, tk _ _ e5'⟩, ⟨pb, [], vs, rfl, tk _ _ hp', hB.tup tk, rfl⟩⟩
/-! ### Reader: read_statement -/
def spTry (a : Ad) (r : Nat) : Sp := fun vs H Q E => ∃ (L : RA) (rows : List Row) (n i : Nat) (mk : List Mk) (k : Nat) (res : Rs Stm), vs = [.ref L.x, .int (n : Int)] ∧ n + 1 + r = 9 ∧ n ≤ 7 ∧ RdAt a H L rows i mk ∧ mk.length ≤ i ∧ rdT rows k n i mk = some res ∧ outS a L rows H Q E res
theorem stops_ne {ws : List Str} (h : stops ws = false) : ws ≠ [] := fun e => by rw [e] at h; cases h
theorem fn_noneX {P : Program} {w : World} {K : PySem.W.Frag} {mg : Str → Option Value} {base : Heap} {f : Addr} {fd : FuncData} {ps : List Str} {sp : Sp} {k : Nat} {CX : CXT} (h : ∀ vs H Q E, ¬ sp vs H Q E) : FnOk P w K mg base CX k f fd ps sp :=
  ⟨fun vs H Q E z => (h vs H Q E z).elim, fun A outer s H args us vs Q E hr e0 b r z => (h vs H Q E z).elim⟩
structure Sit (a : Ad) (L : RA) (rows : List Row) (i : Nat) (mk : List Mk) (H0 H : Hp) (l : Addr) (ws : List Str) : Prop where
  I : RdAt a H L rows i mk
  f : FrR L H0 H
  gl : H l = some (.lst (ws.map V.str))
  nl : l ≠ L.ml
theorem Sit.new {a : Ad} {L : RA} {rows : List Row} {i : Nat} {mk : List Mk} {H0 H : Hp} {l p : Addr} {ws : List Str} {o : HO} (S : Sit a L rows i mk H0 H l ws) (h : H p = none) : Sit a L rows i mk H0 (upd H p o) l ws :=
  ⟨S.I.same ((Same.refl H).new h), S.f.new h, upd_old S.gl h, S.nl⟩
theorem Sit.move {a : Ad} {L : RA} {rows : List Row} {i : Nat} {mk : List Mk} {H0 H : Hp} {l : Addr} {ws : List Str} (S : Sit a L rows i mk H0 H l ws) (h : i < rows.length) : Sit a L rows (i + 1) mk H0 (upd H L.x (.ins a.Reader L.dx (rdF L (i + 1)))) l ws :=
  ⟨S.I.move h, S.f.set (.inl rfl), (LK.ins (m := L.ml) S.I.ob).2 l _ S.nl S.gl, S.nl⟩
theorem len_ne (ws : List Str) (k : Nat) : (!decide (V.int ((ws.map V.str).length : Int) = V.int (k : Int))) = !decide (ws.length = k) := by
  rw [List.length_map]
  congr 1
  exact decide_eq_decide.mpr ⟨fun e => by have := V.int.inj e; omega, fun e => by rw [e]⟩
/-- what wrong_if is asked: the branch is the plain function's -/
theorem wrong_at {a : Ad} {L : RA} {rows : List Row} {i : Nat} {mk : List Mk} {H0 H : Hp} {l : Addr} {ws : List Str} {Q : VK} {E : XK} {res : Rs Stm} (S : Sit a L rows i mk H0 H l ws) {b : Bool} {g : Prop} (out : outS a L rows H0 Q E res)
    (h1 : b = true → res = .err i) (h2 : b = false → g) : (b = true → errQ a.BadLibrary ef_BadLibrary [.int (i : Int)] H E) ∧ (b = false → g) :=
  ⟨fun e => by
    have e := h1 e
    subst e
    exact out H S.f, h2⟩
theorem ok_Reader_read_statement (T : Txt K mg a d) (r : Nat) (G_Reader_read_body : FnOk P w K mg base (L2.CX P w) (4 * r + 4) a.Reader_read_body d.Reader_read_body ["self", "nesting"] (spBody a r)) (G_Reader_read_block : FnOk P w K mg base (L2.CX P w) (4 * r + 5) a.Reader_read_block d.Reader_read_block ["self", "words", "nesting"] (spBlk a r)) (G_Reader_read_try : FnOk P w K mg base (L2.CX P w) (4 * r + 5) a.Reader_read_try d.Reader_read_try ["self", "nesting"] (spTry a r)) :
    FnOk P w K mg base (L2.CX P w) (4 * r + 6) a.Reader_read_statement d.Reader_read_statement ["self", "words", "nesting"] (spStm a (r + 1)) := by
  have G_Reader_wrong_if : FnOk P w K mg base (L2.CX P w) 3 a.Reader_wrong_if d.Reader_wrong_if ["self", "is_wrong"] (spWrong a) := ok_Reader_wrong_if T
  obtain ⟨u0, v_DEEPEST, r_DEEPEST⟩ := T.v_DEEPEST
  refine T.Reader_read_statement.okX sc_Reader_read_statement (fun vs H Q E h => ?_) (fun cdv A outer s H vs Q E hr h => ?_)
  · obtain ⟨L, rows, n, i, mk, l, k, res, rfl, _⟩ := h
    rfl
  · obtain ⟨L, rows, n, i, mk, l, k, res, rfl, hn, hn8, I, hl, nl, hst, lm, hk, out⟩ := h
    have c1 := T.k_Reader
    have n1 := T.na_Reader_at
    have ho := I.ob
    have nw := stops_ne hst
    have li := words_some nw
    obtain ⟨iw, lw⟩ := wordsAt_ok I.ln (n := n) (i := i)
    have lr := I.ln.1
    cases k with
    | zero => rw [rdS] at hk; cases hk
    | succ k =>
    rw [rdS] at hk
    have hl' := hl
    have hbx : fstW (wordsAt rows n i) = "block" → n ≠ 8 → blkX rows k n i mk = some res := fun e1 e2 => by
      rw [e1, if_neg (by decide +kernel), if_neg (by decide +kernel), if_neg (by rintro (z | z); exact z (by decide +kernel); exact e2 z), if_pos rfl] at hk
      exact hk
    generalize hws : wordsAt rows n i = ws at hl nw iw lw hk hbx
    have lpos : 0 < ws.length := List.length_pos_iff.mpr nw
    have w0 := at_str (ws := ws) (j := 0) lpos
    have hf : ws.getD 0 "" = fstW ws := rfl
    rw [hf] at w0
    generalize fstW ws = f at w0 hk hbx
    refine ⟨_, (pss_cons (ps_set (i := 3) sc_Reader_read_statement.nd rfl (Or.inl rfl) (pe_ix ix_list (pv 1) pe_int (fun _ _ => rfl)))
  (pss_cons (ps_if (pt_cmpR op_in_seq (pv 3) (pe_tup (pa_cons pe_str (pa_cons pe_str pa_nil))) (by rfl)) (pss_cons (ps_expr (pe_meth (pv 0) T.k_Reader T.m_Reader_wrong_if G_Reader_wrong_if (hr.mono (by omega)) T.b_Reader_wrong_if .nil (passes_call (takes_of rfl rfl rfl rfl) (fun _ _ _ _ h => h)) (pa_cons (pe_cmpR op_ne (pe_callB call_len_seq (by rfl) T.n_len PySem.boot_len (pa_cons (pv 1) pa_nil)) pe_int (nomark _)) pa_nil)))
  (pss_cons (ps_fldaug (pv 0) pe_int in_add)
  (pss_one (ps_ret (pe_tup (pa_cons (pv 3) pa_nil)))))) pss_nil)
  (pss_cons (ps_if (pt_cmpR op_in_seq (pv 3) (pe_tup (pa_cons pe_str (pa_cons pe_str (pa_cons pe_str pa_nil)))) (by rfl)) (pss_cons (ps_expr (pe_meth (pv 0) T.k_Reader T.m_Reader_wrong_if G_Reader_wrong_if (hr.mono (by omega)) T.b_Reader_wrong_if .nil (passes_call (takes_of rfl rfl rfl rfl) (fun _ _ _ _ h => h)) (pa_cons (pe_cmpR op_ne (pe_callB call_len_seq (by rfl) T.n_len PySem.boot_len (pa_cons (pv 1) pa_nil)) pe_int (nomark _)) pa_nil)))
  (pss_cons (ps_fldaug (pv 0) pe_int in_add)
  (pss_one (ps_ret (pe_tup (pa_cons (pv 3) (pa_cons (pe_ix ix_list (pv 1) pe_int (fun _ _ => rfl)) pa_nil))))))) pss_nil)
  (C8.pss_cut (ps_expr (pe_meth (pv 0) T.k_Reader T.m_Reader_wrong_if G_Reader_wrong_if (hr.mono (by omega)) T.b_Reader_wrong_if .nil (passes_call (takes_of rfl rfl rfl rfl) (fun _ _ _ _ h => h)) (pa_cons (pe_or (pe_cmpR op_notIn_seq (pv 3) (pe_tup (pa_cons pe_str (pa_cons pe_str (pa_cons pe_str (pa_cons pe_str pa_nil))))) (by rfl)) (pe_one (pe_cmpR op_eq (pv 2) (pe_glob (v := .int 8) (by rfl) v_DEEPEST r_DEEPEST) (nomark _)))) pa_nil)))
  (pss_cons (ps_if (pt_cmpR op_eq (pv 3) pe_str (nomark _)) (pss_one (ps_ret (pe_meth (pv 0) T.k_Reader T.m_Reader_read_block G_Reader_read_block (hr.mono (by omega)) T.b_Reader_read_block .nil (passes_call (takes_of rfl rfl rfl rfl) (fun _ _ _ _ h => h)) (pa_cons (pv 1) (pa_cons (pv 2) pa_nil))))) pss_nil)
  (pss_cons (ps_expr (pe_meth (pv 0) T.k_Reader T.m_Reader_wrong_if G_Reader_wrong_if (hr.mono (by omega)) T.b_Reader_wrong_if .nil (passes_call (takes_of rfl rfl rfl rfl) (fun _ _ _ _ h => h)) (pa_cons (pe_cmpR op_ne (pe_callB call_len_seq (by rfl) T.n_len PySem.boot_len (pa_cons (pv 1) pa_nil)) pe_int (nomark _)) pa_nil)))
  (pss_cons (ps_fldaug (pv 0) pe_int in_add)
  (pss_cons (ps_if (pt_cmpR op_eq (pv 3) pe_str (nomark _)) (pss_one (ps_ret (pe_meth (pv 0) T.k_Reader T.m_Reader_read_try G_Reader_read_try (hr.mono (by omega)) T.b_Reader_read_try .nil (passes_call (takes_of rfl rfl rfl rfl) (fun _ _ _ _ h => h)) (pa_cons (pv 2) pa_nil)))) pss_nil)
  (pss_one (ps_ret (pe_tup (pa_cons (pv 3) (pa_cons (pe_meth (pv 0) T.k_Reader T.m_Reader_read_body G_Reader_read_body (hr.mono (by omega)) T.b_Reader_read_body .nil (passes_call (takes_of rfl rfl rfl rfl) (fun _ _ _ _ h => h)) (pa_cons (pe_op op_add (pv 2) pe_int) pa_nil)) pa_nil))))))))))))), ?_⟩
    try dsimp only [cxOf]
    have hw0 : List.lookup ("wrong_if" : Str) (rdF L i) = none := rfl
    have hat : List.lookup ("at" : Str) (rdF L i) = some (.int (i : Int)) := rfl
    have S0 : Sit a L rows i mk H H l ws := ⟨I, Kp.refl, hl, nl⟩
    walk_at "rd"
    intro p hp
    have S1 := S0.new (o := .tup [.str "pass", .str "doom"]) hp
    have e1 := upd_same (H := H) (a := p) (o := .tup [.str "pass", .str "doom"])
    generalize upd H p (.tup [.str "pass", .str "doom"]) = H1 at S1 e1 ⊢
    refine ⟨p, _, rfl, .inr (SqT.of e1), rfl, rfl, _, rfl, ?_⟩
    rw [show (if false = true then !inV (V.str f) [.str "pass", .str "doom"] else inV (V.str f) [.str "pass", .str "doom"]) = decide (f ∈ (["pass", "doom"] : List Str)) from inV_strL (l := ["pass", "doom"])]
    have ho1 := S1.I.ob
    have hl1 := S1.gl
    by_cases d1 : f ∈ (["pass", "doom"] : List Str)
    · rw [if_pos d1] at hk
      refine (if_pos (decide_eq_true d1)).mpr ?_
      walk_at "rd"
      rw [show (!decide (V.int ((ws.map V.str).length : Int) = V.int 1)) = !decide (ws.length = 1) from len_ne ws 1]
      refine wrong_at S1 out (fun e => ?_) (fun e => ?_)
      · rw [if_neg (by simpa using e)] at hk
        cases hk; rfl
      · have e2 : ws.length = 1 := by simpa using e
        rw [if_pos e2] at hk
        cases hk
        walk_at "rd"
        rw [show putF "at" (.int ((i : Int) + 1)) (rdF L i) = rdF L (i + 1) from rfl]
        have S2 := S1.move li
        generalize upd H1 L.x (.ins a.Reader L.dx (rdF L (i + 1))) = H2 at S2 ⊢
        intro y hy
        refine out _ _ (S2.f.new hy) (S2.I.same ((Same.refl H2).new hy)) ⟨y, _, [], rfl, upd_same, ⟨rfl, rfl⟩, rfl⟩
    · rw [if_neg d1] at hk
      refine (if_neg (fun e => d1 (of_decide_eq_true e))).mpr ?_
      walk_at "rd"
      intro p2 hp2
      have S2 := S1.new (o := .tup [.str "write", .str "raise", .str "call"]) hp2
      have e2 := upd_same (H := H1) (a := p2) (o := .tup [.str "write", .str "raise", .str "call"])
      generalize upd H1 p2 (.tup [.str "write", .str "raise", .str "call"]) = H2 at S2 e2 ⊢
      refine ⟨p2, _, rfl, .inr (SqT.of e2), rfl, rfl, _, rfl, ?_⟩
      rw [show (if false = true then !inV (V.str f) [.str "write", .str "raise", .str "call"] else inV (V.str f) [.str "write", .str "raise", .str "call"]) = decide (f ∈ (["write", "raise", "call"] : List Str)) from inV_strL (l := ["write", "raise", "call"])]
      have ho2 := S2.I.ob
      have hl2 := S2.gl
      by_cases d2 : f ∈ (["write", "raise", "call"] : List Str)
      · rw [if_pos d2] at hk
        refine (if_pos (decide_eq_true d2)).mpr ?_
        walk_at "rd"
        rw [show (!decide (V.int ((ws.map V.str).length : Int) = V.int 2)) = !decide (ws.length = 2) from len_ne ws 2]
        refine wrong_at S2 out (fun e => ?_) (fun e => ?_)
        · rw [if_neg (by simpa using e)] at hk
          cases hk; rfl
        · have e3 : ws.length = 2 := by simpa using e
          rw [if_pos e3] at hk
          cases hk
          have w1 := at_str (ws := ws) (j := 1) (by omega)
          walk_at "rd"
          rw [show putF "at" (.int ((i : Int) + 1)) (rdF L i) = rdF L (i + 1) from rfl]
          have S3 := S2.move li
          generalize upd H2 L.x (.ins a.Reader L.dx (rdF L (i + 1))) = H3 at S3 ⊢
          have hl3 := S3.gl
          walk_at "rd"
          intro y hy
          exact out _ _ (S3.f.new hy) (S3.I.same ((Same.refl H3).new hy)) ⟨y, _, [], rfl, upd_same, ⟨rfl, rfl⟩, rfl⟩
      · rw [if_neg d2] at hk
        refine (if_neg (fun e => d2 (of_decide_eq_true e))).mpr ?_
        refine ⟨fun σ' H' => Sit a L rows i mk H H' l ws ∧ f ∈ (["block", "maybe", "repeat", "try"] : List Str) ∧ n ≠ 8 ∧ σ' = [some (.ref L.x), some (.ref l), some (.int (n : Int)), some (.str f)], ?_, ?_⟩
        · walk_at "rd"
          intro p3 hp3
          have S3 := S2.new (o := .tup [.str "block", .str "maybe", .str "repeat", .str "try"]) hp3
          have e3 := upd_same (H := H2) (a := p3) (o := .tup [.str "block", .str "maybe", .str "repeat", .str "try"])
          generalize upd H2 p3 (.tup [.str "block", .str "maybe", .str "repeat", .str "try"]) = H3 at S3 e3 ⊢
          refine ⟨p3, _, rfl, .inr (SqT.of e3), rfl, rfl, _, rfl, ?_⟩
          rw [show (if true = true then !inV (V.str f) [.str "block", .str "maybe", .str "repeat", .str "try"] else inV (V.str f) [.str "block", .str "maybe", .str "repeat", .str "try"]) = !decide (f ∈ (["block", "maybe", "repeat", "try"] : List Str)) from (if_pos rfl).trans (congrArg (fun b => !b) (inV_strL (l := ["block", "maybe", "repeat", "try"])))]
          have ho3 := S3.I.ob
          have hl3 := S3.gl
          by_cases d3 : f ∈ (["block", "maybe", "repeat", "try"] : List Str)
          · rw [decide_eq_true d3]
            refine iteF ?_
            walk_at "rd"
            refine wrong_at S3 out (fun e => ?_) (fun e => ?_)
            · have e := V.int.inj (of_decide_eq_true e)
              rw [if_pos (.inr (by omega))] at hk
              cases hk; rfl
            · exact ⟨S3, d3, fun z => of_decide_eq_false e (by rw [z]; rfl), rfl⟩
          · rw [decide_eq_false d3]
            refine iteT ?_
            walk_at "rd"
            rw [if_pos (.inl d3)] at hk
            cases hk
            exact ⟨fun _ => out H3 S3.f, fun e => by cases e⟩
        · rintro σ' H3 ⟨S3, d3, d8, rfl⟩
          rw [if_neg (by rintro (z | z); exact z d3; exact d8 z)] at hk
          have ho3 := S3.I.ob
          have hl3 := S3.gl
          walk_at "rd"
          refine ite2 (fun c4 => ?_) (fun c4 => ?_)
          · have d4 : f = "block" := V.str.inj (of_decide_eq_true c4)
            have hbx := hbx d4 d8
            walk_at "rd"
            exact ⟨L, rows, n, i, mk, l, k, res, rfl, by omega, by omega, S3.I, by rw [hws]; exact S3.gl, S3.nl, by rw [hws]; exact nw, lm, hbx, out.fr S3.f⟩
          · have d4 : ¬ f = "block" := fun e => c4 (decide_eq_true (by rw [e]))
            rw [if_neg d4] at hk
            walk_at "rd"
            rw [show (!decide (V.int ((ws.map V.str).length : Int) = V.int 1)) = !decide (ws.length = 1) from len_ne ws 1]
            refine wrong_at S3 out (fun e => ?_) (fun e => ?_)
            · rw [if_pos (by simpa using e)] at hk
              cases hk; rfl
            · have e5 : ws.length = 1 := by simpa using e
              rw [if_neg (by simpa using e5)] at hk
              walk_at "rd"
              rw [show putF "at" (.int ((i : Int) + 1)) (rdF L i) = rdF L (i + 1) from rfl]
              have S4 := S3.move li
              generalize upd H3 L.x (.ins a.Reader L.dx (rdF L (i + 1))) = H4 at S4 ⊢
              have ho4 := S4.I.ob
              walk_at "rd"
              refine ite2 (fun c6 => ?_) (fun c6 => ?_)
              · have d6 : f = "try" := V.str.inj (of_decide_eq_true c6)
                rw [if_pos d6] at hk
                walk_at "rd"
                exact ⟨L, rows, n, i + 1, mk, k, res, rfl, by omega, by omega, S4.I, by omega, hk, out.fr S4.f⟩
              · have d6 : ¬ f = "try" := fun e => c6 (decide_eq_true (by rw [e]))
                rw [if_neg d6] at hk
                walk_at "rd"
                cases hb : rdB rows k (n + 1) (i + 1) mk with
                | none => rw [hb] at hk; cases hk
                | some rb =>
                  rw [hb] at hk
                  refine ⟨L, rows, n + 1, i + 1, _, k, rb, rfl, by omega, by omega, S4.I, by omega, hb, ?_⟩
                  cases rb with
                  | err l =>
                    cases hk
                    exact fun H' f' => out H' (S4.f.trans f')
                  | ok b j mk1 =>
                    cases hk
                    intro H' pb vs f' I' hp' hB
                    walk_at "rd"
                    intro y hy
                    have tk : TupK H' (upd H' y (.tup [.str f, .ref pb])) := TupK.of_same ((Same.refl H').new hy)
                    refine out _ (.ref y) ((S4.f.trans f').new hy) (I'.same ((Same.refl H').new hy)) ?_
                    exact ⟨y, _, [pb], rfl, upd_same, ⟨pb, rfl, rfl⟩, ⟨pb, [], vs, rfl, tk _ _ hp', hB.tup tk, rfl⟩⟩
/-! ### the reader goes on -/
theorem rd_le (rows : List Row) : ∀ k,
    (∀ n i mk b j mk1, rdB rows k n i mk = some (.ok b j mk1) → i ≤ j ∧ mk1.length + i ≤ mk.length + j) ∧
    (∀ n i mk acc b j mk1, rdL rows k n i mk acc = some (.ok b j mk1) → i ≤ j ∧ mk1.length + i ≤ mk.length + j) ∧
    (∀ n i mk s j mk1, rdS rows k n i mk = some (.ok s j mk1) → i < j ∧ mk1.length + i ≤ mk.length + j) ∧
    (∀ n i mk s j mk1, rdT rows k n i mk = some (.ok s j mk1) → i ≤ j ∧ mk1.length + i ≤ mk.length + j) ∧
    (∀ n i mk b hw hb op s j mk1, rdH rows k n i mk b hw hb op = some (.ok s j mk1) → i ≤ j ∧ mk1.length + i ≤ mk.length + j)
  | 0 => by
    refine ⟨?_, ?_, ?_, ?_, ?_⟩
    · intro n i mk b j mk1 h; rw [rdB] at h; cases h
    · intro n i mk acc b j mk1 h; rw [rdL] at h; cases h
    · intro n i mk s j mk1 h; rw [rdS] at h; cases h
    · intro n i mk s j mk1 h; rw [rdT] at h; cases h
    · intro n i mk b hw hb op s j mk1 h; rw [rdH] at h; cases h
  | k + 1 => by
    obtain ⟨hB, hL, hS, hT, hH⟩ := rd_le rows k
    refine ⟨?_, ?_, ?_, ?_, ?_⟩
    · intro n i mk b j mk1 h
      rw [rdB] at h
      exact hL n i mk [] b j mk1 h
    · intro n i mk acc b j mk1 h
      rw [rdL] at h
      split at h
      · split at h
        · cases h
        · cases h; exact ⟨Nat.le_refl _, Nat.le_refl _⟩
      · split at h
        · cases h
        · cases h
        · rename_i s j1 mk2 e
          have h1 := hS _ _ _ _ _ _ e
          have h2 := hL _ _ _ _ _ _ _ h
          omega
    · intro n i mk s j mk1 h
      rw [rdS] at h
      split at h
      · split at h
        · cases h; exact ⟨by omega, by omega⟩
        · cases h
      · split at h
        · split at h
          · cases h; exact ⟨by omega, by omega⟩
          · cases h
        · split at h
          · cases h
          · split at h
            · split at h
              · cases h
              · split at h
                · cases h
                · split at h
                  · cases h
                  · cases h
                  · rename_i b j1 mk2 e
                    have h1 := hB _ _ _ _ _ _ e
                    rw [List.length_append] at h1
                    simp only [List.length_cons, List.length_nil] at h1
                    cases h
                    omega
            · split at h
              · cases h
              · split at h
                · have := hT _ _ _ _ _ _ h
                  omega
                · split at h
                  · cases h
                  · cases h
                  · rename_i b j1 mk2 e
                    have h1 := hB _ _ _ _ _ _ e
                    cases h
                    omega
    · intro n i mk s j mk1 h
      rw [rdT] at h
      split at h
      · cases h
      · cases h
      · rename_i b j1 mk2 e
        have h1 := hB _ _ _ _ _ _ e
        have h2 := hH _ _ _ _ _ _ _ _ _ _ h
        omega
    · intro n i mk b hw hb op s j mk1 h
      rw [rdH] at h
      split at h
      · split at h
        · cases h
        · cases h
        · rename_i c j1 mk2 e
          have h1 := hB _ _ _ _ _ _ e
          have h2 := hH _ _ _ _ _ _ _ _ _ _ h
          omega
      · split at h
        · split at h
          · cases h
          · cases h
          · rename_i c j1 mk2 e
            have h1 := hB _ _ _ _ _ _ e
            cases h
            omega
        · split at h
          · cases h
          · cases h; exact ⟨Nat.le_refl _, Nat.le_refl _⟩
/-! ### Reader: read_body -/
structure BodI (a : Ad) (L : RA) (rows : List Row) (n : Nat) (res : Rs (List Stm)) (H0 : Hp) (m : Nat) (σ : L2.St) (H : Hp) (q l : Addr) (vs : List V) (acc : List Stm) (i : Nat) (mk : List Mk) : Prop where
  f : FrR L H0 H
  I : RdAt a H L rows i mk
  lm : mk.length ≤ i
  q_ : H q = some (.lst vs)
  b_ : BAt H acc vs
  nq : q ≠ L.ml
  fq : H0 q = none
  l_ : H l = some (.lst ((wordsAt rows n i).map V.str))
  nl : l ≠ L.ml
  al : acc.length ≤ i
  hk : rdL rows m n i mk acc = some res
  hs : σ = [some (.ref L.x), some (.int (n : Int)), some (.ref q), some (.ref l)]
theorem BodI.new {a : Ad} {L : RA} {rows : List Row} {n m i : Nat} {res : Rs (List Stm)} {H0 H : Hp} {σ : L2.St} {q l p : Addr} {vs : List V} {acc : List Stm} {mk : List Mk} {o : HO} (B : BodI a L rows n res H0 m σ H q l vs acc i mk) (h : H p = none) : BodI a L rows n res H0 m σ (upd H p o) q l vs acc i mk :=
  ⟨B.f.new h, B.I.same ((Same.refl H).new h), B.lm, upd_old B.q_ h, B.b_.tup (TupK.of_same ((Same.refl H).new h)), B.nq, B.fq, upd_old B.l_ h, B.nl, B.al, B.hk, B.hs⟩
/-- a list of one's own is changed -/
theorem RdAt.own {a : Ad} {H0 H : Hp} {L : RA} {rows : List Row} {i0 i : Nat} {mk0 mk : List Mk} {q : Addr} {vs xs : List V} (I0 : RdAt a H0 L rows i0 mk0) (I : RdAt a H L rows i mk) (f : FrR L H0 H) (fq : H0 q = none) (hq : H q = some (.lst vs)) : RdAt a (upd H q (.lst xs)) L rows i mk := by
  have nx : L.x ≠ q := ne_of_none I0.ob fq
  obtain ⟨ms0, h3, _⟩ := I0.mk_
  have nm : L.ml ≠ q := ne_of_none h3 fq
  obtain ⟨us, h1, h2⟩ := I0.rw_
  have nrx : L.rl ≠ L.x := fun z => by rw [z, I0.ob] at h1; cases h1
  have kt : ∀ b l, H0 b = some (.tup l) → upd H q (.lst xs) b = some (.tup l) := fun b l e => upd_oth (ne_of_none e fq) (f b _ e (by
    rintro (z | z)
    · rw [z, I0.ob] at e; cases e
    · rw [z, h3] at e; cases e))
  have kl : ∀ b l, b ≠ L.ml → H0 b = some (.lst l) → upd H q (.lst xs) b = some (.lst l) := fun b l n e => upd_oth (ne_of_none e fq) (f b _ e (by
    rintro (z | z)
    · rw [z, I0.ob] at e; cases e
    · exact n z))
  obtain ⟨ms, h4, h5⟩ := I.mk_
  exact ⟨upd_oth nx I.ob, ⟨us, kl _ _ I0.ne h1, h2.imp fun _ _ r => r.lk ⟨kt, kl⟩⟩, ⟨ms, upd_oth nm h4, h5.imp fun _ _ r => upd_oth (fun z => by
    rw [z] at r
    rw [show H q = _ from r] at hq
    cases hq) r⟩, I.ne, I.le, I.ln⟩
theorem ok_Reader_read_body (T : Txt K mg a d) (r : Nat) (G_Reader_read_statement : FnOk P w K mg base (L2.CX P w) (4 * r + 2) a.Reader_read_statement d.Reader_read_statement ["self", "words", "nesting"] (spStm a r)) : FnOk P w K mg base (L2.CX P w) (4 * r + 4) a.Reader_read_body d.Reader_read_body ["self", "nesting"] (spBody a r) := by
  have G_Reader_wrong_if : FnOk P w K mg base (L2.CX P w) 3 a.Reader_wrong_if d.Reader_wrong_if ["self", "is_wrong"] (spWrong a) := ok_Reader_wrong_if T
  have G_Reader_words_at : FnOk P w K mg base CX0 1 a.Reader_words_at d.Reader_words_at ["self", "nesting"] (spWat a) := ok_Reader_words_at T
  refine T.Reader_read_body.okX sc_Reader_read_body (fun vs H Q E h => ?_) (fun cdv A outer s H vs Q E hr h => ?_)
  · obtain ⟨L, rows, n, i, mk, k, res, rfl, _⟩ := h
    rfl
  · obtain ⟨L, rows, n, i, mk, k, res, rfl, hn, hn8, I, lm, hk, out⟩ := h
    have c1 := T.k_Reader
    have n1 := T.na_Reader_at
    cases k with
    | zero => rw [rdB] at hk; cases hk
    | succ k =>
    rw [rdB] at hk
    have ho := I.ob
    refine ⟨_, (pss_cons (ps_set (i := 2) sc_Reader_read_body.nd rfl (Or.inl rfl) (pe_lst pa_nil))
  (pss_cons (ps_set (i := 3) sc_Reader_read_body.nd rfl (Or.inl rfl) (pe_meth (pv 0) T.k_Reader T.m_Reader_words_at G_Reader_words_at (hr.mono (by omega)) T.b_Reader_words_at .nil pass0 (pa_cons (pv 1) pa_nil)))
  (C8.pss_cut (ps_while (passes_of rfl) (PW.pt (pw_and (pt_cmpR (op_neNil (hu_of hr)) (pv 3) (pe_lst pa_nil) (nomark _)) (pw_and1 (pt_cmpR op_notIn_seq (pe_ix ix_list (pv 3) pe_int (fun _ _ => rfl)) (pe_tup (pa_cons pe_str (pa_cons pe_str pa_nil))) (by rfl)))))
  (pss_cons (ps_expr (pe_bm PySem.F.plainAttrs_list PySem.F.slot_list_append PySem.F.type_list_append mt_append (pv 2) (pa_cons (pe_meth (pv 0) T.k_Reader T.m_Reader_read_statement G_Reader_read_statement (hr.mono (by omega)) T.b_Reader_read_statement .nil (passes_call (takes_of rfl rfl rfl rfl) (fun _ _ _ _ h => h)) (pa_cons (pv 3) (pa_cons (pv 1) pa_nil))) pa_nil)))
  (pss_one (ps_set (i := 3) sc_Reader_read_body.nd rfl (Or.inl rfl) (pe_meth (pv 0) T.k_Reader T.m_Reader_words_at G_Reader_words_at (hr.mono (by omega)) T.b_Reader_words_at .nil pass0 (pa_cons (pv 1) pa_nil))))))
  (pss_cons (ps_expr (pe_meth (pv 0) T.k_Reader T.m_Reader_wrong_if G_Reader_wrong_if (hr.mono (by omega)) T.b_Reader_wrong_if .nil (passes_call (takes_of rfl rfl rfl rfl) (fun _ _ _ _ h => h)) (pa_cons (pe_cmpR (op_eqNil (hu_of hr)) (pv 2) (pe_lst pa_nil) (nomark _)) pa_nil)))
  (pss_one (ps_ret (pe_callTy call_tuple_of (by rfl) T.n_tuple (by decide +kernel) (pa_cons (pv 2) pa_nil)))))))), ?_⟩
    try dsimp only [cxOf]
    have hwa : ∀ i, List.lookup ("words_at" : Str) (rdF L i) = none := fun _ => rfl
    have hwr : ∀ i, List.lookup ("wrong_if" : Str) (rdF L i) = none := fun _ => rfl
    have hws : ∀ i, List.lookup ("read_statement" : Str) (rdF L i) = none := fun _ => rfl
    have hat : ∀ i : Nat, List.lookup ("at" : Str) (rdF L i) = some (.int (i : Int)) := fun _ => rfl
    have g0 := hwa i
    walk_at "rd"
    intro q hq
    obtain ⟨ms, h3, _⟩ := I.mk_
    have nq : q ≠ L.ml := Ne.symm (ne_of_none h3 hq)
    have f1 : FrR L H (upd H q (.lst [])) := Kp.refl.new hq
    have I1 := I.same ((Same.refl H).new (o := .lst []) hq)
    have q1 := upd_same (H := H) (a := q) (o := .lst [])
    generalize upd H q (.lst []) = H1 at f1 I1 q1 ⊢
    have ho1 := I1.ob
    walk_at "rd"
    refine ⟨L, rows, n, i, mk, rfl, I1, fun H2 l s2 hl nl => ?_⟩
    refine ⟨fun σ' H' => ∃ (_ : Unit) (m : Nat) (q l : Addr) (vs : List V) (acc : List Stm) (i : Nat) (mk : List Mk), BodI a L rows n res H m σ' H' q l vs acc i mk ∧ stops (wordsAt rows n i) = true, ?_, ?_⟩
    · refine ⟨fun m σ' H' => ∃ (_ : Unit) (q l : Addr) (vs : List V) (acc : List Stm) (i : Nat) (mk : List Mk), BodI a L rows n res H m σ' H' q l vs acc i mk, ⟨k, (), q, l, [], [], i, mk, f1.trans (Kp.of_same s2), I1.same s2, lm, s2 _ _ q1, rfl, nq, hq, hl, nl, Nat.zero_le _, hk, rfl⟩, ?_⟩
      rintro m σ' H' ⟨_, q, l, vs, acc, i, mk, B⟩
      have es := B.hs
      subst es
      walk_at "rd"
      intro p hp
      have B1 := B.new (o := .lst []) hp
      have e1 := upd_same (H := H') (a := p) (o := .lst [])
      generalize upd H' p (.lst []) = H3 at B1 e1 ⊢
      refine ⟨l, p, _, rfl, rfl, SqL.of B1.l_, SqL.of e1, _, rfl, ?_⟩
      have hl3 := B1.l_
      obtain ⟨iw, lw⟩ := wordsAt_ok B1.I.ln (n := n) (i := i)
      cases hw : wordsAt rows n i with
      | nil =>
        refine iteF ?_
        exact ⟨(), m, q, l, vs, acc, i, mk, B1, by rw [hw]; rfl⟩
      | cons w0 rest =>
        rw [hw] at hl3 iw
        refine iteT ?_
        have a0 := at_str (ws := w0 :: rest) (j := 0) (Nat.zero_lt_succ _)
        rw [show (w0 :: rest).getD 0 "" = w0 from rfl] at a0
        walk_at "rd"
        intro p2 hp2
        have B2 := B1.new (o := .tup [.str "except", .str "finally"]) hp2
        have e2 := upd_same (H := H3) (a := p2) (o := .tup [.str "except", .str "finally"])
        generalize upd H3 p2 (.tup [.str "except", .str "finally"]) = H4 at B2 e2 ⊢
        refine ⟨p2, _, rfl, .inr (SqT.of e2), rfl, rfl, _, rfl, ?_⟩
        rw [show (if true = true then !inV (V.str w0) [.str "except", .str "finally"] else inV (V.str w0) [.str "except", .str "finally"]) = !decide (w0 ∈ (["except", "finally"] : List Str)) from (if_pos rfl).trans (congrArg (fun b => !b) (inV_strL (l := ["except", "finally"])))]
        by_cases d1 : w0 ∈ (["except", "finally"] : List Str)
        · rw [decide_eq_true d1]
          refine iteF ?_
          exact ⟨(), m, q, l, vs, acc, i, mk, B2, by rw [hw]; exact decide_eq_true d1⟩
        · rw [decide_eq_false d1]
          refine iteT ?_
          have hst : stops (wordsAt rows n i) = false := by rw [hw]; exact decide_eq_false d1
          cases m with
          | zero => have := B.hk; rw [rdL] at this; cases this
          | succ m =>
          have hk := B2.hk
          rw [rdL, hst, if_neg (by simp)] at hk
          refine ⟨fun σ' H' => ∃ (_ : Unit) (q l : Addr) (vs : List V) (acc : List Stm) (i : Nat) (mk : List Mk), BodI a L rows n res H m σ' H' q l vs acc i mk, fun σ' H' h => ⟨m, Nat.lt_succ_self m, h⟩, ?_⟩
          have q4 := B2.q_
          have ho4 := B2.I.ob
          have g3 := hws i
          walk_at "rd"
          cases hrs : rdS rows m n i mk with
          | none => rw [hrs] at hk; cases hk
          | some rs =>
            rw [hrs] at hk
            refine ⟨L, rows, n, i, mk, l, m, rs, rfl, hn, hn8, B2.I, B2.l_, B2.nl, hst, B2.lm, hrs, ?_⟩
            cases rs with
            | err e =>
              cases hk
              exact fun H' f' => out H' (B2.f.trans f')
            | ok s' j mk1 =>
              intro H5 v f5 I5 hv
              obtain ⟨lj, lmk⟩ := (rd_le rows m).2.2.1 _ _ _ _ _ _ hrs
              have f6 := B2.f.trans f5
              have nqx : q ≠ L.x := Ne.symm (ne_of_none I.ob B2.fq)
              have q5 : H5 q = some (.lst vs) := f5 _ _ B2.q_ (by rintro (z | z); exact nqx z; exact B2.nq z)
              have ll := B2.b_.len
              have la := B2.al
              have lr := I.ln.1
              have le := I5.le
              have lz : vs.length < sizeLine := by rw [sizeLine_eq]; omega
              refine ⟨_, _, _, rfl, rfl, q5, lz, ?_⟩
              have I6 := RdAt.own (xs := vs ++ [v]) I I5 f6 B2.fq q5
              have f7 := f6.fresh (o := .lst (vs ++ [v])) B2.fq
              have tk5 : TupK H4 H5 := fun b l e => f5 _ _ e (by
                rintro (z | z)
                · rw [z, B2.I.ob] at e; cases e
                · obtain ⟨ms5, g5, _⟩ := B2.I.mk_
                  rw [z, g5] at e; cases e)
              have tk6 : TupK H5 (upd H5 q (.lst (vs ++ [v]))) := TupK.set q5
              have b6 := ((B2.b_.tup (tk5.trans tk6)).app (c := [s']) (us := [v]) ⟨v, [], rfl, hv.tup tk6, rfl⟩)
              have q6 := upd_same (H := H5) (a := q) (o := .lst (vs ++ [v]))
              generalize upd H5 q (.lst (vs ++ [v])) = H6 at I6 f7 b6 q6 ⊢
              have ho6 := I6.ob
              have g6 := hwa j
              walk_at "rd"
              refine ⟨L, rows, n, j, mk1, rfl, I6, fun H7 l7 s7 hl7 nl7 => ?_⟩
              exact ⟨(), q, l7, _, _, j, mk1, f7.trans (Kp.of_same s7), I6.same s7, by have := B2.lm; omega, s7 _ _ q6, b6.tup (TupK.of_same s7), B2.nq, B2.fq, hl7, nl7, by rw [List.length_append]; simp only [List.length_cons, List.length_nil]; omega, hk, rfl⟩
    · rintro σ' H' ⟨_, m, q, l, vs, acc, i, mk, B, hst⟩
      have es := B.hs
      subst es
      have ho' := B.I.ob
      have q' := B.q_
      have g1 := hwr i
      have g2 := hat i
      walk_at "rd"
      intro p hp
      have B1 := B.new (o := .lst []) hp
      have e1 := upd_same (H := H') (a := p) (o := .lst [])
      generalize upd H' p (.lst []) = H3 at B1 e1 ⊢
      have hk := B1.hk
      cases m with
      | zero => rw [rdL] at hk; cases hk
      | succ m =>
      rw [rdL, if_pos hst] at hk
      have ll := B1.b_.len
      have q3 := B1.q_
      have ho3 := B1.I.ob
      refine ⟨q, p, _, rfl, rfl, SqL.of B1.q_, SqL.of e1, ?_⟩
      refine ⟨L.x, L.dx, rdF L i, .int (i : Int), vs.isEmpty, rfl, ho3, rfl, rfl, fun e => ?_, fun e => ?_⟩
      · have ea : acc.isEmpty = true := by
          cases acc with
          | nil => rfl
          | cons x y => cases vs with
            | nil => cases ll
            | cons _ _ => cases e
        rw [if_pos ea] at hk
        cases hk
        exact out H3 B1.f
      · have ea : acc.isEmpty = false := by
          cases acc with
          | nil => cases vs with
            | nil => cases e
            | cons _ _ => cases ll
          | cons x y => rfl
        rw [if_neg (by rw [ea]; simp)] at hk
        cases hk
        walk_at "rd"
        refine .inl ⟨SqL.of q3, fun t ht => ?_⟩
        exact out _ t vs (B1.f.new ht) (B1.I.same ((Same.refl H3).new ht)) upd_same (B1.b_.tup (TupK.of_same ((Same.refl H3).new ht)))
/-! ### == of lists of texts -/
theorem eqv_strsL : ∀ xs ys : List Str, PyData.eqvAll (xs.map PyData.str) (ys.map PyData.str) = decide (xs = ys)
  | [], [] => by simp [PyData.eqvAll]
  | [], y :: ys => by simp [PyData.eqvAll]
  | x :: xs, [] => by simp [PyData.eqvAll]
  | x :: xs, y :: ys => by
    show (PyData.eqv (.str x) (.str y) && PyData.eqvAll (xs.map PyData.str) (ys.map PyData.str)) = _
    rw [eqv_strsL xs ys]
    show ((x == y) && decide (xs = ys)) = _
    by_cases h : x = y
    · subst h
      simp
    · simp [h]
theorem eq_strsD {K : PySem.W.Frag} {H : Hp} {a b : Addr} {xs ys : List Str} {Q : VK} (h1 : H a = some (.lst (xs.map V.str))) (h2 : H b = some (.lst (ys.map V.str))) (ax : ∀ z ∈ xs, asc z) (ay : ∀ z ∈ ys, asc z) (q : Q (.bl (decide (xs = ys))) H) : rEqD K (.ref a) (.ref b) H Q :=
  ⟨_, _, .lst (SqL.of h1) (dp_strs _), .lst (SqL.of h2) (dp_strs _), shaped_strs ax, shaped_strs ay, by
    rw [show PyData.eqv (.list (xs.map PyData.str)) (.list (ys.map PyData.str)) = decide (xs = ys) from eqv_strsL xs ys]
    exact q⟩
theorem word_asc {z : Str} (h : IsWord z) : asc z := fun c hc => by have := h.al c hc; omega
/-! ### Reader: read_try -/
def HndAt (H : Hp) (t : Addr) (p : Option (List Str) × Addr) : Prop := ∃ lv, H t = some (.tup [lv, .ref p.2]) ∧ match p.1 with | none => lv = .non | some l => ∃ y, lv = .ref y ∧ H y = some (.tup (l.map V.str))
theorem HndAt.tup {H H' : Hp} {t : Addr} {p : Option (List Str) × Addr} (e : TupK H H') (h : HndAt H t p) : HndAt H' t p := by
  obtain ⟨lv, a1, a2⟩ := h
  refine ⟨lv, e _ _ a1, ?_⟩
  cases hp : p.1 with
  | none => rw [hp] at a2; exact a2
  | some l =>
    rw [hp] at a2
    obtain ⟨y, b1, b2⟩ := a2
    exact ⟨y, b1, e _ _ b2⟩
theorem _root_.Ic.Kp.free2 {a : Ad} {L : RA} {rows rows' : List Row} {H H1 : Hp} {i j : Nat} {mk mk1 : List Mk} {q : Addr} (f : FrR L H H1) (I : RdAt a H L rows i mk) (I1 : RdAt a H1 L rows' j mk1) (h : H1 q = none) : H q = none := by
  cases e : H q with
  | none => rfl
  | some o =>
    obtain ⟨ms, g, _⟩ := I1.mk_
    have := f q o e (by
      rintro (z | z)
      · rw [z, I1.ob] at h; cases h
      · rw [z, g] at h; cases h)
    rw [this] at h; cases h
/-- the state behind the try's own body: b at pb, the handlers so far in the list at q -/
structure HndI (a : Ad) (L : RA) (rows : List Row) (n : Nat) (b : List Stm) (H0 H : Hp) (pb q : Addr) (vb : List V) (ts rr : List Addr) (hw : List (Option (List Str))) (hb : List (List Stm)) (i : Nat) (mk : List Mk) : Prop where
  f : FrR L H0 H
  I : RdAt a H L rows i mk
  lm : mk.length ≤ i
  b_ : H pb = some (.tup vb)
  bb : BAt H b vb
  q_ : H q = some (.lst (ts.map V.ref))
  nq : q ≠ L.ml
  fq : H0 q = none
  hs : A2 (HndAt H) ts (hw.zip rr)
  lr : rr.length = hw.length
  lt : ts.length ≤ i
  ps : PsAt H hb rr
theorem HndI.new {a : Ad} {L : RA} {rows : List Row} {n : Nat} {b : List Stm} {H0 H : Hp} {pb q p : Addr} {vb : List V} {ts rr : List Addr} {hw : List (Option (List Str))} {hb : List (List Stm)} {i : Nat} {mk : List Mk} {o : HO}
    (B : HndI a L rows n b H0 H pb q vb ts rr hw hb i mk) (h : H p = none) : HndI a L rows n b H0 (upd H p o) pb q vb ts rr hw hb i mk :=
  have s := (Same.refl H).new (o := o) h
  ⟨B.f.new h, B.I.same s, B.lm, s _ _ B.b_, B.bb.tup (TupK.of_same s), s _ _ B.q_, B.nq, B.fq, B.hs.imp fun _ _ r => r.tup (TupK.of_same s), B.lr, B.lt, B.ps.tup (TupK.of_same s)⟩
theorem HndI.same {a : Ad} {L : RA} {rows : List Row} {n : Nat} {b : List Stm} {H0 H H' : Hp} {pb q : Addr} {vb : List V} {ts rr : List Addr} {hw : List (Option (List Str))} {hb : List (List Stm)} {i : Nat} {mk : List Mk}
    (s : Same H H') (B : HndI a L rows n b H0 H pb q vb ts rr hw hb i mk) : HndI a L rows n b H0 H' pb q vb ts rr hw hb i mk :=
  ⟨B.f.trans (Kp.of_same s), B.I.same s, B.lm, s _ _ B.b_, B.bb.tup (TupK.of_same s), s _ _ B.q_, B.nq, B.fq, B.hs.imp fun _ _ r => r.tup (TupK.of_same s), B.lr, B.lt, B.ps.tup (TupK.of_same s)⟩
theorem HndI.move {a : Ad} {L : RA} {rows : List Row} {n : Nat} {b : List Stm} {H0 H : Hp} {pb q : Addr} {vb : List V} {ts rr : List Addr} {hw : List (Option (List Str))} {hb : List (List Stm)} {i : Nat} {mk : List Mk}
    (B : HndI a L rows n b H0 H pb q vb ts rr hw hb i mk) (h : i < rows.length) : HndI a L rows n b H0 (upd H L.x (.ins a.Reader L.dx (rdF L (i + 1)))) pb q vb ts rr hw hb (i + 1) mk :=
  have k := LK.ins (m := L.ml) (o := .ins a.Reader L.dx (rdF L (i + 1))) B.I.ob
  ⟨B.f.set (.inl rfl), B.I.move h, Nat.le_succ_of_le B.lm, k.1 _ _ B.b_, B.bb.tup k.1, k.2 _ _ B.nq B.q_, B.nq, B.fq, B.hs.imp fun _ _ r => r.tup k.1, B.lr, Nat.le_succ_of_le B.lt, B.ps.tup k.1⟩
/-- behind a call that reads a body -/
theorem HndI.read {a : Ad} {L : RA} {rows : List Row} {n : Nat} {b : List Stm} {H0 H H' : Hp} {pb q : Addr} {vb : List V} {ts rr : List Addr} {hw : List (Option (List Str))} {hb : List (List Stm)} {i j : Nat} {mk mk' : List Mk}
    (B : HndI a L rows n b H0 H pb q vb ts rr hw hb i mk) (f : FrR L H H') (I : RdAt a H' L rows j mk') (le : i ≤ j) (lm : mk'.length ≤ j) : HndI a L rows n b H0 H' pb q vb ts rr hw hb j mk' := by
  have tk : TupK H H' := fun b l e => f _ _ e (by
    rintro (z | z)
    · rw [z, B.I.ob] at e; cases e
    · obtain ⟨ms, g, _⟩ := B.I.mk_
      rw [z, g] at e; cases e)
  have q' : H' q = some (.lst (ts.map V.ref)) := f _ _ B.q_ (by
    rintro (z | z)
    · have := B.q_
      rw [z, B.I.ob] at this; cases this
    · exact B.nq z)
  exact ⟨B.f.trans f, I, lm, tk _ _ B.b_, B.bb.tup tk, q', B.nq, B.fq, B.hs.imp fun _ _ r => r.tup tk, B.lr, Nat.le_trans B.lt le, B.ps.tup tk⟩
/-- a handler is put behind -/
theorem HndI.put {a : Ad} {L : RA} {rows : List Row} {n : Nat} {b c : List Stm} {H0 H : Hp} {pb q t r : Addr} {vb vc : List V} {ts rr : List Addr} {hw : List (Option (List Str))} {hb : List (List Stm)} {i0 i : Nat} {mk0 mk : List Mk} {w : Option (List Str)}
    (I0 : RdAt a H0 L rows i0 mk0) (B : HndI a L rows n b H0 H pb q vb ts rr hw hb i mk) (ht : HndAt H t (w, r)) (hr : H r = some (.tup vc)) (hc : BAt H c vc) (lt : ts.length + 1 ≤ i) :
    HndI a L rows n b H0 (upd H q (.lst (ts.map V.ref ++ [.ref t]))) pb q vb (ts ++ [t]) (rr ++ [r]) (hw ++ [w]) (hb ++ [c]) i mk := by
  have tk : TupK H (upd H q (.lst (ts.map V.ref ++ [.ref t]))) := TupK.set B.q_
  refine ⟨B.f.fresh B.fq, RdAt.own I0 B.I B.f B.fq B.q_, B.lm, tk _ _ B.b_, B.bb.tup tk, by rw [upd_same, List.map_append]; rfl, B.nq, B.fq, ?_, by rw [List.length_append, List.length_append, B.lr]; rfl, by rw [List.length_append]; exact lt, (B.ps.tup tk).app ⟨r, [], vc, rfl, tk _ _ hr, hc.tup tk, rfl⟩⟩
  rw [List.zip_append B.lr.symm]
  exact (B.hs.imp fun _ _ r => r.tup tk).app (.cons (ht.tup tk) .nil)
theorem ok_Reader_read_try (T : Txt K mg a d) (r : Nat) (G_Reader_read_body : FnOk P w K mg base (L2.CX P w) (4 * r + 4) a.Reader_read_body d.Reader_read_body ["self", "nesting"] (spBody a r)) : FnOk P w K mg base (L2.CX P w) (4 * r + 5) a.Reader_read_try d.Reader_read_try ["self", "nesting"] (spTry a r) := by
  have G_Reader_wrong_if : FnOk P w K mg base (L2.CX P w) 3 a.Reader_wrong_if d.Reader_wrong_if ["self", "is_wrong"] (spWrong a) := ok_Reader_wrong_if T
  have G_Reader_words_at : FnOk P w K mg base CX0 1 a.Reader_words_at d.Reader_words_at ["self", "nesting"] (spWat a) := ok_Reader_words_at T
  refine T.Reader_read_try.okX sc_Reader_read_try (fun vs H Q E h => ?_) (fun cdv A outer s H vs Q E hr h => ?_)
  · obtain ⟨L, rows, n, i, mk, k, res, rfl, _⟩ := h
    rfl
  · obtain ⟨L, rows, n, i, mk, k, res, rfl, hn, hn7, I, lm, hk, out⟩ := h
    have c1 := T.k_Reader
    have n1 := T.na_Reader_at
    cases k with
    | zero => rw [rdT] at hk; cases hk
    | succ k =>
    rw [rdT] at hk
    have ho := I.ob
    refine ⟨_, (pss_cons (ps_set (i := 2) sc_Reader_read_try.nd rfl (Or.inl rfl) (pe_meth (pv 0) T.k_Reader T.m_Reader_read_body G_Reader_read_body (hr.mono (by omega)) T.b_Reader_read_body .nil (passes_call (takes_of rfl rfl rfl rfl) (fun _ _ _ _ h => h)) (pa_cons (pe_op op_add (pv 1) pe_int) pa_nil)))
  (pss_cons (ps_set (i := 3) sc_Reader_read_try.nd rfl (Or.inl rfl) (pe_lst pa_nil))
  (pss_cons (ps_set (i := 4) sc_Reader_read_try.nd rfl (Or.inl rfl) pe_bl)
  (C8.pss_cut (ps_while (passes_of rfl) (PW.pt (pw_and (pt_val (pv 4)) (pw_and1 (pt_cmpR (op_eqD hr.units) (pe_slice sl_list (pe_meth (pv 0) T.k_Reader T.m_Reader_words_at G_Reader_words_at (hr.mono (by omega)) T.b_Reader_words_at .nil pass0 (pa_cons (pv 1) pa_nil)) po_none (po_some pe_int)) (pe_lst (pa_cons pe_str pa_nil)) (nomark _)))))
  (pss_cons (ps_set (i := 5) sc_Reader_read_try.nd rfl (Or.inl rfl) (pe_slice sl_list (pe_meth (pv 0) T.k_Reader T.m_Reader_words_at G_Reader_words_at (hr.mono (by omega)) T.b_Reader_words_at .nil pass0 (pa_cons (pv 1) pa_nil)) (po_some pe_int) po_none))
  (pss_cons (ps_fldaug (pv 0) pe_int in_add)
  (pss_cons (ps_set (i := 4) sc_Reader_read_try.nd rfl (Or.inl rfl) (pe_cmpR (op_neNil (hu_of hr)) (pv 5) (pe_lst pa_nil) (nomark _)))
  (pss_one (ps_expr (pe_bm PySem.F.plainAttrs_list PySem.F.slot_list_append PySem.F.type_list_append mt_append (pv 3) (pa_cons (pe_tup (pa_cons (pe_ifExp (pt_val (pv 4)) (pe_callTy call_tuple_of (by rfl) T.n_tuple (by decide +kernel) (pa_cons (pv 5) pa_nil)) pe_non) (pa_cons (pe_meth (pv 0) T.k_Reader T.m_Reader_read_body G_Reader_read_body (hr.mono (by omega)) T.b_Reader_read_body .nil (passes_call (takes_of rfl rfl rfl rfl) (fun _ _ _ _ h => h)) (pa_cons (pe_op op_add (pv 1) pe_int) pa_nil)) pa_nil))) pa_nil))))))))
  (pss_cons (ps_set (i := 6) sc_Reader_read_try.nd rfl (Or.inl rfl) pe_non)
  (C8.pss_cut (ps_if (pt_cmpR (op_eqD hr.units) (pe_meth (pv 0) T.k_Reader T.m_Reader_words_at G_Reader_words_at (hr.mono (by omega)) T.b_Reader_words_at .nil pass0 (pa_cons (pv 1) pa_nil)) (pe_lst (pa_cons pe_str pa_nil)) (nomark _)) (pss_cons (ps_fldaug (pv 0) pe_int in_add)
  (pss_one (ps_set (i := 6) sc_Reader_read_try.nd rfl (Or.inl rfl) (pe_meth (pv 0) T.k_Reader T.m_Reader_read_body G_Reader_read_body (hr.mono (by omega)) T.b_Reader_read_body .nil (passes_call (takes_of rfl rfl rfl rfl) (fun _ _ _ _ h => h)) (pa_cons (pe_op op_add (pv 1) pe_int) pa_nil))))) pss_nil)
  (C8.pss_cut (ps_expr (pe_meth (pv 0) T.k_Reader T.m_Reader_wrong_if G_Reader_wrong_if (hr.mono (by omega)) T.b_Reader_wrong_if .nil (passes_call (takes_of rfl rfl rfl rfl) (fun _ _ _ _ h => h)) (pa_cons (pe_and (pe_cmpR (op_eqNil (hu_of hr)) (pv 3) (pe_lst pa_nil) (nomark _)) (pe_one (pe_cmpR op_isN (pv 6) pe_non (nomark _)))) pa_nil)))
  (pss_one (ps_ret (pe_tup (pa_cons pe_str (pa_cons (pv 2) (pa_cons (pe_callTy call_tuple_of (by rfl) T.n_tuple (by decide +kernel) (pa_cons (pv 3) pa_nil)) (pa_cons (pv 6) pa_nil)))))))))))))), ?_⟩
    try dsimp only [cxOf]
    have hwa : ∀ i, List.lookup ("words_at" : Str) (rdF L i) = none := fun _ => rfl
    have hwr : ∀ i, List.lookup ("wrong_if" : Str) (rdF L i) = none := fun _ => rfl
    have hws : ∀ i, List.lookup ("read_body" : Str) (rdF L i) = none := fun _ => rfl
    have hat : ∀ i : Nat, List.lookup ("at" : Str) (rdF L i) = some (.int (i : Int)) := fun _ => rfl
    have g0 := hws i
    walk_at "rd"
    cases hb0 : rdB rows k (n + 1) i mk with
    | none => rw [hb0] at hk; cases hk
    | some rb =>
      rw [hb0] at hk
      refine ⟨L, rows, n + 1, i, mk, k, rb, rfl, by omega, by omega, I, lm, hb0, ?_⟩
      cases rb with
      | err l =>
        cases hk
        exact out
      | ok b j mk1 =>
        intro H1 pb vb f1 I1 hpb hbb
        obtain ⟨lj, lmk⟩ := (rd_le rows k).1 _ _ _ _ _ _ hb0
        have hk : rdH rows k n j mk1 b [] [] true = some res := hk
        walk_at "rd"
        intro q hq
        obtain ⟨ms, h3, _⟩ := I1.mk_
        have B1 : HndI a L rows n b H (upd H1 q (.lst [])) pb q vb [] [] [] [] j mk1 :=
          ⟨f1.new hq, I1.same ((Same.refl H1).new hq), by omega, upd_old hpb hq, hbb.tup (TupK.of_same ((Same.refl H1).new hq)), upd_same, Ne.symm (ne_of_none h3 hq), f1.free2 I I1 hq, .nil, rfl, Nat.zero_le _, rfl⟩
        generalize upd H1 q (.lst []) = H2 at B1 ⊢
        refine ⟨fun σ' H' => ∃ (_ : Unit) (m : Nat) (q : Addr) (ts rr : List Addr) (hw : List (Option (List Str))) (hb : List (List Stm)) (op : Bool) (i : Nat) (mk : List Mk) (v5 : Option V), HndI a L rows n b H H' pb q vb ts rr hw hb i mk ∧ rdH rows (m + 1) n i mk b hw hb op = some res ∧ ¬ (op = true ∧ (wordsAt rows n i).take 1 = (["except"] : List Str)) ∧ σ' = [some (.ref L.x), some (.int (n : Int)), some (.ref pb), some (.ref q), some (.bl op), v5, none], ?_, ?_⟩
        · refine ⟨fun m σ' H' => ∃ (_ : Unit) (q : Addr) (ts rr : List Addr) (hw : List (Option (List Str))) (hb : List (List Stm)) (op : Bool) (i : Nat) (mk : List Mk) (v5 : Option V), HndI a L rows n b H H' pb q vb ts rr hw hb i mk ∧ rdH rows m n i mk b hw hb op = some res ∧ σ' = [some (.ref L.x), some (.int (n : Int)), some (.ref pb), some (.ref q), some (.bl op), v5, none], ⟨k, (), q, [], [], [], [], true, j, mk1, none, B1, hk, rfl⟩, ?_⟩
          rintro m σ' H' ⟨_, q, ts, rr, hw, hb, op, i, mk, v5, B, hk, rfl⟩
          cases m with
          | zero => rw [rdH] at hk; cases hk
          | succ m =>
          have ho' := B.I.ob
          have g1 := hwa i
          cases op with
          | false =>
            walk_at "rd"
            refine iteF ?_
            exact ⟨(), m, q, ts, rr, hw, hb, false, i, mk, v5, B, hk, (fun z => by cases z.1), rfl⟩
          | true =>
            walk_at "rd"
            refine ⟨L, rows, n, i, mk, rfl, B.I, fun H3 l s3 hl nl => ?_⟩
            have B3 := B.same s3
            obtain ⟨iw, lw⟩ := wordsAt_ok B.I.ln (n := n) (i := i)
            walk_at "rd"
            intro p1 hp1
            rw [show cutV ((wordsAt rows n i).map V.str) none (some 1) = ((wordsAt rows n i).take 1).map V.str by rw [List.map_take]; exact cutV_to _ 1]
            have B4 := B3.new (o := .lst (((wordsAt rows n i).take 1).map V.str)) hp1
            have e4 := upd_same (H := H3) (a := p1) (o := .lst (((wordsAt rows n i).take 1).map V.str))
            generalize upd H3 p1 (.lst (((wordsAt rows n i).take 1).map V.str)) = H4 at B4 e4 ⊢
            walk_at "rd"
            intro p2 hp2
            have B5 := B4.new (o := .lst [.str "except"]) hp2
            have e5 := upd_old (o := .lst [.str "except"]) e4 hp2
            have f5 := upd_same (H := H4) (a := p2) (o := .lst [.str "except"])
            generalize upd H4 p2 (.lst [.str "except"]) = H5 at B5 e5 f5 ⊢
            refine eq_strsD (ys := ["except"]) e5 f5 (fun z hz => word_asc (iw z (List.mem_of_mem_take hz))) (by unfold asc; decide +kernel) ⟨_, rfl, ?_⟩
            by_cases d1 : (wordsAt rows n i).take 1 = (["except"] : List Str)
            · rw [decide_eq_true d1]
              rw [rdH, if_pos ⟨rfl, d1⟩] at hk
              refine iteT ?_
              refine ⟨fun σ' H' => ∃ (_ : Unit) (q : Addr) (ts rr : List Addr) (hw : List (Option (List Str))) (hb : List (List Stm)) (op : Bool) (i : Nat) (mk : List Mk) (v5 : Option V), HndI a L rows n b H H' pb q vb ts rr hw hb i mk ∧ rdH rows m n i mk b hw hb op = some res ∧ σ' = [some (.ref L.x), some (.int (n : Int)), some (.ref pb), some (.ref q), some (.bl op), v5, none], fun σ' H' h => ⟨m, Nat.lt_succ_self m, h⟩, ?_⟩
              have nw : wordsAt rows n i ≠ [] := fun e => by rw [e] at d1; cases d1
              have li := words_some nw
              have ho5 := B5.I.ob
              walk_at "rd"
              refine ⟨L, rows, n, i, mk, rfl, B5.I, fun H6 l6 s6 hl6 nl6 => ?_⟩
              have B6 := B5.same s6
              walk_at "rd"
              intro p7 hp7
              rw [show cutV ((wordsAt rows n i).map V.str) (some 1) none = ((wordsAt rows n i).drop 1).map V.str by rw [List.map_drop]; exact cutV_from _ 1]
              have B7 := B6.new (o := .lst (((wordsAt rows n i).drop 1).map V.str)) hp7
              have e7 := upd_same (H := H6) (a := p7) (o := .lst (((wordsAt rows n i).drop 1).map V.str))
              obtain ⟨ms6, hm6, _⟩ := B6.I.mk_
              have n7 : p7 ≠ L.ml := Ne.symm (ne_of_none hm6 hp7)
              have q7 : p7 ≠ q := Ne.symm (ne_of_none B6.q_ hp7)
              generalize upd H6 p7 (.lst (((wordsAt rows n i).drop 1).map V.str)) = H7 at B7 e7 ⊢
              have ho7 := B7.I.ob
              walk_at "rd"
              rw [show putF "at" (.int ((i : Int) + 1)) (rdF L i) = rdF L (i + 1) from rfl]
              have B8 := B7.move li
              have e8 := (LK.ins (m := L.ml) (o := .ins a.Reader L.dx (rdF L (i + 1))) ho7).2 p7 _ n7 e7
              generalize upd H7 L.x (.ins a.Reader L.dx (rdF L (i + 1))) = H8 at B8 e8 ⊢
              intro p9 hp9
              have B9 := B8.new (o := .lst []) hp9
              have e9 := upd_old (o := .lst []) e8 hp9
              have f9 := upd_same (H := H8) (a := p9) (o := .lst [])
              generalize upd H8 p9 (.lst []) = H9 at B9 e9 f9 ⊢
              have q9 := B9.q_
              cases hd : (wordsAt rows n i).drop 1 with
              | nil =>
                rw [hd] at e9 hk
                refine ⟨p7, p9, _, rfl, rfl, SqL.of e9, SqL.of f9, ?_⟩
                have B10 := B9
                have ho10 := B10.I.ob
                have g10 := hws (i + 1)
                walk_at "rd"
                cases hrb : rdB rows m (n + 1) (i + 1) mk with
                | none => rw [hrb] at hk; cases hk
                | some rb =>
                  rw [hrb] at hk
                  refine ⟨L, rows, n + 1, i + 1, mk, m, rb, rfl, by omega, by omega, B10.I, by have := B10.lm; omega, hrb, ?_⟩
                  cases rb with
                  | err e =>
                    cases hk
                    exact fun H' f' => out H' (B10.f.trans f')
                  | ok c j2 mk2 =>
                    intro H11 pc vc f11 I11 hpc hbc
                    obtain ⟨lj2, lmk2⟩ := (rd_le rows m).1 _ _ _ _ _ _ hrb
                    have B11 := B10.read f11 I11 lj2 (by have := B.lm; omega)
                    walk_at "rd"
                    intro t ht
                    have B12 := B11.new (o := .tup [.non, .ref pc]) ht
                    have s12 := (Same.refl H11).new (o := .tup [.non, .ref pc]) ht
                    have lt12 := B11.lt
                    have ht12 : HndAt (upd H11 t (.tup [.non, .ref pc])) t (none, pc) := ⟨.non, upd_same, rfl⟩
                    have hpc12 := s12 _ _ hpc
                    have hbc12 := hbc.tup (TupK.of_same s12)
                    generalize upd H11 t (.tup [.non, .ref pc]) = H12 at B12 s12 ht12 hpc12 hbc12 ⊢
                    have le12 := I11.le
                    have lr12 := I.ln.1
                    have lz : (ts.map V.ref).length < sizeLine := by rw [List.length_map, sizeLine_eq]; omega
                    refine ⟨_, _, _, rfl, rfl, B12.q_, lz, ?_⟩
                    have B13 := B12.put I ht12 hpc12 hbc12 (by have := B10.lt; have := B.lt; omega)
                    exact ⟨(), q, _, _, _, _, false, j2, mk2, _, B13, hk, rfl⟩
              | cons w0 wr =>
                rw [hd] at e9 hk
                refine ⟨p7, p9, _, rfl, rfl, SqL.of e9, SqL.of f9, ?_⟩
                walk_at "rd"
                refine .inl ⟨SqL.of e9, fun y hy => ?_⟩
                have B10 := B9.new (o := .tup ((w0 :: wr).map V.str)) hy
                have ey := upd_same (H := H9) (a := y) (o := .tup ((w0 :: wr).map V.str))
                generalize upd H9 y (.tup ((w0 :: wr).map V.str)) = H10 at B10 ey ⊢
                have ho10 := B10.I.ob
                have g10 := hws (i + 1)
                walk_at "rd"
                cases hrb : rdB rows m (n + 1) (i + 1) mk with
                | none => rw [hrb] at hk; cases hk
                | some rb =>
                  rw [hrb] at hk
                  refine ⟨L, rows, n + 1, i + 1, mk, m, rb, rfl, by omega, by omega, B10.I, by have := B10.lm; omega, hrb, ?_⟩
                  cases rb with
                  | err e =>
                    cases hk
                    exact fun H' f' => out H' (B10.f.trans f')
                  | ok c j2 mk2 =>
                    intro H11 pc vc f11 I11 hpc hbc
                    obtain ⟨lj2, lmk2⟩ := (rd_le rows m).1 _ _ _ _ _ _ hrb
                    have B11 := B10.read f11 I11 lj2 (by have := B.lm; omega)
                    have ey11 : H11 y = some (.tup ((w0 :: wr).map V.str)) := f11 _ _ ey (by
                      rintro (z | z)
                      · rw [z, B10.I.ob] at ey; cases ey
                      · obtain ⟨ms, g, _⟩ := B10.I.mk_
                        rw [z, g] at ey; cases ey)
                    walk_at "rd"
                    intro t ht
                    have B12 := B11.new (o := .tup [.ref y, .ref pc]) ht
                    have s12 := (Same.refl H11).new (o := .tup [.ref y, .ref pc]) ht
                    have lt12 := B11.lt
                    have ht12 : HndAt (upd H11 t (.tup [.ref y, .ref pc])) t (some (w0 :: wr), pc) := ⟨.ref y, upd_same, y, rfl, upd_old ey11 ht⟩
                    have hpc12 := s12 _ _ hpc
                    have hbc12 := hbc.tup (TupK.of_same s12)
                    generalize upd H11 t (.tup [.ref y, .ref pc]) = H12 at B12 s12 ht12 hpc12 hbc12 ⊢
                    have le12 := I11.le
                    have lr12 := I.ln.1
                    have lz : (ts.map V.ref).length < sizeLine := by rw [List.length_map, sizeLine_eq]; omega
                    refine ⟨_, _, _, rfl, rfl, B12.q_, lz, ?_⟩
                    have B13 := B12.put I ht12 hpc12 hbc12 (by have := B10.lt; have := B.lt; omega)
                    exact ⟨(), q, _, _, _, _, true, j2, mk2, _, B13, hk, rfl⟩
            · rw [decide_eq_false d1]
              refine iteF ?_
              exact ⟨(), m, q, ts, rr, hw, hb, true, i, mk, v5, B5, hk, fun z => d1 z.2, rfl⟩
        · rintro σ' H' ⟨_, m, q, ts, rr, hw, hb, op, i, mk, v5, B, hk, hc, rfl⟩
          rw [rdH, if_neg hc] at hk
          refine ⟨fun σ'' H'' => ∃ (_ : Unit) (i : Nat) (mk : List Mk) (fv : V), HndI a L rows n b H H'' pb q vb ts rr hw hb i mk ∧ ((fv = .non ∧ (if hw = [] then some (.err i) else some (.ok (.mk (.tr hw false) (b :: hb)) i mk)) = some res) ∨
            (∃ pf vf c, fv = .ref pf ∧ H'' pf = some (.tup vf) ∧ BAt H'' c vf ∧ res = .ok (.mk (.tr hw true) (b :: hb ++ [c])) i mk)) ∧ σ'' = [some (.ref L.x), some (.int (n : Int)), some (.ref pb), some (.ref q), some (.bl op), v5, some fv], ?_, ?_⟩
          · have ho' := B.I.ob
            have g1 := hwa i
            walk_at "rd"
            refine ⟨L, rows, n, i, mk, rfl, B.I, fun H3 l s3 hl nl => ?_⟩
            have B3 := B.same s3
            obtain ⟨iw, lw⟩ := wordsAt_ok B.I.ln (n := n) (i := i)
            walk_at "rd"
            intro p2 hp2
            have B5 := B3.new (o := .lst [.str "finally"]) hp2
            have e5 := upd_old (o := .lst [.str "finally"]) hl hp2
            have f5 := upd_same (H := H3) (a := p2) (o := .lst [.str "finally"])
            generalize upd H3 p2 (.lst [.str "finally"]) = H5 at B5 e5 f5 ⊢
            refine eq_strsD (ys := ["finally"]) e5 f5 (fun z hz => word_asc (iw z hz)) (by unfold asc; decide +kernel) ⟨_, rfl, ?_⟩
            by_cases d1 : wordsAt rows n i = (["finally"] : List Str)
            · rw [decide_eq_true d1]
              rw [if_pos d1] at hk
              refine iteT ?_
              have nw : wordsAt rows n i ≠ [] := fun e => by rw [e] at d1; cases d1
              have li := words_some nw
              have ho5 := B5.I.ob
              walk_at "rd"
              rw [show putF "at" (.int ((i : Int) + 1)) (rdF L i) = rdF L (i + 1) from rfl]
              have B8 := B5.move li
              generalize upd H5 L.x (.ins a.Reader L.dx (rdF L (i + 1))) = H8 at B8 ⊢
              cases hrb : rdB rows m (n + 1) (i + 1) mk with
              | none => rw [hrb] at hk; cases hk
              | some rb =>
                rw [hrb] at hk
                refine ⟨L, rows, n + 1, i + 1, mk, m, rb, rfl, by omega, by omega, B8.I, by have := B8.lm; omega, hrb, ?_⟩
                cases rb with
                | err e =>
                  cases hk
                  exact fun H' f' => out H' (B8.f.trans f')
                | ok c j2 mk2 =>
                  intro H11 pc vc f11 I11 hpc hbc
                  obtain ⟨lj2, lmk2⟩ := (rd_le rows m).1 _ _ _ _ _ _ hrb
                  have B11 := B8.read f11 I11 lj2 (by have := B.lm; omega)
                  cases hk
                  exact ⟨(), j2, mk2, .ref pc, B11, .inr ⟨pc, vc, c, rfl, hpc, hbc, rfl⟩, rfl⟩
            · rw [decide_eq_false d1]
              rw [if_neg d1] at hk
              refine iteF ?_
              exact ⟨(), i, mk, .non, B5, .inl ⟨rfl, hk⟩, rfl⟩
          · rintro σ'' H'' ⟨_, i, mk, fv, B, hf, rfl⟩
            refine ⟨fun σ3 H3 => ∃ (_ : Unit) (i : Nat) (mk : List Mk) (fv : V) (fin : Bool) (tl : List (List Stm)), HndI a L rows n b H H3 pb q vb ts rr hw hb i mk ∧ res = .ok (.mk (.tr hw fin) (b :: hb ++ tl)) i mk ∧
              ((fin = false ∧ tl = [] ∧ fv = .non) ∨ (∃ pf vf c, fin = true ∧ tl = [c] ∧ fv = .ref pf ∧ H3 pf = some (.tup vf) ∧ BAt H3 c vf)) ∧ σ3 = [some (.ref L.x), some (.int (n : Int)), some (.ref pb), some (.ref q), some (.bl op), v5, some fv], ?_, ?_⟩
            · have ho' := B.I.ob
              have q' := B.q_
              have g1 := hwr i
              walk_at "rd"
              intro p hp
              have B1 := B.new (o := .lst []) hp
              have e1 := upd_same (H := H'') (a := p) (o := .lst [])
              have lts := B.hs.len
              have hf1 : (fv = .non ∧ (if hw = [] then some (.err i) else some (.ok (.mk (.tr hw false) (b :: hb)) i mk)) = some res) ∨ (∃ pf vf c, fv = .ref pf ∧ upd H'' p (.lst []) pf = some (.tup vf) ∧ BAt (upd H'' p (.lst [])) c vf ∧ res = .ok (.mk (.tr hw true) (b :: hb ++ [c])) i mk) := by
                rcases hf with h | ⟨pf, vf, c, h1, h2, h3, h4⟩
                · exact .inl h
                · exact .inr ⟨pf, vf, c, h1, upd_old h2 hp, h3.tup (TupK.of_same ((Same.refl H'').new hp)), h4⟩
              generalize upd H'' p (.lst []) = H3 at B1 e1 hf1 ⊢
              have ho1 := B1.I.ob
              have fin : hw ≠ [] ∨ fv ≠ .non → ∃ (_ : Unit) (i : Nat) (mk : List Mk) (fv' : V) (fin : Bool) (tl : List (List Stm)), HndI a L rows n b H H3 pb q vb ts rr hw hb i mk ∧ res = .ok (.mk (.tr hw fin) (b :: hb ++ tl)) i mk ∧
                  ((fin = false ∧ tl = [] ∧ fv' = .non) ∨ (∃ pf vf c, fin = true ∧ tl = [c] ∧ fv' = .ref pf ∧ H3 pf = some (.tup vf) ∧ BAt H3 c vf)) ∧ ([some (.ref L.x), some (.int (n : Int)), some (.ref pb), some (.ref q), some (.bl op), v5, some fv] : L2.St) = [some (.ref L.x), some (.int (n : Int)), some (.ref pb), some (.ref q), some (.bl op), v5, some fv'] := by
                intro hne
                rcases hf1 with ⟨h1, h2⟩ | ⟨pf, vf, c, h1, h2, h3, h4⟩
                · rcases hne with z | z
                  · rw [if_neg z] at h2
                    cases h2
                    exact ⟨(), i, mk, fv, false, [], B1, by rw [List.append_nil], .inl ⟨rfl, rfl, h1⟩, rfl⟩
                  · exact absurd h1 z
                · exact ⟨(), i, mk, fv, true, [c], B1, h4, .inr ⟨pf, vf, c, rfl, rfl, h1, h2, h3⟩, rfl⟩
              refine ⟨q, p, _, rfl, rfl, SqL.of B1.q_, SqL.of e1, _, rfl, ?_⟩
              cases ts with
              | cons t0 tr0 =>
                have hne : hw ≠ [] := fun e => by rw [e] at lts; cases lts
                refine iteF ?_
                walk_at "rd"
                exact ⟨fun e => (by cases e), fun _ => fin (.inl hne)⟩
              | nil =>
                have he : hw = [] := by
                  cases hw with
                  | nil => rfl
                  | cons x y =>
                    have := B.lr
                    cases rr with
                    | nil => cases this
                    | cons _ _ => cases lts
                refine iteT ?_
                walk_at "rd"
                refine ⟨fun e => ?_, fun e => fin (.inr (of_decide_eq_false e))⟩
                have e := of_decide_eq_true e
                rcases hf1 with ⟨h1, h2⟩ | ⟨pf, vf, c, h1, h2, h3, h4⟩
                · rw [if_pos he] at h2
                  cases h2
                  exact out H3 B1.f
                · rw [h1] at e; cases e
            · rintro σ3 H3 ⟨_, i, mk, fv, fin, tl, B, rfl, hf, rfl⟩
              have q' := B.q_
              walk_at "rd"
              refine .inl ⟨SqL.of q', fun q2 hq2 => ?_⟩
              have B1 := B.new (o := .tup (ts.map V.ref)) hq2
              have e1 := upd_same (H := H3) (a := q2) (o := .tup (ts.map V.ref))
              have t1 := TupK.of_same ((Same.refl H3).new (o := .tup (ts.map V.ref)) hq2)
              generalize upd H3 q2 (.tup (ts.map V.ref)) = H4 at B1 e1 t1 ⊢
              walk_at "rd"
              intro y hy
              have t2 := TupK.of_same ((Same.refl H4).new (o := .tup [.str "try", .ref pb, .ref q2, fv]) hy)
              refine out _ (.ref y) (B1.f.new hy) (B1.I.same ((Same.refl H4).new hy)) ?_
              have ps1 := B1.ps.tup t2
              have bb1 := B1.bb.tup t2
              have hs1 := B1.hs.imp fun _ _ r => r.tup t2
              have pb1 := t2 _ _ B1.b_
              have e2 := t2 _ _ e1
              rcases hf with ⟨rfl, rfl, rfl⟩ | ⟨pf, vf, c, rfl, rfl, rfl, h4, h5⟩
              · rw [List.append_nil]
                exact ⟨y, _, pb :: rr, rfl, upd_same, ⟨pb, rr, q2, ts, .non, rfl, e2, hs1, B1.lr, by rw [if_neg (by simp)]; exact ⟨rfl, rfl⟩⟩, ⟨pb, rr, vb, rfl, pb1, bb1, ps1⟩⟩
              · have h5 := h5.tup (t1.trans t2)
                have h4 := t2 _ _ (t1 _ _ h4)
                exact ⟨y, _, pb :: (rr ++ [pf]), rfl, upd_same, ⟨pb, rr, q2, ts, .ref pf, rfl, e2, hs1, B1.lr, by rw [if_pos rfl]; exact ⟨pf, rfl, rfl⟩⟩, ⟨pb, _, vb, rfl, pb1, bb1, ps1.app ⟨pf, [], vf, rfl, h4, h5, rfl⟩⟩⟩
/-! ### Reader: read_all -/
theorem ok_body (T : Txt K mg a d) : ∀ r, FnOk P w K mg base (L2.CX P w) (4 * r + 4) a.Reader_read_body d.Reader_read_body ["self", "nesting"] (spBody a r)
  | 0 => fn_noneX fun vs H Q E ⟨_, _, n, _, _, _, _, _, hn, hn8, _⟩ => by omega
  | r + 1 => ok_Reader_read_body T (r + 1) (ok_Reader_read_statement T r (ok_body T r) (ok_Reader_read_block T r (ok_body T r)) (ok_Reader_read_try T r (ok_body T r)))
def stK (fs : List Fun) : List (Key × V) := fs.map fun f => (Sum.inr f.name, .int (f.start : Int))
def bdK (fs : List Fun) (ps : List Addr) : List (Key × V) := (fs.zip ps).map fun x => (Sum.inr x.1.name, .ref x.2)
def BodyAt (H : Hp) (p : Addr) (f : Fun) : Prop := ∃ vs, H p = some (.tup vs) ∧ BAt H f.body vs
theorem BodyAt.tup {H H' : Hp} {p : Addr} {f : Fun} (e : TupK H H') (h : BodyAt H p f) : BodyAt H' p f := by
  obtain ⟨vs, h1, h2⟩ := h
  exact ⟨vs, e _ _ h1, h2.tup e⟩
abbrev FrA (L : RA) (H H' : Hp) : Prop := Kp (fun b => b = L.x ∨ b = L.ml ∨ b = L.sd ∨ b = L.bd) H H'
theorem FrA.of {L : RA} {H H' : Hp} (f : FrR L H H') : FrA L H H' := f.mono fun b h => h.elim .inl fun h => .inr (.inl h)
structure AllI (a : Ad) (L : RA) (rows : List Row) (H0 H : Hp) (fs : List Fun) (ps : List Addr) (i : Nat) (mk : List Mk) : Prop where
  f : FrA L H0 H
  I : RdAt a H L rows i mk
  lm : mk.length ≤ i
  sd : H L.sd = some (.dK (stK fs))
  bd : H L.bd = some (.dK (bdK fs ps))
  nd : L.sd ≠ L.bd
  bs : A2 (BodyAt H) ps fs
  nn : (fs.map (·.name)).Nodup
  lf : fs.length ≤ i
def outA (a : Ad) (L : RA) (rows : List Row) (H : Hp) (Q : VK) (E : XK) : Rs (List Fun) → Prop
  | .err l => ∀ H', FrA L H H' → errQ a.BadLibrary ef_BadLibrary [.int (l : Int)] H' E
  | .ok fs j mk => ∀ H' ps, AllI a L rows H H' fs ps j mk → Q .non H'
def spAll (a : Ad) : Sp := fun vs H Q E => ∃ (L : RA) (rows : List Row) (k : Nat) (res : Rs (List Fun)), vs = [.ref L.x] ∧ RdAt a H L rows 0 [] ∧ H L.sd = some (.dK []) ∧ H L.bd = some (.dK []) ∧ L.sd ≠ L.bd ∧ rdAll rows k 0 [] [] = some res ∧ outA a L rows H Q E res
theorem valV_none {kvs : List (Key × V)} {k : Key} (h : k ∉ kvs.map (·.1)) : valV kvs k = none := by
  cases e : valV kvs k with
  | none => rfl
  | some v =>
    exfalso
    apply h
    unfold valV at e
    cases q : kvs.find? (fun kv => decide (kv.1 = k)) with
    | none => rw [q] at e; cases e
    | some p =>
      have := List.find?_some q
      rw [← of_decide_eq_true this]
      exact List.mem_map_of_mem (List.mem_of_find?_eq_some q)
theorem valV_some {kvs : List (Key × V)} {k : Key} (h : k ∈ kvs.map (·.1)) : (valV kvs k).isSome = true := by
  obtain ⟨p, hp, rfl⟩ := List.mem_map.mp h
  unfold valV
  rw [Option.isSome_map]
  exact List.find?_isSome.mpr ⟨p, hp, decide_eq_true rfl⟩
theorem putK_last {kvs : List (Key × V)} {k : Key} {v v' : V} (h : k ∉ kvs.map (·.1)) : putK (kvs ++ [(k, v)]) k v' = kvs ++ [(k, v')] := by
  have e : kvs.map (fun kv => if kv.1 = k then (kv.1, v') else kv) = kvs := by
    have : kvs.map (fun kv => if kv.1 = k then (kv.1, v') else kv) = kvs.map id := List.map_congr_left fun p hp => by
      rw [if_neg (fun e => h (by rw [← e]; exact List.mem_map_of_mem hp))]; rfl
    rw [this, List.map_id]
  unfold putK
  rw [if_pos (by rw [List.any_append]; simp), List.map_append, e]
  simp
theorem stK_keys (fs : List Fun) : (stK fs).map (·.1) = (fs.map (·.name)).map Sum.inr := by
  unfold stK
  rw [List.map_map, List.map_map]; rfl
theorem bdK_keys {fs : List Fun} {ps : List Addr} (h : ps.length = fs.length) : (bdK fs ps).map (·.1) = (fs.map (·.name)).map Sum.inr := by
  unfold bdK
  have e : (fs.zip ps).map Prod.fst = fs := List.map_fst_zip (by omega)
  have : ((fs.zip ps).map fun x => ((Sum.inr x.1.name : Key), V.ref x.2)).map (·.1) = ((fs.zip ps).map Prod.fst).map fun f => (Sum.inr f.name : Key) := by
    rw [List.map_map, List.map_map]; rfl
  rw [this, e, List.map_map]; rfl
theorem inr_mem {z : Str} {l : List Str} : (Sum.inr z : Key) ∈ l.map Sum.inr ↔ z ∈ l := by
  simp
theorem LK.dk {m D : Addr} {H : Hp} {kvs : List (Key × V)} {o : HO} (h : H D = some (.dK kvs)) : LK m H (upd H D o) :=
  ⟨fun b l e => upd_oth (fun z => by rw [z, h] at e; cases e) e, fun b l _ e => upd_oth (fun z => by rw [z, h] at e; cases e) e⟩
theorem RdAt.dict {a : Ad} {H : Hp} {L : RA} {rows : List Row} {i : Nat} {mk : List Mk} {D : Addr} {kvs : List (Key × V)} {o : HO} (h : RdAt a H L rows i mk) (hd : H D = some (.dK kvs)) : RdAt a (upd H D o) L rows i mk := by
  obtain ⟨vs, h1, h2⟩ := h.rw_
  obtain ⟨ms, h3, h4⟩ := h.mk_
  have n1 : L.x ≠ D := fun z => by have := h.ob; rw [z, hd] at this; cases this
  have n2 : L.rl ≠ D := fun z => by rw [z, hd] at h1; cases h1
  have n3 : L.ml ≠ D := fun z => by rw [z, hd] at h3; cases h3
  exact ⟨upd_oth n1 h.ob, ⟨vs, upd_oth n2 h1, h2.imp fun _ _ r => r.lk (LK.dk hd)⟩, ⟨ms, upd_oth n3 h3, h4.imp fun _ _ r => (LK.dk (m := L.ml) hd).1 _ _ r⟩, h.ne, h.le, h.ln⟩
theorem AllI.same {a : Ad} {L : RA} {rows : List Row} {H0 H H' : Hp} {fs : List Fun} {ps : List Addr} {i : Nat} {mk : List Mk} (s : Same H H') (B : AllI a L rows H0 H fs ps i mk) : AllI a L rows H0 H' fs ps i mk :=
  ⟨B.f.trans (Kp.of_same s), B.I.same s, B.lm, s _ _ B.sd, s _ _ B.bd, B.nd, B.bs.imp fun _ _ r => r.tup (TupK.of_same s), B.nn, B.lf⟩
theorem ok_Reader_read_all (T : Txt K mg a d) : FnOk P w K mg base (L2.CX P w) 40 a.Reader_read_all d.Reader_read_all ["self"] (spAll a) := by
  have G_Reader_wrong_if : FnOk P w K mg base (L2.CX P w) 3 a.Reader_wrong_if d.Reader_wrong_if ["self", "is_wrong"] (spWrong a) := ok_Reader_wrong_if T
  have G_Reader_words_at : FnOk P w K mg base CX0 1 a.Reader_words_at d.Reader_words_at ["self", "nesting"] (spWat a) := ok_Reader_words_at T
  have G_Reader_read_body : FnOk P w K mg base (L2.CX P w) 36 a.Reader_read_body d.Reader_read_body ["self", "nesting"] (spBody a 8) := ok_body T 8
  refine T.Reader_read_all.okX sc_Reader_read_all (fun vs H Q E h => ?_) (fun cdv A outer s H vs Q E hr h => ?_)
  · obtain ⟨L, rows, k, res, rfl, _⟩ := h
    rfl
  · obtain ⟨L, rows, k, res, rfl, I, hsd, hbd, nsb, hk, out⟩ := h
    have c1 := T.k_Reader
    have n1 := T.na_Reader_at
    have n2 := T.na_Reader_rows
    have n3 := T.na_Reader_starts
    have n4 := T.na_Reader_bodies
    refine ⟨_, (pss_one (ps_while (passes_of rfl) (pt_cmpR op_lt (pe_fld (pv 0) rfl) (pe_callB call_len_seq (by rfl) T.n_len PySem.boot_len (pa_cons (pe_fld (pv 0) rfl) pa_nil)) (nomark _))
  (pss_cons (ps_set (i := 1) sc_Reader_read_all.nd rfl (Or.inl rfl) (pe_meth (pv 0) T.k_Reader T.m_Reader_words_at G_Reader_words_at (hr.mono (by omega)) T.b_Reader_words_at .nil pass0 (pa_cons pe_int pa_nil)))
  (C8.pss_cut (ps_expr (pe_meth (pv 0) T.k_Reader T.m_Reader_wrong_if G_Reader_wrong_if (hr.mono (by omega)) T.b_Reader_wrong_if .nil (passes_call (takes_of rfl rfl rfl rfl) (fun _ _ _ _ h => h)) (pa_cons (pe_or (pe_cmpR op_ne (pe_callB call_len_seq (by rfl) T.n_len PySem.boot_len (pa_cons (pv 1) pa_nil)) pe_int (nomark _)) (pe_or (pe_cmpR op_ne (pe_ix ix_list (pv 1) pe_int (fun _ _ => rfl)) pe_str (nomark _)) (pe_one (pe_cmp (pc_din (hu_of hr) (pe_ix ix_list (pv 1) pe_int (fun _ _ => rfl)) (pe_fld (pv 0) rfl)))))) pa_nil)))
  (pss_cons (ps_set (i := 2) sc_Reader_read_all.nd rfl (Or.inl rfl) (pe_ix ix_list (pv 1) pe_int (fun _ _ => rfl)))
  (pss_cons (ps_dput (hu_of hr) (pe_fld (pv 0) rfl) (pv 2) (pe_fld (pv 0) rfl) rfl)
  (pss_cons (ps_fldaug (pv 0) pe_int in_add)
  (pss_cons (ps_dput (hu_of hr) (pe_fld (pv 0) rfl) (pv 2) (pe_tup pa_nil) rfl)
  (pss_one (ps_dput (hu_of hr) (pe_fld (pv 0) rfl) (pv 2) (pe_meth (pv 0) T.k_Reader T.m_Reader_read_body G_Reader_read_body (hr.mono (by omega)) T.b_Reader_read_body .nil (passes_call (takes_of rfl rfl rfl rfl) (fun _ _ _ _ h => h)) (pa_cons pe_int pa_nil)) rfl)))))))))), ?_⟩
    try dsimp only [cxOf]
    have hwa : ∀ i, List.lookup ("words_at" : Str) (rdF L i) = none := fun _ => rfl
    have hwr : ∀ i, List.lookup ("wrong_if" : Str) (rdF L i) = none := fun _ => rfl
    have hws : ∀ i, List.lookup ("read_body" : Str) (rdF L i) = none := fun _ => rfl
    have hat : ∀ i : Nat, List.lookup ("at" : Str) (rdF L i) = some (.int (i : Int)) := fun _ => rfl
    refine ⟨fun m σ' H' => ∃ (_ : Unit) (fs : List Fun) (ps : List Addr) (i : Nat) (mk : List Mk) (v1 v2 : Option V), AllI a L rows H H' fs ps i mk ∧ rdAll rows m i mk fs = some res ∧ σ' = [some (.ref L.x), v1, v2], ⟨k, (), [], [], 0, [], none, none, ⟨Kp.refl, I, Nat.le_refl _, hsd, hbd, nsb, .nil, .nil, Nat.le_refl _⟩, hk, rfl⟩, ?_⟩
    rintro m σ' H' ⟨_, fs, ps, i, mk, v1, v2, B, hk, rfl⟩
    cases m with
    | zero => rw [rdAll] at hk; cases hk
    | succ m =>
    rw [rdAll] at hk
    have ho := B.I.ob
    obtain ⟨us, hrl, hrows⟩ := B.I.rw_
    have lus := hrows.len
    walk_at "rd"
    refine ite2 (fun c0 => ?_) (fun c0 => ?_)
    · have li : i < rows.length := by have := of_decide_eq_true c0; omega
      rw [if_pos li] at hk
      refine ⟨fun σ' H' => ∃ (_ : Unit) (fs : List Fun) (ps : List Addr) (i : Nat) (mk : List Mk) (v1 v2 : Option V), AllI a L rows H H' fs ps i mk ∧ rdAll rows m i mk fs = some res ∧ σ' = [some (.ref L.x), v1, v2], fun σ' H' h => ⟨m, Nat.lt_succ_self m, h⟩, ?_⟩
      have g1 := hwa i
      walk_at "rd"
      refine ⟨L, rows, 0, i, mk, rfl, B.I, fun H3 l s3 hl nl => ?_⟩
      have B3 := B.same s3
      obtain ⟨iw, lw⟩ := wordsAt_ok B.I.ln (n := 0) (i := i)
      refine ⟨fun σ' H' => H' = H3 ∧ ¬ ((wordsAt rows 0 i).length ≠ 2 ∨ fstW (wordsAt rows 0 i) ≠ "function" ∨ (wordsAt rows 0 i).getD 1 "" ∈ fs.map (·.name)) ∧ σ' = [some (.ref L.x), some (.ref l), v2], ?_, ?_⟩
      · have ho3 := B3.I.ob
        have g2 := hwr i
        have hl3 := hl
        have wrong : ((wordsAt rows 0 i).length ≠ 2 ∨ fstW (wordsAt rows 0 i) ≠ "function" ∨ (wordsAt rows 0 i).getD 1 "" ∈ fs.map (·.name)) → errQ a.BadLibrary ef_BadLibrary [.int (i : Int)] H3 E := fun hc => by
          rw [if_pos hc] at hk
          cases hk
          exact out H3 B3.f
        have hbd3 := B3.bd
        have lbs := B3.bs.len
        walk_at "rd"
        rw [show (!decide (V.int (((wordsAt rows 0 i).map V.str).length : Int) = V.int 2)) = !decide ((wordsAt rows 0 i).length = 2) from len_ne _ 2]
        by_cases e1 : (wordsAt rows 0 i).length = 2
        · rw [decide_eq_true e1]
          refine iteF ?_
          have w0 := at_str (ws := wordsAt rows 0 i) (j := 0) (by omega)
          have w1 := at_str (ws := wordsAt rows 0 i) (j := 1) (by omega)
          rw [show (wordsAt rows 0 i).getD 0 "" = fstW (wordsAt rows 0 i) from rfl] at w0
          walk_at "rd"
          by_cases e2 : fstW (wordsAt rows 0 i) = "function"
          · rw [decide_eq_true (show V.str (fstW (wordsAt rows 0 i)) = V.str "function" by rw [e2])]
            refine iteF ?_
            walk_at "rd"
            refine ⟨_, rfl, DGet.k (k := Sum.inr ((wordsAt rows 0 i).getD 1 "")) hbd3, ?_⟩
            by_cases e3 : (wordsAt rows 0 i).getD 1 "" ∈ fs.map (·.name)
            · rw [valV_some (by rw [bdK_keys lbs]; exact inr_mem.mpr e3)]
              walk_at "rd"
              exact ⟨fun _ => wrong (.inr (.inr e3)), fun e => by cases e⟩
            · rw [valV_none (by rw [bdK_keys lbs]; exact fun z => e3 (inr_mem.mp z))]
              walk_at "rd"
              exact ⟨fun e => (by cases e), fun _ => ⟨rfl, by rintro (z | z | z); exact z e1; exact z e2; exact e3 z, rfl⟩⟩
          · rw [decide_eq_false (fun z => e2 (V.str.inj z))]
            refine iteT ?_
            walk_at "rd"
            exact ⟨fun _ => wrong (.inr (.inl e2)), fun e => by cases e⟩
        · rw [decide_eq_false e1]
          refine iteT ?_
          walk_at "rd"
          exact ⟨fun _ => wrong (.inl e1), fun e => by cases e⟩
      · rintro σ' _ ⟨rfl, hc, rfl⟩
        rw [if_neg hc] at hk
        rename_i H3
        have e1 : (wordsAt rows 0 i).length = 2 := Decidable.byContradiction fun e => hc (.inl e)
        have nm : (wordsAt rows 0 i).getD 1 "" ∉ fs.map (·.name) := fun e => hc (.inr (.inr e))
        have w1 := at_str (ws := wordsAt rows 0 i) (j := 1) (by omega)
        have ho3 := B3.I.ob
        have hsd3 := B3.sd
        have lf := B3.lf
        have lr := B3.I.ln.1
        have lbs := B3.bs.len
        have lsk : (stK fs).length < sizeLine := by unfold stK; rw [List.length_map, sizeLine_eq]; omega
        generalize (wordsAt rows 0 i).getD 1 "" = nm1 at nm w1 hk
        have lbk : (bdK fs ps).length < sizeLine := by unfold bdK; rw [List.length_map, List.length_zip, sizeLine_eq]; omega
        have ns : (Sum.inr nm1 : Key) ∉ (stK fs).map (·.1) := by rw [stK_keys]; exact fun z => nm (inr_mem.mp z)
        have nb : (Sum.inr nm1 : Key) ∉ (bdK fs ps).map (·.1) := by rw [bdK_keys lbs]; exact fun z => nm (inr_mem.mp z)
        have nxs : L.x ≠ L.sd := fun z => by rw [z, hsd3] at ho3; cases ho3
        have nxb : L.x ≠ L.bd := fun z => by have := B3.bd; rw [← z, ho3] at this; cases this
        walk_at "rd"
        refine ⟨_, rfl, DPut.k (k := Sum.inr nm1) hsd3 lsk, ?_⟩
        rw [putK_new _ (valV_none ns)]
        have I4 := B3.I.dict (o := .dK (stK fs ++ [(Sum.inr nm1, .int (i : Int))])) hsd3
        have f4 : FrA L H (upd H3 L.sd (.dK (stK fs ++ [(Sum.inr nm1, .int (i : Int))]))) := B3.f.set (.inr (.inr (.inl rfl)))
        have t4 : TupK H3 (upd H3 L.sd (.dK (stK fs ++ [(Sum.inr nm1, .int (i : Int))]))) := (LK.dk (m := L.ml) hsd3).1
        have sd4 := upd_same (H := H3) (a := L.sd) (o := .dK (stK fs ++ [(Sum.inr nm1, .int (i : Int))]))
        have bd4 := upd_oth (o := .dK (stK fs ++ [(Sum.inr nm1, .int (i : Int))])) (Ne.symm B3.nd) B3.bd
        generalize upd H3 L.sd (.dK (stK fs ++ [(Sum.inr nm1, .int (i : Int))])) = H4 at I4 f4 t4 sd4 bd4 ⊢
        have ho4 := I4.ob
        walk_at "rd"
        rw [show putF "at" (.int ((i : Int) + 1)) (rdF L i) = rdF L (i + 1) from rfl]
        have I5 := I4.move li
        have f5 := f4.set (o := .ins a.Reader L.dx (rdF L (i + 1))) (.inl rfl : L.x = L.x ∨ L.x = L.ml ∨ L.x = L.sd ∨ L.x = L.bd)
        have t5 := t4.trans (LK.ins (m := L.ml) (o := .ins a.Reader L.dx (rdF L (i + 1))) ho4).1
        have sd5 := upd_oth (o := .ins a.Reader L.dx (rdF L (i + 1))) (Ne.symm nxs) sd4
        have bd5 := upd_oth (o := .ins a.Reader L.dx (rdF L (i + 1))) (Ne.symm nxb) bd4
        generalize upd H4 L.x (.ins a.Reader L.dx (rdF L (i + 1))) = H5 at I5 f5 t5 sd5 bd5 ⊢
        intro e he
        have s6 := (Same.refl H5).new (o := .tup []) he
        have I6 := I5.same s6
        have f6 := f5.trans (Kp.of_same s6)
        have t6 := t5.trans (TupK.of_same s6)
        have sd6 := s6 _ _ sd5
        have bd6 := s6 _ _ bd5
        generalize upd H5 e (.tup []) = H6 at I6 f6 t6 sd6 bd6 ⊢
        have ho6 := I6.ob
        walk_at "rd"
        refine ⟨_, rfl, DPut.k (k := Sum.inr nm1) bd6 lbk, ?_⟩
        rw [putK_new _ (valV_none nb)]
        have I7 := I6.dict (o := .dK (bdK fs ps ++ [(Sum.inr nm1, .ref e)])) bd6
        have f7 : FrA L H (upd H6 L.bd (.dK (bdK fs ps ++ [(Sum.inr nm1, .ref e)]))) := f6.set (.inr (.inr (.inr rfl)))
        have t7 := t6.trans (LK.dk (m := L.ml) (o := .dK (bdK fs ps ++ [(Sum.inr nm1, .ref e)])) bd6).1
        have sd7 := upd_oth (o := .dK (bdK fs ps ++ [(Sum.inr nm1, .ref e)])) B3.nd sd6
        have bd7 := upd_same (H := H6) (a := L.bd) (o := .dK (bdK fs ps ++ [(Sum.inr nm1, .ref e)]))
        generalize upd H6 L.bd (.dK (bdK fs ps ++ [(Sum.inr nm1, .ref e)])) = H7 at I7 f7 t7 sd7 bd7 ⊢
        have ho7 := I7.ob
        have g7 := hws (i + 1)
        walk_at "rd"
        cases hrb : rdB rows m 1 (i + 1) mk with
        | none => rw [hrb] at hk; cases hk
        | some rb =>
          rw [hrb] at hk
          refine ⟨L, rows, 1, i + 1, mk, m, rb, rfl, rfl, by omega, I7, by have := B3.lm; omega, hrb, ?_⟩
          cases rb with
          | err le =>
            cases hk
            exact fun H' f' => out H' (f7.trans (FrA.of f'))
          | ok b j mk1 =>
            intro H8 pb vb f8 I8 hpb hbb
            obtain ⟨lj, lmk⟩ := (rd_le rows m).1 _ _ _ _ _ _ hrb
            have ho8 := I8.ob
            obtain ⟨ms7, hm7, _⟩ := I7.mk_
            have keep : ∀ b o, H7 b = some o → (∀ C dx l, o ≠ .ins C dx l) → (∀ l, o ≠ .lst l) → H8 b = some o := fun b o e n1 n2 => f8 _ _ e (by
              rintro (z | z)
              · rw [z, ho7] at e; cases e; exact n1 _ _ _ rfl
              · rw [z, hm7] at e; cases e; exact n2 _ rfl)
            have sd8 := keep _ _ sd7 (fun _ _ _ z => by cases z) (fun _ z => by cases z)
            have bd8 := keep _ _ bd7 (fun _ _ _ z => by cases z) (fun _ z => by cases z)
            have t8 : TupK H7 H8 := fun b l e => keep _ _ e (fun _ _ _ z => by cases z) (fun _ z => by cases z)
            have lbk8 : (bdK fs ps ++ [((Sum.inr nm1 : Key), V.ref e)]).length < sizeLine := by
              unfold bdK
              rw [List.length_append, List.length_map, List.length_zip, sizeLine_eq]
              simp only [List.length_cons, List.length_nil]
              omega
            walk_at "rd"
            refine ⟨_, rfl, DPut.k (k := Sum.inr nm1) bd8 lbk8, ?_⟩
            rw [putK_last nb]
            have I9 := I8.dict (o := .dK (bdK fs ps ++ [(Sum.inr nm1, .ref pb)])) bd8
            have f9 : FrA L H (upd H8 L.bd (.dK (bdK fs ps ++ [(Sum.inr nm1, .ref pb)]))) := (f7.trans (FrA.of f8)).set (.inr (.inr (.inr rfl)))
            have t9 := (LK.dk (m := L.ml) (o := .dK (bdK fs ps ++ [(Sum.inr nm1, .ref pb)])) bd8).1
            refine ⟨(), fs ++ [⟨nm1, i, b⟩], ps ++ [pb], j, mk1, _, _, ⟨f9, I9, by have := B3.lm; omega, ?_, ?_, B3.nd, ?_, ?_, ?_⟩, hk, rfl⟩
            · rw [upd_oth B3.nd sd8]; unfold stK; rw [List.map_append]; rfl
            · rw [upd_same]; unfold bdK; rw [List.zip_append lbs.symm, List.map_append]; rfl
            · exact ((B3.bs.imp fun _ _ r => r.tup (t7.trans (t8.trans t9)))).app (.cons ⟨vb, t9 _ _ hpb, hbb.tup t9⟩ .nil)
            · rw [List.map_append]
              refine List.nodup_append.mpr ⟨B3.nn, by simp, fun x hx y hy e => ?_⟩
              have hy : y = nm1 := by simpa using hy
              exact nm (hy ▸ e ▸ hx)
            · rw [List.length_append]; simp only [List.length_cons, List.length_nil]; omega
    · rw [if_neg (fun e => c0 (decide_eq_true (by omega)))] at hk
      cases hk
      exact out H' ps B
/-! ### Reader(lines) -/
theorem RowAt.re {m q : Addr} {H : Hp} {v : V} {r : Row} (h : RowAt m H v r) (hq : H q = none) : RowAt q H v r := by
  cases r with
  | none => exact h
  | some p =>
    obtain ⟨t, l, h1, h2, h3, _⟩ := h
    exact ⟨t, l, h1, h2, h3, ne_of_none h3 hq⟩
theorem RowAt.same {m : Addr} {H H' : Hp} {v : V} {r : Row} (e : Same H H') (h : RowAt m H v r) : RowAt m H' v r := h.lk (LK.of_same e)
theorem rowsOk {zs : List Str} (h : ∀ z ∈ zs, LineOk z) (l : zs.length ≤ 100000) : RowsOk (zs.map rowOf) := by
  refine ⟨by rw [List.length_map]; exact l, fun n ws hm => ?_⟩
  obtain ⟨z, hz, e⟩ := List.mem_map.mp hm
  unfold rowOf at e
  split at e
  · cases e
  · rename_i c
    cases e
    have c2 : (wordsN z).all wordS = true := by
      cases q : (wordsN z).all wordS with
      | true => rfl
      | false => exact absurd (.inr q) c
    exact ⟨fun w hw => wordS_of (List.all_eq_true.mp c2 w hw), (h z hz).wl⟩
structure RdNew (a : Ad) (H : Hp) (L : RA) (rows : List Row) : Prop where
  I : RdAt a H L rows 0 []
  sd : H L.sd = some (.dK [])
  bd : H L.bd = some (.dK [])
  nd : L.sd ≠ L.bd
def spRdI (a : Ad) : Sp := fun vs H Q _ => ∃ (x dx p : Addr) (zs : List Str), vs = [.ref x, .ref p] ∧ H x = some (.ins a.Reader dx []) ∧ H p = some (.lst (zs.map V.str)) ∧ (∀ z ∈ zs, LineOk z) ∧ zs.length ≤ 100000 ∧
  ∀ H' L, RdNew a H' L (zs.map rowOf) → L.x = x → Kp (fun b => b = x) H H' → H L.ml = none → H L.sd = none → H L.bd = none → Q .non H'
structure IniI (a : Ad) (H G : Hp) (x dx D : Addr) (fs : List (Str × V)) (us : List V) (rows : List Row) : Prop where
  gx : G x = some (.ins a.Reader dx fs)
  hD : G D = some (.lst us)
  nn : H D = none
  nx : D ≠ x
  ha : A2 (RowAt D G) us rows
  k : Kp (fun b => b = x) H G
theorem IniI.set {a : Ad} {H G : Hp} {x dx D : Addr} {fs fs' : List (Str × V)} {us : List V} {rows : List Row} (B : IniI a H G x dx D fs us rows) : IniI a H (upd G x (.ins a.Reader dx fs')) x dx D fs' us rows :=
  ⟨upd_same, upd_oth B.nx B.hD, B.nn, B.nx, B.ha.imp fun _ _ r => r.lk (LK.ins B.gx), B.k.set1⟩
theorem IniI.new {a : Ad} {H G : Hp} {x dx D q : Addr} {o : HO} {fs : List (Str × V)} {us : List V} {rows : List Row} (B : IniI a H G x dx D fs us rows) (h : G q = none) : IniI a H (upd G q o) x dx D fs us rows :=
  ⟨upd_old B.gx h, upd_old B.hD h, B.nn, B.nx, B.ha.imp fun _ _ r => r.same ((Same.refl _).new h), B.k.new h⟩
theorem Kp.none {S : Addr → Prop} {H G : Hp} {q : Addr} (k : Kp S H G) (hs : ¬ S q) (h : G q = none) : H q = none := by
  cases e : H q with
  | none => rfl
  | some o => have := k q o e hs; rw [h] at this; cases this
theorem ok_ReaderU_initU (T : Txt K mg a d) : FnOk P w K mg base CX0 3 a.ReaderU_initU d.ReaderU_initU ["self", "lines"] (spRdI a) := by
  have G_split_line : FnOk P w K mg base CX0 2 a.split_line d.split_line ["line"] spSplit := ok_split_line T
  refine T.ReaderU_initU.ok sc_ReaderU_initU (fun vs H Q E h => ?_) (fun cdv A outer s H vs Q E hr h => ?_)
  · obtain ⟨x, dx, p, zs, rfl, _⟩ := h
    rfl
  · obtain ⟨x, dx, p, zs, rfl, hx, hp, hz, lz, k⟩ := h
    have c1 := T.k_Reader
    have n1 := T.na_Reader_rows
    have n2 := T.na_Reader_at
    have n3 := T.na_Reader_starts
    have n4 := T.na_Reader_bodies
    have n5 := T.na_Reader_marks
    refine ⟨_, (pss_cons (ps_fld (pv 0) (pe_lc (own := [("line", 2)]) (tt := tYes) rfl sc_ReaderU_initU.nd (pi_list (pv 1)) (blkOk_by (own := [("line", 2)]) (N := ["self", "lines", "line"]) (sc := defScope s_ReaderU_initU) (by decide +kernel)) (fun _ _ _ _ _ => (pg_name (i := 2) sc_ReaderU_initU.nd rfl (Or.inl rfl))) (fun _ _ _ _ _ => pts_nil) (fun _ _ _ _ _ => (pe_call G_split_line (hr.mono (by omega)) (by rfl) T.g_split_line T.split_line.kp T.b_split_line .nil pass0 (pa_cons (pv 2) pa_nil)))) rfl)
  (pss_cons (ps_fld (pv 0) pe_int rfl)
  (pss_cons (ps_fld (pv 0) pe_dnewK rfl)
  (pss_cons (ps_fld (pv 0) pe_dnewK rfl)
  (pss_one (ps_fld (pv 0) (pe_lst pa_nil) rfl)))))), ?_⟩
    dsimp only [cxOf]
    walk_at "rd"
    refine ⟨⟨_, SqL.of hp⟩, fun D hD => ?_⟩
    have nDx : D ≠ x := Ne.symm (ne_of_none hx hD)
    refine lc_list (xs := zs.map V.str) (fun i G => ∃ us : List V, Same H G ∧ G D = some (.lst us) ∧ us.length = i ∧ A2 (RowAt D G) us ((zs.take i).map rowOf)) ?_ ?_ ?_ ?_
    · exact ⟨[], (Same.refl _).new hD, upd_same, rfl, .nil⟩
    · rintro i G _ ⟨us, s1, _⟩
      exact SqL.of (s1 _ _ hp)
    · rintro i v G hv ⟨us, s1, hG, lu, ha⟩
      obtain ⟨z, hzi, rfl⟩ : ∃ z, zs[i]? = some z ∧ v = V.str z := by
        rw [List.getElem?_map] at hv
        cases q : zs[i]? with
        | none => rw [q] at hv; cases hv
        | some z => rw [q] at hv; cases hv; exact ⟨z, rfl, rfl⟩
      have li : i < zs.length := (List.getElem?_eq_some_iff.mp hzi).1
      refine ⟨rfl, ?_⟩
      walk_at "rd"
      refine ⟨hz z (List.mem_of_getElem? hzi), fun G' v s2 hv => ?_⟩
      have hG' := s2 _ _ hG
      refine ⟨us, hG', by rw [sizeLine_eq]; omega, us ++ [v], (s1.trans s2).frsh hD, upd_same, by rw [List.length_append, lu]; rfl, ?_⟩
      have lk := LK.lst (o := .lst (us ++ [v])) hG'
      rw [List.take_add_one, hzi, List.map_append]
      exact (ha.imp fun _ _ r => (r.same s2).lk lk).app (.cons ((hv D (by rw [hG]; simp)).lk lk) .nil)
    · rintro G ⟨us, s1, hG, lu, ha⟩
      rw [List.length_map, List.take_length] at ha
      have gx := s1 _ _ hx
      have k1 : Kp (fun b => b = x) H G := Kp.of_same s1
      have B0 : IniI a H G x dx D [] us (zs.map rowOf) := ⟨gx, hG, hD, nDx, ha, k1⟩
      walk_at "rd"
      rw [upd_upd]
      have B1 := B0.set (fs' := [("rows", .ref D), ("at", .int 0)])
      rw [show putF "at" (V.int 0) (putF "rows" (V.ref D) []) = ([("rows", .ref D), ("at", .int 0)] : List (Str × V)) from rfl]
      generalize upd G x (.ins a.Reader dx [("rows", .ref D), ("at", .int 0)]) = H1 at B1 ⊢
      have g1 := B1.gx
      walk_at "rd"
      intro sd hsd
      have B2 := B1.new (o := .dK []) hsd
      have nsd := B1.k.none (fun z => by rw [z, g1] at hsd; cases hsd) hsd
      have xsd : sd ≠ x := fun z => by rw [z, g1] at hsd; cases hsd
      have Dsd : sd ≠ D := fun z => by rw [z, B1.hD] at hsd; cases hsd
      have s2 := upd_same (H := H1) (a := sd) (o := .dK [])
      generalize upd H1 sd (.dK []) = H2 at B2 s2 ⊢
      have g2 := B2.gx
      walk_at "rd"
      intro bd hbd
      have B3 := B2.set (fs' := [("rows", .ref D), ("at", .int 0), ("starts", .ref sd)])
      rw [show putF "starts" (V.ref sd) ([("rows", .ref D), ("at", .int 0)] : List (Str × V)) = ([("rows", .ref D), ("at", .int 0), ("starts", .ref sd)] : List (Str × V)) from rfl] at hbd ⊢
      have s3 := upd_oth (o := .ins a.Reader dx [("rows", .ref D), ("at", .int 0), ("starts", .ref sd)]) xsd s2
      generalize upd H2 x (.ins a.Reader dx [("rows", .ref D), ("at", .int 0), ("starts", .ref sd)]) = H3 at B3 s3 hbd ⊢
      have B4 := B3.new (o := .dK []) hbd
      have xbd : bd ≠ x := fun z => by rw [z, B3.gx] at hbd; cases hbd
      have Dbd : bd ≠ D := fun z => by rw [z, B3.hD] at hbd; cases hbd
      have sbd : sd ≠ bd := ne_of_none s3 hbd
      have nbd := B3.k.none xbd hbd
      have s4 := upd_old (o := .dK []) s3 hbd
      have b4 := upd_same (H := H3) (a := bd) (o := .dK [])
      generalize upd H3 bd (.dK []) = H4 at B4 s4 b4 ⊢
      have g4 := B4.gx
      walk_at "rd"
      have B5 := B4.set (fs' := [("rows", .ref D), ("at", .int 0), ("starts", .ref sd), ("bodies", .ref bd)])
      rw [show putF "bodies" (V.ref bd) ([("rows", .ref D), ("at", .int 0), ("starts", .ref sd)] : List (Str × V)) = ([("rows", .ref D), ("at", .int 0), ("starts", .ref sd), ("bodies", .ref bd)] : List (Str × V)) from rfl]
      have s5 := upd_oth (o := .ins a.Reader dx [("rows", .ref D), ("at", .int 0), ("starts", .ref sd), ("bodies", .ref bd)]) xsd s4
      have b5 := upd_oth (o := .ins a.Reader dx [("rows", .ref D), ("at", .int 0), ("starts", .ref sd), ("bodies", .ref bd)]) xbd b4
      generalize upd H4 x (.ins a.Reader dx [("rows", .ref D), ("at", .int 0), ("starts", .ref sd), ("bodies", .ref bd)]) = H5 at B5 s5 b5 ⊢
      have g5 := B5.gx
      walk_at "rd"
      intro ml hml
      have B6 := B5.new (o := .lst []) hml
      have nml := B5.k.none (fun z => by rw [z, g5] at hml; cases hml) hml
      have xml : ml ≠ x := fun z => by rw [z, g5] at hml; cases hml
      have Dml : D ≠ ml := ne_of_none B5.hD hml
      have s6 := upd_old (o := .lst []) s5 hml
      have b6 := upd_old (o := .lst []) b5 hml
      have m6 := upd_same (H := H5) (a := ml) (o := .lst [])
      have ha6 := B5.ha.imp fun _ _ r => r.re hml
      have ha7 := ha6.imp fun _ _ r => r.same ((Same.refl _).new (o := .lst []) hml)
      have ha8 := ha7.imp fun _ _ r => r.lk (LK.ins (o := .ins a.Reader dx (rdF ⟨x, dx, D, sd, bd, ml⟩ 0)) B6.gx)
      have g6 := B6.gx
      generalize upd H5 ml (.lst []) = H6 at B6 s6 b6 m6 ha8 g6 ⊢
      walk_at "rd"
      have B7 := B6.set (fs' := rdF ⟨x, dx, D, sd, bd, ml⟩ 0)
      exact k _ ⟨x, dx, D, sd, bd, ml⟩ ⟨⟨B7.gx, ⟨us, B7.hD, ha8⟩, ⟨[], upd_oth xml m6, .nil⟩, Dml, Nat.zero_le _, rowsOk hz lz⟩, upd_oth xsd s6, upd_oth xbd b6, sbd⟩ rfl B7.k nml nsd nbd
/-! ### the statements of a body; parts_of -/
def Stm.hd : Stm → Hd | .mk h _ => h
def Stm.ps : Stm → List (List Stm) | .mk _ ps => ps
def isG : Hd → Bool | .gua _ => true | _ => false
mutual
def lsS (g : Bool) : Stm → List (Stm × Bool)
  | .mk h ps => (.mk h ps, g) :: lsP (g || isG h) ps
def lsP (g : Bool) : List (List Stm) → List (Stm × Bool)
  | [] => []
  | b :: r => lsB g b ++ lsP g r
def lsB (g : Bool) : List Stm → List (Stm × Bool)
  | [] => []
  | s :: r => lsS g s ++ lsB g r
end
mutual
def dpS : Stm → Nat
  | .mk _ ps => dpP ps + 1
def dpP : List (List Stm) → Nat
  | [] => 0
  | b :: r => max (dpB b) (dpP r)
def dpB : List Stm → Nat
  | [] => 0
  | s :: r => max (dpS s) (dpB r)
end
def HdOk : Hd → Prop
  | .sim w => w ∈ (["pass", "doom"] : List Str)
  | .one k w => k ∈ (["write", "raise", "call"] : List Str) ∧ IsWord w
  | .blk _ m ks => modeS m = true ∧ ∀ w ∈ ks, IsWord w
  | .gua k => k ∈ (["maybe", "repeat"] : List Str)
  | .tr ws _ => ∀ l, some l ∈ ws → ∀ w ∈ l, IsWord w
def BOk (b : List Stm) : Prop := ∀ g x, x ∈ lsB g b → HdOk x.1.hd
def kdS : Hd → Str
  | .sim w => w
  | .one k _ => k
  | .blk _ _ _ => "block"
  | .gua k => k
  | .tr _ _ => "try"
theorem HdAt.fst {H : Hp} : ∀ {h : Hd} {rs : List Addr} {xs : List V}, HdAt H h rs xs → ∃ t, xs = .str (kdS h) :: t
  | .sim _, _, _, ⟨_, e⟩ => ⟨_, e⟩
  | .one _ _, _, _, ⟨_, e⟩ => ⟨_, e⟩
  | .blk _ _ _, _, _, ⟨_, _, _, e, _⟩ => ⟨_, e⟩
  | .gua _, _, _, ⟨_, _, e⟩ => ⟨_, e⟩
  | .tr _ _, _, _, ⟨_, _, _, _, _, e, _⟩ => ⟨_, e⟩
theorem in3 {k : Str} (h : k ∈ (["write", "raise", "call"] : List Str)) : k = "write" ∨ k = "raise" ∨ k = "call" := by simpa using h
theorem in2 {k : Str} (h : k ∈ (["pass", "doom"] : List Str)) : k = "pass" ∨ k = "doom" := by simpa using h
theorem inG {k : Str} (h : k ∈ (["maybe", "repeat"] : List Str)) : k = "maybe" ∨ k = "repeat" := by simpa using h
theorem HdOk.blk : ∀ {h : Hd}, HdOk h → kdS h = "block" → ∃ n m ks, h = .blk n m ks
  | .sim w, o, e => by rcases in2 o with z | z <;> (rw [show kdS (.sim w) = w from rfl, z] at e; exact absurd e (by decide))
  | .one k w, o, e => by rcases in3 o.1 with z | z | z <;> (rw [show kdS (.one k w) = k from rfl, z] at e; exact absurd e (by decide))
  | .blk _ _ _, _, _ => ⟨_, _, _, rfl⟩
  | .gua k, o, e => by rcases inG o with z | z <;> (rw [show kdS (.gua k) = k from rfl, z] at e; exact absurd e (by decide))
  | .tr _ _, _, e => by rw [show kdS (.tr _ _) = "try" from rfl] at e; exact absurd e (by decide)
theorem HdOk.tr : ∀ {h : Hd}, HdOk h → kdS h = "try" → ∃ ws fin, h = .tr ws fin
  | .sim w, o, e => by rcases in2 o with z | z <;> (rw [show kdS (.sim w) = w from rfl, z] at e; exact absurd e (by decide))
  | .one k w, o, e => by rcases in3 o.1 with z | z | z <;> (rw [show kdS (.one k w) = k from rfl, z] at e; exact absurd e (by decide))
  | .blk _ _ _, _, e => by rw [show kdS (.blk _ _ _) = "block" from rfl] at e; exact absurd e (by decide)
  | .gua k, o, e => by rcases inG o with z | z <;> (rw [show kdS (.gua k) = k from rfl, z] at e; exact absurd e (by decide))
  | .tr _ _, _, _ => ⟨_, _, rfl⟩
/-- maybe and repeat are the only ones with these words -/
theorem HdOk.gu : ∀ {h : Hd}, HdOk h → decide (kdS h ∈ (["maybe", "repeat"] : List Str)) = isG h
  | .sim w, o => by rcases in2 o with z | z <;> (subst z; rfl)
  | .one k w, o => by rcases in3 o.1 with z | z | z <;> (subst z; rfl)
  | .blk _ _ _, _ => rfl
  | .gua k, o => by rcases inG o with z | z <;> (subst z; rfl)
  | .tr _ _, _ => rfl
theorem HdOk.leaf : ∀ {h : Hd}, HdOk h → kdS h ≠ "block" → isG h = false → kdS h ≠ "try" → ∀ {H : Hp} {rs : List Addr} {xs : List V}, HdAt H h rs xs → rs = []
  | .sim _, _, _, _, _, _, _, _, ⟨e, _⟩ => e
  | .one _ _, _, _, _, _, _, _, _, ⟨e, _⟩ => e
  | .blk _ _ _, _, e, _, _, _, _, _, _ => absurd rfl e
  | .gua _, _, _, e, _, _, _, _, _ => by cases e
  | .tr _ _, _, _, _, e, _, _, _, _ => absurd rfl e
theorem A2.map_snd {α β γ : Type} {R : α → β × γ → Prop} : ∀ {xs : List α} {ys : List (β × γ)}, A2 R xs ys → A2 (fun x z => ∃ y, R x (y, z)) xs (ys.map (·.2))
  | _, _, .nil => .nil
  | _, _, .cons h t => .cons ⟨_, h⟩ (A2.map_snd t)
def spParts : Sp := fun vs H Q _ => ∃ (h : Hd) (ps : List (List Stm)) (v : V), vs = [v] ∧ SAt H (.mk h ps) v ∧ HdOk h ∧ ps.length ≤ 100000 ∧
  ∀ H' l rs, Same H H' → H' l = some (.lst (rs.map V.ref)) → PsAt H' ps rs → Q (.ref l) H'
theorem PsAt.len {H : Hp} : ∀ {b : List (List Stm)} {rs : List Addr}, PsAt H b rs → rs.length = b.length
  | [], _, h => by
    have h : _ = ([] : List Addr) := h
    subst h; rfl
  | _ :: _, _, ⟨y, rt, vs, h1, _, _, h5⟩ => by
    subst h1
    exact congrArg Nat.succ (PsAt.len h5)
theorem ok_parts_of (T : Txt K mg a d) : FnOk P w K mg base CX0 2 a.parts_of d.parts_of ["statement"] spParts := by
  refine T.parts_of.ok sc_parts_of (fun vs H Q E h => ?_) (fun cdv A outer s H vs Q E hr h => ?_)
  · obtain ⟨_, _, v, rfl, _⟩ := h
    rfl
  · obtain ⟨h, ps, v, rfl, ⟨p, xs, rs, rfl, hp, hh, hps⟩, hok, lps, k⟩ := h
    refine ⟨_, (pss_cons (ps_if (pt_cmpR op_eq (pe_ix ix_tup (pv 0) pe_int (fun _ _ => rfl)) pe_str (nomark _)) (pss_one (ps_ret (pe_lst (pa_cons (pe_ix ix_tup (pv 0) pe_int (fun _ _ => rfl)) pa_nil)))) pss_nil)
  (pss_cons (ps_if (pt_cmpR op_in_seq (pe_ix ix_tup (pv 0) pe_int (fun _ _ => rfl)) (pe_tup (pa_cons pe_str (pa_cons pe_str pa_nil))) (by rfl)) (pss_one (ps_ret (pe_lst (pa_cons (pe_ix ix_tup (pv 0) pe_int (fun _ _ => rfl)) pa_nil)))) pss_nil)
  (pss_cons (ps_if (pt_cmpR op_ne (pe_ix ix_tup (pv 0) pe_int (fun _ _ => rfl)) pe_str (nomark _)) (pss_one (ps_ret (pe_lst pa_nil))) pss_nil)
  (pss_cons (ps_set (i := 1) sc_parts_of.nd rfl (Or.inl rfl) (pe_op op_cat (pe_lst (pa_cons (pe_ix ix_tup (pv 0) pe_int (fun _ _ => rfl)) pa_nil)) (pe_lc (own := [("words", 2), ("body", 3)]) (tt := tYes) rfl sc_parts_of.nd (pi_tup (pe_ix ix_tup (pv 0) pe_int (fun _ _ => rfl))) (blkOk_by (own := [("words", 2), ("body", 3)]) (N := ["statement", "found", "words", "body"]) (sc := defScope s_parts_of) (by decide +kernel)) (fun _ _ _ _ _ => (pg_tupK (K := K) 2 rfl rfl (pgs_cons (pg_name (i := 2) sc_parts_of.nd rfl (Or.inl rfl)) (pgs_cons (pg_name (i := 3) sc_parts_of.nd rfl (Or.inl rfl)) pgs_nil)))) (fun _ _ _ _ _ => pts_nil) (fun _ _ _ _ _ => (pv 3)))))
  (pss_one (ps_ret (pe_ifExp (pt_cmpR op_isN (pe_ix ix_tup (pv 0) pe_int (fun _ _ => rfl)) pe_non (nomark _)) (pv 1) (pe_op op_cat (pv 1) (pe_lst (pa_cons (pe_ix ix_tup (pv 0) pe_int (fun _ _ => rfl)) pa_nil)))))))))), ?_⟩
    dsimp only [cxOf]
    have a0 : ∀ (x : V) (t : List V), atI (x :: t) 0 = some x := fun x t => (atI_nat rfl : atI (x :: t) ((0 : Nat) : Int) = _)
    have a1 : ∀ (y x : V) (t : List V), atI (y :: x :: t) 1 = some x := fun y x t => (atI_nat rfl : atI (y :: x :: t) ((1 : Nat) : Int) = _)
    have a2 : ∀ (z y x : V) (t : List V), atI (z :: y :: x :: t) 2 = some x := fun z y x t => (atI_nat rfl : atI (z :: y :: x :: t) ((2 : Nat) : Int) = _)
    have a3 : ∀ (u z y x : V) (t : List V), atI (u :: z :: y :: x :: t) 3 = some x := fun u z y x t => (atI_nat rfl : atI (u :: z :: y :: x :: t) ((3 : Nat) : Int) = _)
    have a4 : ∀ (q u z y x : V) (t : List V), atI (q :: u :: z :: y :: x :: t) 4 = some x := fun q u z y x t => (atI_nat rfl : atI (q :: u :: z :: y :: x :: t) ((4 : Nat) : Int) = _)
    have fin : ∀ {rs : List Addr} {l : Addr}, PsAt H ps rs → H l = none → Q (.ref l) (upd H l (.lst (rs.map V.ref))) := fun hps hl =>
      k _ _ _ ((Same.refl H).new hl) upd_same (PsAt.tup (TupK.of_same ((Same.refl H).new hl)) hps)
    obtain ⟨t, rfl⟩ := hh.fst
    have b0 := a0 (.str (kdS h)) t
    walk_at "rd"
    refine ite2 (fun c1 => ?_) (fun c1 => ?_)
    · obtain ⟨n, m, ks, rfl⟩ := hok.blk (V.str.inj (of_decide_eq_true c1))
      obtain ⟨q, r, rfl, e, _⟩ := hh
      rw [e] at hp b0
      have b4 := a4 (.str "block") (.int (n : Int)) (.str m) (.ref q) (.ref r) []
      walk_at "rd"
      intro l hl
      exact fin hps hl
    have d1 : kdS h ≠ "block" := fun e => c1 (decide_eq_true (by rw [e]))
    walk_at "rd"
    intro p2 hp2
    have s2 := (Same.refl H).new (o := .tup [.str "maybe", .str "repeat"]) hp2
    have e2 := upd_same (H := H) (a := p2) (o := .tup [.str "maybe", .str "repeat"])
    have hp2 := s2 _ _ hp
    have hps2 := hps.tup (TupK.of_same s2)
    have fin := fun {rs l} x y => k (upd (upd H p2 (.tup [.str "maybe", .str "repeat"])) l (.lst (rs.map V.ref))) l rs (s2.new x) upd_same y
    generalize upd H p2 (.tup [.str "maybe", .str "repeat"]) = H2 at s2 e2 hp2 hps2 fin ⊢
    refine ⟨p2, _, rfl, .inr (SqT.of e2), rfl, rfl, _, rfl, ?_⟩
    rw [show (if false = true then !inV (V.str (kdS h)) [.str "maybe", .str "repeat"] else inV (V.str (kdS h)) [.str "maybe", .str "repeat"]) = decide (kdS h ∈ (["maybe", "repeat"] : List Str)) from inV_strL (l := ["maybe", "repeat"])]
    rw [hok.gu]
    refine ite2 (fun c2 => ?_) (fun c2 => ?_)
    · cases h with
      | gua kd =>
        obtain ⟨r, rfl, e⟩ := hh
        rw [e] at hp2
        have b1 := a1 (.str kd) (.ref r) []
        walk_at "rd"
        intro l hl
        exact fin hl (hps2.tup (TupK.of_same ((Same.refl H2).new hl)))
      | _ => cases c2
    have b0 := a0 (.str (kdS h)) t
    walk_at "rd"
    by_cases d3 : kdS h = "try"
    · rw [decide_eq_true (show V.str (kdS h) = V.str "try" by rw [d3])]
      refine iteF ?_
      obtain ⟨ws, fn, rfl⟩ := hok.tr d3
      obtain ⟨r0, rr, q, ts, fv, e, hq, hts, lrr, hf⟩ := hh
      rw [e] at hp2
      have b1 := a1 (.str "try") (.ref r0) [.ref q, fv]
      have b2 := a2 (.str "try") (.ref r0) (.ref q) [fv]
      have b3 := a3 (.str "try") (.ref r0) (.ref q) fv []
      have hq2 := s2 _ _ hq
      have hts2 : A2 (fun t r => ∃ lv, H2 t = some (.tup [lv, .ref r])) ts rr := by
        have := A2.map_snd (hts.imp fun t p ⟨lv, z, _⟩ => (⟨lv, s2 _ _ z⟩ : ∃ lv, H2 t = some (HO.tup [lv, V.ref p.2])))
        rw [List.map_snd_zip (by omega)] at this
        exact this.imp fun t r ⟨_, z⟩ => z
      have lts := hts2.len
      have lr2 : rr.length < 100000 := by
        have := hps.len
        by_cases z : fn = true
        · rw [if_pos z] at hf
          obtain ⟨r1, _, rfl⟩ := hf
          rw [List.length_append, List.length_cons] at this
          simp at this
          omega
        · rw [if_neg z] at hf
          obtain ⟨_, rfl⟩ := hf
          rw [List.length_cons] at this
          omega
      walk_at "rd"
      intro l1 hl1
      have s3 := (Same.refl H2).new (o := .lst [.ref r0]) hl1
      have e3 := upd_same (H := H2) (a := l1) (o := .lst [.ref r0])
      have hp3 := s3 _ _ hp2
      have hq3 := s3 _ _ hq2
      have hts3 := hts2.imp fun t r ⟨lv, z⟩ => (⟨lv, s3 _ _ z⟩ : ∃ lv, upd H2 l1 (.lst [.ref r0]) t = some (HO.tup [lv, V.ref r]))
      have s23 := s2.trans s3
      have hps3 := hps2.tup (TupK.of_same s3)
      generalize upd H2 l1 (.lst [.ref r0]) = H3 at s23 e3 hp3 hq3 hts3 hps3 ⊢
      walk_at "rd"
      refine ⟨⟨_, SqT.of hq3⟩, fun D hD => ?_⟩
      refine lc_tup (xs := ts.map V.ref) (fun i G => Same H3 G ∧ G D = some (.lst ((rr.take i).map V.ref))) ?_ ?_ ?_ ?_
      · exact ⟨(Same.refl _).new hD, upd_same⟩
      · rintro i G _ ⟨s4, _⟩
        exact SqT.of (s4 _ _ hq3)
      · rintro i v G hv ⟨s4, hG⟩
        obtain ⟨t, hti, rfl⟩ : ∃ t, ts[i]? = some t ∧ v = V.ref t := by
          rw [List.getElem?_map] at hv
          cases q : ts[i]? with
          | none => rw [q] at hv; cases hv
          | some t => rw [q] at hv; cases hv; exact ⟨t, rfl, rfl⟩
        have li : i < ts.length := (List.getElem?_eq_some_iff.mp hti).1
        obtain ⟨r, hri, lv, htr⟩ := hts3.at hti
        have htr4 := s4 _ _ htr
        walk_at "rd"
        refine ⟨by rw [List.length_map, List.length_take, sizeLine_eq]; omega, s4.frsh hD, ?_⟩
        rw [upd_same, List.take_add_one, hri, List.map_append]; rfl
      · rintro G ⟨s4, hG⟩
        rw [List.length_map, List.take_of_length_le (by omega)] at hG
        have e4 := s4 _ _ e3
        have hp4 := s4 _ _ hp3
        have hps4 := hps3.tup (TupK.of_same s4)
        have s24 := s23.trans s4
        walk_at "rd"
        refine ⟨by rw [List.length_map, sizeLine_eq]; simp only [List.length_cons, List.length_nil]; omega, fun l5 hl5 => ?_⟩
        rw [show [V.ref r0] ++ rr.map V.ref = (r0 :: rr).map V.ref from rfl]
        have s5 := (Same.refl G).new (o := .lst ((r0 :: rr).map V.ref)) hl5
        have e5 := upd_same (H := G) (a := l5) (o := .lst ((r0 :: rr).map V.ref))
        have s25 := s24.trans s5
        have hp5 := s5 _ _ hp4
        have hps5 := hps4.tup (TupK.of_same s5)
        generalize upd G l5 (.lst ((r0 :: rr).map V.ref)) = H5 at s25 e5 hp5 hps5 ⊢
        walk_at "rd"
        by_cases z : fn = true
        · rw [if_pos z] at hf
          obtain ⟨r1, rfl, rfl⟩ := hf
          refine iteF ?_
          walk_at "rd"
          intro l6 hl6
          have s6 := (Same.refl H5).new (o := .lst [.ref r1]) hl6
          have e6 := upd_same (H := H5) (a := l6) (o := .lst [.ref r1])
          have g5 := s6 _ _ e5
          have s26 := s25.trans s6
          have hps6 := hps5.tup (TupK.of_same s6)
          generalize upd H5 l6 (.lst [.ref r1]) = H6 at s26 e6 g5 hps6 ⊢
          walk_at "rd"
          refine ⟨by rw [List.length_map, List.length_cons, sizeLine_eq]; simp only [List.length_cons, List.length_nil]; omega, fun l7 hl7 => ?_⟩
          have s7 := (Same.refl H6).new (o := .lst ((r0 :: rr).map V.ref ++ [.ref r1])) hl7
          exact k _ _ (r0 :: rr ++ [r1]) (s26.trans s7) (by rw [upd_same, List.map_append]; rfl) (hps6.tup (TupK.of_same s7))
        · rw [if_neg z] at hf
          obtain ⟨rfl, rfl⟩ := hf
          refine iteT ?_
          walk_at "rd"
          exact k _ _ (r0 :: rr) s25 e5 hps5
    · rw [decide_eq_false (fun e => d3 (V.str.inj e))]
      refine iteT ?_
      walk_at "rd"
      intro l hl
      have e := hok.leaf (fun e => c1 (decide_eq_true (by rw [e]))) (by simpa using c2) d3 hh
      subst e
      exact fin hl (hps2.tup (TupK.of_same ((Same.refl H2).new hl)))
/-! ### listed_statements -/
theorem bd1_ls0 (T : Txt K mg a d) : ∃ ds, Vals [V.bl false] ds ∧ Binds K d.listed_statements ["body", "is_guarded"] ds :=
  T.listed_statements.binds1 (ps := ["body", "is_guarded"]) 1 0 (by simp) rfl (fun D kV doc pm an cdv ct us its hu hi => match us, hu, its, hi with | [_], _, [_], _ => ⟨_, rfl, rfl⟩)
theorem bd2_ls0 (T : Txt K mg a d) : ∃ ds, Vals ([] : List V) ds ∧ Binds K d.listed_statements ["body", "is_guarded"] ds :=
  T.listed_statements.binds1 (ps := ["body", "is_guarded"]) 2 1 (by simp) rfl (fun D kV doc pm an cdv ct us its hu hi => match us, hu, its, hi with | [_, _], _, [_], _ => ⟨_, rfl, rfl⟩)
theorem lsB_app (g : Bool) : ∀ b c : List Stm, lsB g (b ++ c) = lsB g b ++ lsB g c
  | [], _ => by simp [lsB]
  | s :: r, c => by rw [List.cons_append, lsB, lsB, lsB_app g r c, List.append_assoc]
theorem lsP_app (g : Bool) : ∀ b c : List (List Stm), lsP g (b ++ c) = lsP g b ++ lsP g c
  | [], _ => by simp [lsP]
  | s :: r, c => by rw [List.cons_append, lsP, lsP, lsP_app g r c, List.append_assoc]
theorem lsB_one (g : Bool) (s : Stm) : lsB g [s] = lsS g s := by simp [lsB]
theorem lsP_one (g : Bool) (b : List Stm) : lsP g [b] = lsB g b := by simp [lsP]
mutual
theorem lsS_len (g : Bool) : ∀ s : Stm, (lsS g s).length = (lsS false s).length
  | .mk h ps => by rw [lsS, lsS, List.length_cons, List.length_cons, lsP_len, lsP_len (false || isG h)]
theorem lsP_len (g : Bool) : ∀ ps : List (List Stm), (lsP g ps).length = (lsP false ps).length
  | [] => rfl
  | b :: r => by rw [lsP, lsP, List.length_append, List.length_append, lsB_len g b, lsP_len g r]
theorem lsB_len (g : Bool) : ∀ b : List Stm, (lsB g b).length = (lsB false b).length
  | [] => rfl
  | s :: r => by rw [lsB, lsB, List.length_append, List.length_append, lsS_len g s, lsB_len g r]
end
def cntB (b : List Stm) : Nat := (lsB false b).length
def SOk (s : Stm) : Prop := HdOk s.hd ∧ ∀ b ∈ s.ps, b ≠ []
theorem lsP_big (g : Bool) : ∀ ps : List (List Stm), (∀ b ∈ ps, b ≠ []) → ps.length ≤ (lsP g ps).length
  | [], _ => Nat.le_refl _
  | b :: r, h => by
    have := lsP_big g r fun c hc => h c (List.mem_cons_of_mem _ hc)
    cases b with
    | nil => exact absurd rfl (h _ List.mem_cons_self)
    | cons s t =>
      cases s with
      | mk hd qs =>
        rw [lsP, lsB, lsS, List.length_append, List.length_append, List.length_cons, List.length_cons]
        omega
mutual
theorem lsS_ok (g g' : Bool) : ∀ s : Stm, (∀ x ∈ lsS g s, SOk x.1) → ∀ x ∈ lsS g' s, SOk x.1
  | .mk h ps, o, x, hx => by
    rw [lsS] at o hx
    rcases List.mem_cons.mp hx with rfl | hx
    · exact o (.mk h ps, g) List.mem_cons_self
    · exact lsP_ok _ _ ps (fun y hy => o y (List.mem_cons_of_mem _ hy)) x hx
theorem lsP_ok (g g' : Bool) : ∀ ps : List (List Stm), (∀ x ∈ lsP g ps, SOk x.1) → ∀ x ∈ lsP g' ps, SOk x.1
  | [], _, x, hx => nomatch hx
  | b :: r, o, x, hx => by
    rw [lsP] at o hx
    rcases List.mem_append.mp hx with hx | hx
    · exact lsB_ok _ _ b (fun y hy => o y (List.mem_append_left _ hy)) x hx
    · exact lsP_ok _ _ r (fun y hy => o y (List.mem_append_right _ hy)) x hx
theorem lsB_ok (g g' : Bool) : ∀ b : List Stm, (∀ x ∈ lsB g b, SOk x.1) → ∀ x ∈ lsB g' b, SOk x.1
  | [], _, x, hx => nomatch hx
  | s :: r, o, x, hx => by
    rw [lsB] at o hx
    rcases List.mem_append.mp hx with hx | hx
    · exact lsS_ok _ _ s (fun y hy => o y (List.mem_append_left _ hy)) x hx
    · exact lsB_ok _ _ r (fun y hy => o y (List.mem_append_right _ hy)) x hx
end
theorem lsP_mem {g : Bool} {b : List Stm} : ∀ {ps : List (List Stm)}, b ∈ ps → ∀ x ∈ lsB g b, x ∈ lsP g ps
  | c :: r, h, x, hx => by
    rw [lsP]
    rcases List.mem_cons.mp h with rfl | h
    · exact List.mem_append_left _ hx
    · exact List.mem_append_right _ (lsP_mem h x hx)
theorem lsB_mem {g : Bool} {s : Stm} : ∀ {b : List Stm}, s ∈ b → ∀ x ∈ lsS g s, x ∈ lsB g b
  | c :: r, h, x, hx => by
    rw [lsB]
    rcases List.mem_cons.mp h with rfl | h
    · exact List.mem_append_left _ hx
    · exact List.mem_append_right _ (lsB_mem h x hx)
theorem dpP_le {b : List Stm} : ∀ {ps : List (List Stm)}, b ∈ ps → dpB b ≤ dpP ps
  | c :: r, h => by
    rw [dpP]
    rcases List.mem_cons.mp h with rfl | h
    · omega
    · have := dpP_le h; omega
theorem dpB_le {s : Stm} : ∀ {b : List Stm}, s ∈ b → dpS s ≤ dpB b
  | c :: r, h => by
    rw [dpB]
    rcases List.mem_cons.mp h with rfl | h
    · omega
    · have := dpB_le h; omega
theorem lsP_ge (g : Bool) : ∀ ps : List (List Stm), ∀ b ∈ ps, (lsB g b).length ≤ (lsP g ps).length
  | c :: r, b, h => by
    rw [lsP, List.length_append]
    rcases List.mem_cons.mp h with rfl | h
    · omega
    · have := lsP_ge g r b h; omega
theorem lsB_tk (g : Bool) {b : List Stm} {i : Nat} {s : Stm} (h : b[i]? = some s) : lsB g (b.take (i + 1)) = lsB g (b.take i) ++ lsS g s := by
  rw [List.take_add_one, h, lsB_app]
  exact congrArg _ (lsB_one g s)
theorem lsP_tk (g : Bool) {b : List (List Stm)} {i : Nat} {s : List Stm} (h : b[i]? = some s) : lsP g (b.take (i + 1)) = lsP g (b.take i) ++ lsB g s := by
  rw [List.take_add_one, h, lsP_app]
  exact congrArg _ (lsP_one g s)
theorem BAt.at {H : Hp} : ∀ {b : List Stm} {vs : List V} {i : Nat} {v : V}, BAt H b vs → vs[i]? = some v → ∃ s, b[i]? = some s ∧ SAt H s v
  | [], _, _, _, h, e => by
    have h : _ = ([] : List V) := h
    subst h; cases e
  | s :: r, _, 0, _, ⟨v, vt, h1, h3, h4⟩, e => by
    subst h1
    cases e
    exact ⟨s, rfl, h3⟩
  | s :: r, _, i + 1, _, ⟨v, vt, h1, h3, h4⟩, e => by
    subst h1
    exact BAt.at (b := r) (i := i) h4 e
theorem PsAt.at {H : Hp} : ∀ {b : List (List Stm)} {vs : List Addr} {i : Nat} {v : Addr}, PsAt H b vs → vs[i]? = some v → ∃ s us, b[i]? = some s ∧ H v = some (.tup us) ∧ BAt H s us
  | [], _, _, _, h, e => by
    have h : _ = ([] : List Addr) := h
    subst h; cases e
  | s :: r, _, 0, _, ⟨y, rt, vs, h1, h3, h4, h5⟩, e => by
    subst h1
    cases e
    exact ⟨s, vs, rfl, h3, h4⟩
  | s :: r, _, i + 1, _, ⟨y, rt, vs, h1, h3, h4, h5⟩, e => by
    subst h1
    exact PsAt.at (b := r) (i := i) h5 e
def PairAt (H : Hp) (t : Addr) (x : Stm × Bool) : Prop := ∃ v, H t = some (.tup [v, .bl x.2]) ∧ SAt H x.1 v
theorem PairAt.tup {H H' : Hp} {t : Addr} {x : Stm × Bool} (e : TupK H H') (h : PairAt H t x) : PairAt H' t x := by
  obtain ⟨v, h1, h2⟩ := h
  exact ⟨v, e _ _ h1, h2.tup e⟩
def spListed (n : Nat) : Sp := fun vs H Q _ => ∃ (_ : Unit) (b : List Stm) (g : Bool) (p : Addr) (us : List V), vs = [.ref p, .bl g] ∧ H p = some (.tup us) ∧ BAt H b us ∧ (∀ x ∈ lsB g b, SOk x.1) ∧ dpB b < n ∧ (lsB g b).length ≤ 100000 ∧
  ∀ H' l ts, Same H H' → H' l = some (.lst (ts.map V.ref)) → H l = none → A2 (PairAt H') ts (lsB g b) → Q (.ref l) H'
theorem ok_listed_succ (T : Txt K mg a d) (n : Nat) (G_listed_statements : FnOk P w K mg base CX0 (n + 4) a.listed_statements d.listed_statements ["body", "is_guarded"] (spListed n)) : FnOk P w K mg base CX0 (n + 1 + 4) a.listed_statements d.listed_statements ["body", "is_guarded"] (spListed (n + 1)) := by
  have G_parts_of : FnOk P w K mg base CX0 2 a.parts_of d.parts_of ["statement"] spParts := ok_parts_of T
  obtain ⟨_, vd2_ls, bd2_ls⟩ := bd2_ls0 T
  refine funD_ok (k := n + 4) T.listed_statements sc_listed_statements (fun vs H Q E h => ?_) (fun cdv A outer s H vs Q E hr h => ?_)
  · obtain ⟨_, _, _, _, _, rfl, _⟩ := h
    rfl
  · obtain ⟨_, b, g, p, us, rfl, hp, hb, hok, hd, hl, k⟩ := h
    refine ⟨_, (pss_cons (ps_set (i := 2) sc_listed_statements.nd rfl (Or.inl rfl) (pe_lst pa_nil))
  (pss_cons (ps_for PassesOwn.never rfl (pi_tup (pv 0)) (pg_name (i := 3) sc_listed_statements.nd rfl (Or.inl rfl))
  (pss_cons (ps_expr (pe_bm PySem.F.plainAttrs_list PySem.F.slot_list_append PySem.F.type_list_append mt_append (pv 2) (pa_cons (pe_tup (pa_cons (pv 3) (pa_cons (pv 1) pa_nil))) pa_nil)))
  (pss_one (ps_for PassesOwn.never rfl (pi_list (pe_call G_parts_of (hr.mono (by omega)) (by rfl) T.g_parts_of T.parts_of.kp T.b_parts_of .nil pass0 (pa_cons (pv 3) pa_nil))) (pg_name (i := 4) sc_listed_statements.nd rfl (Or.inl rfl))
  (pss_one (ps_set (i := 2) sc_listed_statements.nd rfl (Or.inl rfl) (pe_op op_cat (pv 2) (pe_call G_listed_statements (hr.mono (by omega)) (by rfl) T.g_listed_statements T.listed_statements.kp bd2_ls vd2_ls pass0 (pa_cons (pv 4) (pa_cons (pe_or (pv 1) (pe_one (pe_cmpR op_in_seq (pe_ix ix_tup (pv 3) pe_int (fun _ _ => rfl)) (pe_tup (pa_cons pe_str (pa_cons pe_str pa_nil))) (by rfl)))) pa_nil))))))))))
  (pss_one (ps_ret (pv 2))))), ?_⟩
    dsimp only [cxOf]
    have lub := hb.len
    walk_at "rd"
    intro D0 hD0
    have S0 := (Same.refl H).new (o := .lst []) hD0
    have e0 := upd_same (H := H) (a := D0) (o := .lst [])
    generalize upd H D0 (.lst []) = H0 at S0 e0 ⊢
    walk_at "rd"
    refine ⟨⟨_, SqT.of (S0 _ _ hp)⟩, ?_⟩
    refine for_tup (xs := us) (fun i σ G => ∃ (_ : Unit) (D : Addr) (ts : List Addr) (o3 o4 : Option V), σ = [some (.ref p), some (.bl g), some (.ref D), o3, o4] ∧ Same H G ∧ H D = none ∧ G D = some (.lst (ts.map V.ref)) ∧ A2 (PairAt G) ts (lsB g (b.take i))) ?_ ?_ ?_ ?_
    · exact ⟨(), D0, [], none, none, rfl, S0, hD0, e0, .nil⟩
    · rintro i σ G _ ⟨_, D, ts, o3, o4, rfl, S, _⟩
      exact SqT.of (S _ _ hp)
    · rintro i v σ G hv ⟨_, D, ts, o3, o4, rfl, S, hD, eD, A⟩
      obtain ⟨⟨h, ps⟩, hbi, hs⟩ := hb.at hv
      have hs := hs.tup (TupK.of_same S)
      obtain ⟨q, xs, rs, rfl, hq, hh, hps⟩ := hs
      have lts := A.len
      have htk := lsB_tk g hbi
      have llen : (lsB g (b.take i)).length + (lsS g (.mk h ps)).length ≤ 100000 := by
        have e : lsB g b = lsB g (b.take (i + 1)) ++ lsB g (b.drop (i + 1)) := by rw [← lsB_app, List.take_append_drop]
        rw [e, List.length_append, htk, List.length_append] at hl
        omega
      have hmem : Stm.mk h ps ∈ b := List.mem_of_getElem? hbi
      obtain ⟨hoh, hne⟩ : HdOk h ∧ ∀ b ∈ ps, b ≠ [] := hok (.mk h ps, g) (lsB_mem hmem _ (by rw [lsS]; exact List.mem_cons_self))
      have hokP : ∀ x ∈ lsP (g || isG h) ps, SOk x.1 := fun x hx => hok x (lsB_mem hmem _ (by rw [lsS]; exact List.mem_cons_of_mem _ hx))
      have hdP : dpP ps < n := by have := dpB_le hmem; rw [dpS] at this; omega
      have lS : (lsS g (.mk h ps)).length = (lsP (g || isG h) ps).length + 1 := by rw [lsS, List.length_cons]
      walk_at "rd"
      intro t ht
      have s1 := (Same.refl G).new (o := .tup [.ref q, .bl g]) ht
      have S1 := S.trans s1
      have eD1 := s1 _ _ eD
      have t1 := upd_same (H := G) (a := t) (o := .tup [.ref q, .bl g])
      have A1 := A.imp fun _ _ r => r.tup (TupK.of_same s1)
      have hq1 := s1 _ _ hq
      have hps1 := hps.tup (TupK.of_same s1)
      have hh1 := hh.tup (TupK.of_same s1)
      generalize upd G t (.tup [.ref q, .bl g]) = G1 at S1 eD1 t1 A1 hq1 hps1 hh1 ⊢
      walk_at "rd"
      refine ⟨by rw [List.length_map, sizeLine_eq]; omega, ?_⟩
      have k2 : TupK G1 (upd G1 D (.lst (ts.map V.ref ++ [.ref t]))) := TupK.set eD1
      have S2 : Same H (upd G1 D (.lst (ts.map V.ref ++ [.ref t]))) := S1.frsh hD
      have eD2 := upd_same (H := G1) (a := D) (o := .lst (ts.map V.ref ++ [.ref t]))
      have A2' : A2 (PairAt (upd G1 D (.lst (ts.map V.ref ++ [.ref t])))) (ts ++ [t]) (lsB g (b.take i) ++ [(.mk h ps, g)]) :=
        (A1.imp fun _ _ r => r.tup k2).app (.cons ⟨_, k2 _ _ t1, q, xs, rs, rfl, k2 _ _ hq1, hh1.tup k2, hps1.tup k2⟩ .nil)
      have hq2 := k2 _ _ hq1
      have hps2 := hps1.tup k2
      have hh2 := hh1.tup k2
      rw [show ts.map V.ref ++ [.ref t] = (ts ++ [t]).map V.ref by rw [List.map_append]; rfl] at S2 eD2 A2' hq2 hps2 hh2 ⊢
      generalize upd G1 D (.lst ((ts ++ [t]).map V.ref)) = G2 at S2 eD2 A2' hq2 hps2 hh2 ⊢
      have lps : ps.length ≤ 100000 := by have := lsP_big (g || isG h) ps hne; omega
      walk_at "rd"
      refine ⟨h, ps, _, rfl, ⟨q, xs, rs, rfl, hq2, hh2, hps2⟩, hoh, lps, fun G3 l rs3 s3 hl3 hps3 => ?_⟩
      have S3 := S2.trans s3
      have eD3 := s3 _ _ eD2
      have A3 := A2'.imp fun _ _ r => r.tup (TupK.of_same s3)
      have hq3 := s3 _ _ hq2
      have lrs := hps3.len
      obtain ⟨tx, rfl⟩ := hh2.fst
      refine ⟨l, rfl, ⟨_, SqL.of hl3⟩, ?_⟩
      refine for_list (xs := rs3.map V.ref) (fun j σ G => ∃ (_ : Unit) (D : Addr) (ts : List Addr) (o4 : Option V), σ = [some (.ref p), some (.bl g), some (.ref D), some (.ref q), o4] ∧ Same G3 G ∧ H D = none ∧ G D = some (.lst (ts.map V.ref)) ∧ A2 (PairAt G) ts (lsB g (b.take i) ++ [(.mk h ps, g)] ++ lsP (g || isG h) (ps.take j))) ?_ ?_ ?_ ?_
      · exact ⟨(), D, ts ++ [t], o4, rfl, Same.refl _, hD, eD3, by rw [List.take_zero, lsP, List.append_nil]; exact A3⟩
      · rintro j σ F _ ⟨_, D, ts, o4, rfl, s4, _⟩
        exact SqL.of (s4 _ _ hl3)
      · rintro j v σ F hv ⟨_, D, ts, o4, rfl, s4, hD, eD, A⟩
        obtain ⟨r, hrj, rfl⟩ : ∃ r, rs3[j]? = some r ∧ v = V.ref r := by
          rw [List.getElem?_map] at hv
          cases e : rs3[j]? with
          | none => rw [e] at hv; cases hv
          | some r => rw [e] at hv; cases hv; exact ⟨r, rfl, rfl⟩
        obtain ⟨c, ys, hcj, hr3, hc3⟩ := hps3.at hrj
        have hq4 := s4 _ _ hq3
        have cm : c ∈ ps := List.mem_of_getElem? hcj
        have a0 : ∀ (x : V) (t : List V), atI (x :: t) 0 = some x := fun x t => (atI_nat rfl : atI (x :: t) ((0 : Nat) : Int) = _)
        have b0 := a0 (.str (kdS h)) tx
        have llj : (lsB g (b.take i) ++ [(Stm.mk h ps, g)] ++ lsP (g || isG h) (ps.take j) ++ lsB (g || isG h) c).length ≤ 100000 := by
          have e : lsP (g || isG h) ps = lsP (g || isG h) (ps.take (j + 1)) ++ lsP (g || isG h) (ps.drop (j + 1)) := by rw [← lsP_app, List.take_append_drop]
          rw [e, List.length_append, lsP_tk _ hcj, List.length_append] at lS
          rw [List.length_append, List.length_append, List.length_append]
          simp only [List.length_cons, List.length_nil]
          omega
        have tl : ∀ F', Same F F' → F' r = some (.tup ys) ∧ BAt F' c ys ∧ (∀ x ∈ lsB (g || isG h) c, SOk x.1) ∧ dpB c < n ∧ (lsB (g || isG h) c).length ≤ 100000 := fun F' s5 =>
          ⟨s5 _ _ (s4 _ _ hr3), hc3.tup ((TupK.of_same s4).trans (TupK.of_same s5)), fun x hx => hokP x (lsP_mem cm x hx), by have := dpP_le cm; omega, by have := lsP_ge (g || isG h) ps c cm; omega⟩
        walk_at "rd"
        refine ite2 (fun hg => ?_) (fun hg => ?_)
        · have eg : g = (g || isG h) := by rw [hg]; rfl
          walk_at "rd"
          obtain ⟨z1, z2, z3, z4, z5⟩ := tl _ (Same.refl F)
          refine ⟨(), c, g || isG h, r, ys, congrArg (fun v => [V.ref r, v]) (congrArg V.bl (hg.symm.trans eg)), z1, z2, z3, z4, z5, fun F6 l6 ts6 s6 hl6 nl6 A6 => ?_⟩
          have s6' := (Same.refl F).trans s6
          have eD6 := s6' _ _ eD
          have A6' := ((A.imp fun _ _ r => r.tup (TupK.of_same s6')).app A6)
          have lA := A6'.len
          walk_at "rd"
          refine ⟨by rw [List.length_map, List.length_map, sizeLine_eq, ← List.length_append, lA]; omega, fun l7 hl7 => ?_⟩
          have s7 := (Same.refl F6).new (o := .lst (ts.map V.ref ++ ts6.map V.ref)) hl7
          refine ⟨(), l7, ts ++ ts6, _, rfl, (s4.trans s6').trans s7, ?_, by rw [upd_same, List.map_append], ?_⟩
          · exact Kp.none (S := fun _ => False) (Kp.of_same ((S3.trans s4).trans s6')) (fun z => z) hl7
          · rw [lsP_tk _ hcj, ← List.append_assoc]
            exact A6'.imp fun _ _ r => r.tup (TupK.of_same s7)
        · have eg : isG h = (g || isG h) := by rw [show g = false by simpa using hg]; rfl
          walk_at "rd"
          intro p5 hp5
          have s5 := (Same.refl F).new (o := .tup [.str "maybe", .str "repeat"]) hp5
          have e5 := upd_same (H := F) (a := p5) (o := .tup [.str "maybe", .str "repeat"])
          generalize upd F p5 (.tup [.str "maybe", .str "repeat"]) = F5 at s5 e5 ⊢
          refine ⟨p5, _, rfl, .inr (SqT.of e5), rfl, rfl, ?_⟩
          rw [show (if false = true then !inV (V.str (kdS h)) [.str "maybe", .str "repeat"] else inV (V.str (kdS h)) [.str "maybe", .str "repeat"]) = decide (kdS h ∈ (["maybe", "repeat"] : List Str)) from inV_strL (l := ["maybe", "repeat"])]
          rw [hoh.gu]
          walk_at "rd"
          obtain ⟨z1, z2, z3, z4, z5⟩ := tl _ (s5)
          refine ⟨(), c, g || isG h, r, ys, congrArg (fun v => [V.ref r, v]) (congrArg V.bl eg), z1, z2, z3, z4, z5, fun F6 l6 ts6 s6 hl6 nl6 A6 => ?_⟩
          have s6' := (s5).trans s6
          have eD6 := s6' _ _ eD
          have A6' := ((A.imp fun _ _ r => r.tup (TupK.of_same s6')).app A6)
          have lA := A6'.len
          walk_at "rd"
          refine ⟨by rw [List.length_map, List.length_map, sizeLine_eq, ← List.length_append, lA]; omega, fun l7 hl7 => ?_⟩
          have s7 := (Same.refl F6).new (o := .lst (ts.map V.ref ++ ts6.map V.ref)) hl7
          refine ⟨(), l7, ts ++ ts6, _, rfl, (s4.trans s6').trans s7, ?_, by rw [upd_same, List.map_append], ?_⟩
          · exact Kp.none (S := fun _ => False) (Kp.of_same ((S3.trans s4).trans s6')) (fun z => z) hl7
          · rw [lsP_tk _ hcj, ← List.append_assoc]
            exact A6'.imp fun _ _ r => r.tup (TupK.of_same s7)
      · rintro σ F ⟨_, D, ts, o4, rfl, s4, hD, eD, A⟩
        rw [List.length_map, lrs, List.take_length] at A
        refine ⟨(), D, ts, _, _, rfl, S3.trans s4, hD, eD, ?_⟩
        rw [htk, lsS]
        rw [List.append_assoc] at A
        exact A
    · rintro σ G ⟨_, D, ts, o3, o4, rfl, S, hD, eD, A⟩
      rw [lub, List.take_length] at A
      walk_at "rd"
      exact k _ _ _ S eD hD A
/-! ### what is read is good: sorts, words, depth, numbers of statements and of words -/
mutual
def allS : Stm → List Stm
  | .mk h ps => .mk h ps :: allP ps
def allP : List (List Stm) → List Stm
  | [] => []
  | b :: r => allB b ++ allP r
def allB : List Stm → List Stm
  | [] => []
  | s :: r => allS s ++ allB r
end
mutual
theorem lsS_fst (g : Bool) : ∀ s : Stm, (lsS g s).map (·.1) = allS s
  | .mk h ps => by rw [lsS, allS, List.map_cons, lsP_fst]
theorem lsP_fst (g : Bool) : ∀ ps : List (List Stm), (lsP g ps).map (·.1) = allP ps
  | [] => rfl
  | b :: r => by rw [lsP, allP, List.map_append, lsB_fst g b, lsP_fst g r]
theorem lsB_fst (g : Bool) : ∀ b : List Stm, (lsB g b).map (·.1) = allB b
  | [] => rfl
  | s :: r => by rw [lsB, allB, List.map_append, lsS_fst g s, lsB_fst g r]
end
def wordsH : Hd → List Str
  | .one k w => if k = "raise" then [w] else []
  | .blk _ _ ks => ks
  | .tr ws _ => (ws.map fun o => o.getD []).flatten
  | _ => []
def wN (s : Stm) : Nat := (wordsH s.hd).length + 1
def wP (l : List Stm) : Nat := (l.map wN).sum
theorem wP_app (l m : List Stm) : wP (l ++ m) = wP l + wP m := by unfold wP; rw [List.map_append, List.sum_append]
theorem wP_cons (s : Stm) (m : List Stm) : wP (s :: m) = wN s + wP m := by unfold wP; rw [List.map_cons, List.sum_cons]
def rowN : Row → Nat | none => 0 | some (_, ws) => ws.length
def rS (rows : List Row) (i : Nat) : Nat := ((rows.take i).map rowN).sum
theorem rS_succ {rows : List Row} {n i : Nat} (h : wordsAt rows n i ≠ []) : rS rows (i + 1) = rS rows i + (wordsAt rows n i).length := by
  unfold rS
  rw [List.take_add_one]
  unfold wordsAt at h ⊢
  cases e : rows[i]? with
  | none => rw [e] at h; exact absurd rfl h
  | some r =>
    rw [e] at h
    cases r with
    | none => exact absurd rfl h
    | some p =>
      obtain ⟨m, ws⟩ := p
      dsimp only at h ⊢
      by_cases c : m = n
      · rw [if_pos c, List.map_append, List.sum_append]
        simp [rowN]
      · rw [if_neg c] at h; exact absurd rfl h
structure GP (rows : List Row) (ps : List (List Stm)) (n c w i j : Nat) : Prop where
  ok : ∀ x ∈ allP ps, SOk x
  ne : ∀ b ∈ ps, b ≠ []
  dp : dpP ps + n ≤ 9
  ct : (allP ps).length + c + i ≤ j
  wd : wP (allP ps) + w + rS rows i ≤ rS rows j
structure GS (rows : List Row) (s : Stm) (n c i j : Nat) : Prop where
  ok : ∀ x ∈ allS s, SOk x
  dp : dpS s + n ≤ 9
  ct : (allS s).length + i ≤ j + c
  wd : wP (allS s) + rS rows i ≤ rS rows j + c
structure GB (rows : List Row) (b : List Stm) (n i j : Nat) : Prop where
  ok : ∀ x ∈ allB b, SOk x
  dp : dpB b + n ≤ 9
  ct : (allB b).length + i ≤ j
  wd : wP (allB b) + rS rows i ≤ rS rows j
theorem allB_app : ∀ b c : List Stm, allB (b ++ c) = allB b ++ allB c
  | [], _ => by simp [allB]
  | s :: r, c => by rw [List.cons_append, allB, allB, allB_app r c, List.append_assoc]
theorem allP_app : ∀ b c : List (List Stm), allP (b ++ c) = allP b ++ allP c
  | [], _ => by simp [allP]
  | s :: r, c => by rw [List.cons_append, allP, allP, allP_app r c, List.append_assoc]
theorem dpB_app : ∀ b c : List Stm, dpB (b ++ c) = max (dpB b) (dpB c)
  | [], _ => by simp [dpB]
  | s :: r, c => by rw [List.cons_append, dpB, dpB, dpB_app r c, Nat.max_assoc]
theorem dpP_app : ∀ b c : List (List Stm), dpP (b ++ c) = max (dpP b) (dpP c)
  | [], _ => by simp [dpP]
  | s :: r, c => by rw [List.cons_append, dpP, dpP, dpP_app r c, Nat.max_assoc]
theorem allB_one (s : Stm) : allB [s] = allS s := by simp [allB]
theorem allP_one (b : List Stm) : allP [b] = allB b := by simp [allP]
theorem GB.snoc {rows : List Row} {b : List Stm} {s : Stm} {n i j k : Nat} (B : GB rows b n i j) (S : GS rows s n 0 j k) : GB rows (b ++ [s]) n i k :=
  ⟨fun x hx => by
    rw [allB_app, allB_one] at hx
    rcases List.mem_append.mp hx with hx | hx
    · exact B.ok x hx
    · exact S.ok x hx, by
    have := B.dp; have := S.dp
    rw [dpB_app]; simp only [dpB]; omega, by
    have := B.ct; have := S.ct
    rw [allB_app, allB_one, List.length_append]; omega, by
    have := B.wd; have := S.wd
    rw [allB_app, allB_one, wP_app]; omega⟩
theorem GP.snoc {rows : List Row} {ps : List (List Stm)} {b : List Stm} {n c w i j k : Nat} (P : GP rows ps n c w i j) (B : GB rows b n j k) (h : b ≠ []) : GP rows (ps ++ [b]) n c w i k :=
  ⟨fun x hx => by
    rw [allP_app, allP_one] at hx
    rcases List.mem_append.mp hx with hx | hx
    · exact P.ok x hx
    · exact B.ok x hx, fun x hx => by
    rcases List.mem_append.mp hx with hx | hx
    · exact P.ne x hx
    · rw [List.mem_singleton.mp hx]; exact h, by
    have := P.dp; have := B.dp
    rw [dpP_app]; simp only [dpP]; omega, by
    have := P.ct; have := B.ct
    rw [allP_app, allP_one, List.length_append]; omega, by
    have := P.wd; have := B.wd
    rw [allP_app, allP_one, wP_app]; omega⟩
theorem GP.mk_ {rows : List Row} {h : Hd} {ps : List (List Stm)} {n c w i j : Nat} (P : GP rows ps (n + 1) c w i j) (o : HdOk h) (hw : (wordsH h).length + 1 ≤ w + (1 - c)) : GS rows (.mk h ps) n (1 - c) i j :=
  ⟨fun x hx => by
    rw [allS] at hx
    rcases List.mem_cons.mp hx with rfl | hx
    · exact ⟨o, P.ne⟩
    · exact P.ok x hx, by have := P.dp; rw [dpS]; omega, by have := P.ct; rw [allS, List.length_cons]; omega, by have := P.wd; rw [allS, wP_cons]; show (wordsH h).length + 1 + _ + _ ≤ _; omega⟩
/-- a statement with nothing inside it -/
theorem GP.nil {rows : List Row} {n w i j : Nat} (h : n ≤ 9) (hi : i ≤ j) (hw : w + rS rows i ≤ rS rows j) : GP rows [] n (j - i) w i j :=
  ⟨(fun x hx => nomatch hx), (fun x hx => nomatch hx), by rw [dpP]; omega, by rw [allP]; simp only [List.length_nil]; omega, by rw [allP]; show 0 + _ + _ ≤ _; omega⟩
theorem rd_good {rows : List Row} (hr : RowsOk rows) : ∀ k,
    (∀ n i mk b j mk1, n ≤ 8 → rdB rows k n i mk = some (.ok b j mk1) → GB rows b n i j ∧ b ≠ []) ∧
    (∀ n i0 i mk acc b j mk1, n ≤ 8 → GB rows acc n i0 i → rdL rows k n i mk acc = some (.ok b j mk1) → GB rows b n i0 j ∧ b ≠ []) ∧
    (∀ n i mk s j mk1, n ≤ 8 → wordsAt rows n i ≠ [] → rdS rows k n i mk = some (.ok s j mk1) → GS rows s n 0 i j) ∧
    (∀ n i mk s j mk1, n ≤ 7 → rdT rows k n i mk = some (.ok s j mk1) → GS rows s n 1 i j) ∧
    (∀ n i0 i mk b hw hb op s j mk1, n ≤ 7 → GP rows (b :: hb) (n + 1) 0 (hw.map fun o => o.getD []).flatten.length i0 i → (∀ l, some l ∈ hw → ∀ w ∈ l, IsWord w) → rdH rows k n i mk b hw hb op = some (.ok s j mk1) → GS rows s n 1 i0 j)
  | 0 => by
    refine ⟨?_, ?_, ?_, ?_, ?_⟩
    · intro n i mk b j mk1 _ h; rw [rdB] at h; cases h
    · intro n i0 i mk acc b j mk1 _ _ h; rw [rdL] at h; cases h
    · intro n i mk s j mk1 _ _ h; rw [rdS] at h; cases h
    · intro n i mk s j mk1 _ h; rw [rdT] at h; cases h
    · intro n i0 i mk b hw hb op s j mk1 _ _ _ h; rw [rdH] at h; cases h
  | k + 1 => by
    obtain ⟨hB, hL, hS, hT, hH⟩ := rd_good hr k
    refine ⟨?_, ?_, ?_, ?_, ?_⟩
    · intro n i mk b j mk1 hn h
      rw [rdB] at h
      exact hL n i i mk [] b j mk1 hn ⟨(fun x hx => nomatch hx), by rw [dpB]; omega, by rw [allB]; simp, by rw [allB]; show 0 + _ ≤ _; omega⟩ h
    · intro n i0 i mk acc b j mk1 hn A h
      rw [rdL] at h
      split at h
      · split at h
        · cases h
        · rename_i c
          cases h
          exact ⟨A, fun e => c (by rw [e]; rfl)⟩
      · rename_i c0
        have hne : wordsAt rows n i ≠ [] := fun e => c0 (by rw [e]; rfl)
        split at h
        · cases h
        · cases h
        · rename_i s j1 mk2 e
          exact hL _ _ _ _ _ _ _ _ hn (A.snoc (hS _ _ _ _ _ _ hn hne e)) h
    · intro n i mk s j mk1 hn hne h
      have iw := (wordsAt_ok hr (n := n) (i := i)).1
      have hsu := rS_succ hne
      have hl : 0 < (wordsAt rows n i).length := List.length_pos_iff.mpr hne
      have one : ∀ w, w ≤ (wordsAt rows n i).length → GP rows [] (n + 1) 1 w i (i + 1) := fun w hw => by
        have := GP.nil (rows := rows) (n := n + 1) (w := w) (i := i) (j := i + 1) (by omega) (by omega) (by omega)
        rwa [show i + 1 - i = 1 by omega] at this
      rw [rdS] at h
      split at h
      · rename_i c
        split at h
        · cases h
          exact (one 1 (by omega)).mk_ (h := .sim _) c (Nat.le_refl _)
        · cases h
      · split at h
        · rename_i c
          split at h
          · rename_i c2
            cases h
            refine (one 2 (by omega)).mk_ (h := .one _ _) ⟨c, ?_⟩ ?_
            · rw [List.getD_eq_getElem?_getD, List.getElem?_eq_getElem (by omega)]
              exact iw _ (List.getElem_mem _)
            · show (if fstW (wordsAt rows n i) = "raise" then [(wordsAt rows n i).getD 1 ""] else []).length + 1 ≤ 2
              split
              · exact Nat.le_refl _
              · exact Nat.le_succ _
          · cases h
        · split at h
          · cases h
          · rename_i c3
            have h8 : n ≠ 8 := fun e => c3 (.inr e)
            split at h
            · split at h
              · cases h
              · rename_i c4
                split at h
                · cases h
                · split at h
                  · cases h
                  · cases h
                  · rename_i b j1 mk2 e
                    obtain ⟨B, nb⟩ := hB _ _ _ _ _ _ (by omega) e
                    cases h
                    refine GP.mk_ (c := 1) (w := (wordsAt rows n i).length) (((one _ (Nat.le_refl _)).snoc B nb)) (h := .blk _ _ _) ⟨?_, fun w hw => iw w (List.mem_of_mem_drop hw)⟩ ?_
                    · cases q : modeS ((wordsAt rows n i).getD 1 "") with
                      | true => rfl
                      | false => exact absurd (.inr (.inl q)) c4
                    · show (List.drop 3 _).length + 1 ≤ _
                      rw [List.length_drop]; omega
            · rename_i c5
              split at h
              · cases h
              · split at h
                · have G := hT _ _ _ _ _ _ (by omega) h
                  exact ⟨G.ok, G.dp, by have := G.ct; omega, by have := G.wd; omega⟩
                · rename_i c6
                  split at h
                  · cases h
                  · cases h
                  · rename_i b j1 mk2 e
                    obtain ⟨B, nb⟩ := hB _ _ _ _ _ _ (by omega) e
                    cases h
                    refine GP.mk_ (c := 1) (w := 1) (((one _ (by omega)).snoc B nb)) (h := .gua _) ?_ (Nat.le_refl _)
                    have c7 : fstW (wordsAt rows n i) ∈ (["block", "maybe", "repeat", "try"] : List Str) := Decidable.byContradiction fun z => c3 (.inl z)
                    generalize fstW (wordsAt rows n i) = f at c5 c6 c7
                    have c7 : f = "block" ∨ f = "maybe" ∨ f = "repeat" ∨ f = "try" := by simpa using c7
                    rcases c7 with rfl | rfl | rfl | rfl
                    · exact absurd rfl c5
                    · show _ ∈ _; simp
                    · show _ ∈ _; simp
                    · exact absurd rfl c6
    · intro n i mk s j mk1 hn h
      rw [rdT] at h
      split at h
      · cases h
      · cases h
      · rename_i b j1 mk2 e
        obtain ⟨B, nb⟩ := hB _ _ _ _ _ _ (by omega) e
        have P : GP rows [] (n + 1) 0 0 i i := ⟨(fun x hx => nomatch hx), (fun x hx => nomatch hx), by rw [dpP]; omega, by rw [allP]; simp, by rw [allP]; show 0 + _ + _ ≤ _; omega⟩
        exact hH _ _ _ _ b [] [] _ _ _ _ hn (P.snoc B nb) (fun l hl => nomatch hl) h
    · intro n i0 i mk b hw hb op s j mk1 hn P hwd h
      have iw := (wordsAt_ok hr (n := n) (i := i)).1
      rw [rdH] at h
      split at h
      · rename_i c0
        have hne : wordsAt rows n i ≠ [] := fun e => by rw [e] at c0; exact absurd c0.2 (by simp)
        have hsu := rS_succ hne
        have hl : 0 < (wordsAt rows n i).length := List.length_pos_iff.mpr hne
        split at h
        · cases h
        · cases h
        · rename_i c j1 mk2 e
          obtain ⟨B, nb⟩ := hB _ _ _ _ _ _ (by omega) e
          have P1 : GP rows (b :: hb) (n + 1) 0 ((hw ++ [if (wordsAt rows n i).drop 1 = [] then none else some ((wordsAt rows n i).drop 1)]).map fun o => o.getD []).flatten.length i0 (i + 1) := by
            refine ⟨P.ok, P.ne, P.dp, by have := P.ct; omega, ?_⟩
            have := P.wd
            rw [List.map_append, List.flatten_append, List.length_append]
            have e2 : (([if (wordsAt rows n i).drop 1 = [] then none else some ((wordsAt rows n i).drop 1)] : List (Option (List Str))).map fun o => o.getD []).flatten.length ≤ (wordsAt rows n i).length := by
              by_cases z : (wordsAt rows n i).drop 1 = []
              · rw [if_pos z]; simp
              · rw [if_neg z]; simp
            omega
          have P2 := P1.snoc B nb
          refine hH _ _ _ _ _ _ _ _ _ _ _ hn P2 (fun l hl w hw' => ?_) h
          rcases List.mem_append.mp hl with hl | hl
          · exact hwd l hl w hw'
          · have hl := List.mem_singleton.mp hl
            split at hl
            · cases hl
            · cases hl
              exact iw w (List.mem_of_mem_drop hw')
      · split at h
        · rename_i c0
          have hne : wordsAt rows n i ≠ [] := fun e => by rw [e] at c0; exact absurd c0 (by simp)
          have hsu := rS_succ hne
          split at h
          · cases h
          · cases h
          · rename_i c j1 mk2 e
            obtain ⟨B, nb⟩ := hB _ _ _ _ _ _ (by omega) e
            cases h
            have P1 : GP rows (b :: hb) (n + 1) 0 (hw.map fun o => o.getD []).flatten.length i0 (i + 1) :=
              ⟨P.ok, P.ne, P.dp, by have := P.ct; omega, by have := P.wd; omega⟩
            exact (P1.snoc B nb).mk_ (h := .tr hw true) hwd (Nat.le_refl _)
        · split at h
          · cases h
          · cases h
            exact P.mk_ (h := .tr hw false) hwd (Nat.le_refl _)
/-! ### free_statements, words_of -/
theorem ok_listed (T : Txt K mg a d) : ∀ n, FnOk P w K mg base CX0 (n + 4) a.listed_statements d.listed_statements ["body", "is_guarded"] (spListed n)
  | 0 => fn_noneX fun vs H Q E ⟨_, b, g, p, us, _, _, _, _, h, _⟩ => by omega
  | n + 1 => ok_listed_succ T n (ok_listed T n)
def freeB (b : List Stm) : List Stm := ((lsB false b).filter fun x => !x.2).map (·.1)
structure GoodB (b : List Stm) : Prop where
  ok : ∀ x ∈ allB b, SOk x
  dp : dpB b < 9
  ct : (allB b).length ≤ 100000
theorem GoodB.ls {b : List Stm} (g : Bool) (h : GoodB b) : (∀ x ∈ lsB g b, SOk x.1) ∧ dpB b < 9 ∧ (lsB g b).length ≤ 100000 :=
  ⟨fun x hx => h.ok x.1 (by rw [← lsB_fst g]; exact List.mem_map_of_mem hx), h.dp, by have := h.ct; rw [← lsB_fst g, List.length_map] at this; exact this⟩
abbrev StsAt (H : Hp) (vs : List V) (ss : List Stm) : Prop := A2 (fun v s => SAt H s v) vs ss
def spFree : Sp := fun vs H Q _ => ∃ (_ : Unit) (b : List Stm) (p : Addr) (us : List V), vs = [.ref p] ∧ H p = some (.tup us) ∧ BAt H b us ∧ GoodB b ∧
  ∀ H' l ws, Same H H' → H' l = some (.lst ws) → H l = none → StsAt H' ws (freeB b) → Q (.ref l) H'
theorem A2.filt {α β : Type} {R : α → β → Prop} {f : β → Bool} {f' : α → Bool} (e : ∀ x y, R x y → f' x = f y) : ∀ {xs : List α} {ys : List β}, A2 R xs ys → A2 R (xs.filter f') (ys.filter f)
  | _, _, .nil => .nil
  | _, _, .cons (x := x) (y := y) h t => by
    have ih := A2.filt e t
    have := e _ _ h
    rw [List.filter_cons, List.filter_cons, this]
    split
    · exact .cons h ih
    · exact ih
theorem ok_free_statements (T : Txt K mg a d) : FnOk P w K mg base CX0 14 a.free_statements d.free_statements ["body"] spFree := by
  have G_listed_statements : FnOk P w K mg base CX0 13 a.listed_statements d.listed_statements ["body", "is_guarded"] (spListed 9) := ok_listed T 9
  obtain ⟨_, vd1_ls, bd1_ls⟩ := bd1_ls0 T
  refine T.free_statements.ok sc_free_statements (fun vs H Q E h => ?_) (fun cdv A outer s H vs Q E hr h => ?_)
  · obtain ⟨_, _, _, _, rfl, _⟩ := h
    rfl
  · obtain ⟨_, b, p, us, rfl, hp, hb, hg, k⟩ := h
    refine ⟨_, (pss_one (ps_ret (pe_lc (own := [("statement", 1), ("is_guarded", 2)]) rfl sc_free_statements.nd (pi_list (pe_call G_listed_statements (hr.mono (by omega)) (by rfl) T.g_listed_statements T.listed_statements.kp bd1_ls vd1_ls pass0 (pa_cons (pv 0) pa_nil))) (blkOk_by (own := [("statement", 1), ("is_guarded", 2)]) (N := ["body", "statement", "is_guarded"]) (sc := defScope s_free_statements) (by decide +kernel)) (fun _ _ _ _ _ => (pg_tupK (K := K) 2 rfl rfl (pgs_cons (pg_name (i := 1) sc_free_statements.nd rfl (Or.inl rfl)) (pgs_cons (pg_name (i := 2) sc_free_statements.nd rfl (Or.inl rfl)) pgs_nil)))) (fun _ _ _ _ _ => (pts_one (pt_not (pt_val (pv 2))))) (fun _ _ _ _ _ => (pv 1))))), ?_⟩
    dsimp only [cxOf]
    walk_at "rd"
    obtain ⟨z1, z2, z3⟩ := hg.ls false
    refine ⟨(), b, false, p, us, rfl, hp, hb, z1, z2, z3, fun H1 l ts s1 hl nl A => ?_⟩
    walk_at "rd"
    refine ⟨⟨_, SqL.of hl⟩, fun D hD => ?_⟩
    have lts := A.len
    refine lc_list (xs := ts.map V.ref) (fun i G => ∃ ws : List V, Same H1 G ∧ G D = some (.lst ws) ∧ ws.length ≤ i ∧ StsAt G ws ((((lsB false b).take i).filter fun x => !x.2).map (·.1))) ?_ ?_ ?_ ?_
    · exact ⟨[], (Same.refl _).new hD, upd_same, Nat.le_refl _, .nil⟩
    · rintro i G _ ⟨ws, s2, _⟩
      exact SqL.of (s2 _ _ hl)
    · rintro i v G hv ⟨ws, s2, hG, lw, hA⟩
      obtain ⟨t, hti, rfl⟩ : ∃ t, ts[i]? = some t ∧ v = V.ref t := by
        rw [List.getElem?_map] at hv
        cases q : ts[i]? with
        | none => rw [q] at hv; cases hv
        | some t => rw [q] at hv; cases hv; exact ⟨t, rfl, rfl⟩
      have li : i < ts.length := (List.getElem?_eq_some_iff.mp hti).1
      obtain ⟨⟨s, g⟩, hbi, u, ht, hs⟩ := A.at hti
      have ht2 := s2 _ _ ht
      have hs2 := hs.tup (TupK.of_same s2)
      have lz : ws.length < sizeLine := by rw [sizeLine_eq]; omega
      rw [List.take_add_one, hbi, List.filter_append, List.map_append]
      walk_at "rd"
      cases g with
      | true =>
        refine iteF ?_
        exact ⟨ws, s2, hG, by omega, by rw [show ((some (s, true)).toList.filter fun x => !x.2) = [] from rfl, List.map_nil, List.append_nil]; exact hA⟩
      | false =>
        refine iteT ?_
        walk_at "rd"
        have k2 : TupK G (upd G D (.lst (ws ++ [u]))) := TupK.set hG
        exact ⟨s2.frsh hD, upd_same, by rw [List.length_append]; simp only [List.length_cons, List.length_nil]; omega, (hA.imp fun _ _ r => r.tup k2).app (.cons (hs2.tup k2) .nil)⟩
    · rintro G ⟨ws, s2, hG, lw, hA⟩
      rw [List.length_map, lts, List.take_length] at hA
      walk_at "rd"
      exact k _ _ _ (s1.trans s2) hG (Kp.none (S := fun _ => False) (Kp.of_same s1) (fun z => z) hD) hA
def spWords : Sp := fun vs H Q _ => ∃ (_ : Unit) (h : Hd) (ps : List (List Stm)) (v : V), vs = [v] ∧ SAt H (.mk h ps) v ∧ HdOk h ∧ (wordsH h).length ≤ 100000 ∧
  ∀ H' l, Same H H' → H' l = some (.lst ((wordsH h).map V.str)) → H l = none → Q (.ref l) H'
theorem ok_words_of (T : Txt K mg a d) : FnOk P w K mg base CX0 1 a.words_of d.words_of ["statement"] spWords := by
  refine T.words_of.ok sc_words_of (fun vs H Q E h => ?_) (fun cdv A outer s H vs Q E hr h => ?_)
  · obtain ⟨_, _, _, v, rfl, _⟩ := h
    rfl
  · obtain ⟨_, h, ps, v, rfl, ⟨p, xs, rs, rfl, hp, hh, hps⟩, hok, lw, k⟩ := h
    refine ⟨_, (pss_cons (ps_if (pt_cmpR op_eq (pe_ix ix_tup (pv 0) pe_int (fun _ _ => rfl)) pe_str (nomark _)) (pss_one (ps_ret (pe_lst (pa_cons (pe_ix ix_tup (pv 0) pe_int (fun _ _ => rfl)) pa_nil)))) pss_nil)
  (pss_cons (ps_if (pt_cmpR op_eq (pe_ix ix_tup (pv 0) pe_int (fun _ _ => rfl)) pe_str (nomark _)) (pss_one (ps_ret (pe_callTy call_list_of (by rfl) T.n_list (by decide +kernel) (pa_cons (pe_ix ix_tup (pv 0) pe_int (fun _ _ => rfl)) pa_nil)))) pss_nil)
  (pss_cons (ps_set (i := 1) sc_words_of.nd rfl (Or.inl rfl) (pe_lst pa_nil))
  (pss_cons (ps_if (pt_cmpR op_eq (pe_ix ix_tup (pv 0) pe_int (fun _ _ => rfl)) pe_str (nomark _)) (pss_one (ps_for PassesOwn.never rfl (pi_tup (pe_ix ix_tup (pv 0) pe_int (fun _ _ => rfl))) (pg_tup rfl (pgs_cons (pg_name (i := 2) sc_words_of.nd rfl (Or.inl rfl)) (pgs_cons (pg_name (i := 3) sc_words_of.nd rfl (Or.inl rfl)) pgs_nil)))
  (pss_one (ps_set (i := 1) sc_words_of.nd rfl (Or.inl rfl) (pe_op op_cat (pv 1) (pe_callTy call_list_of (by rfl) T.n_list (by decide +kernel) (pa_cons (pe_ifExp (pt_cmpR op_notN (pv 2) pe_non (nomark _)) (pv 2) (pe_tup pa_nil)) pa_nil))))))) pss_nil)
  (pss_one (ps_ret (pv 1))))))), ?_⟩
    dsimp only [cxOf]
    have a0 : ∀ (x : V) (t : List V), atI (x :: t) 0 = some x := fun x t => (atI_nat rfl : atI (x :: t) ((0 : Nat) : Int) = _)
    have a1 : ∀ (y x : V) (t : List V), atI (y :: x :: t) 1 = some x := fun y x t => (atI_nat rfl : atI (y :: x :: t) ((1 : Nat) : Int) = _)
    have a2 : ∀ (z y x : V) (t : List V), atI (z :: y :: x :: t) 2 = some x := fun z y x t => (atI_nat rfl : atI (z :: y :: x :: t) ((2 : Nat) : Int) = _)
    have a3 : ∀ (u z y x : V) (t : List V), atI (u :: z :: y :: x :: t) 3 = some x := fun u z y x t => (atI_nat rfl : atI (u :: z :: y :: x :: t) ((3 : Nat) : Int) = _)
    have fin : ∀ {l : Addr} {H' : Hp}, Same H H' → H' l = none → Q (.ref l) (upd H' l (.lst ((wordsH h).map V.str))) := fun s hl =>
      k _ _ (s.new hl) upd_same (Kp.none (S := fun _ => False) (Kp.of_same s) (fun z => z) hl)
    obtain ⟨t, rfl⟩ := hh.fst
    have b0 := a0 (.str (kdS h)) t
    walk_at "rd"
    refine ite2 (fun c1 => ?_) (fun c1 => ?_)
    · have e1 : kdS h = "raise" := V.str.inj (of_decide_eq_true c1)
      cases h with
      | one kd w =>
        obtain ⟨rfl, e⟩ := hh
        rw [e] at hp
        have b1 := a1 (.str kd) (.str w) []
        rw [show wordsH (.one kd w) = [w] from if_pos e1] at fin
        walk_at "rd"
        intro l hl
        exact fin (Same.refl H) hl
      | sim w => rcases in2 hok with z | z <;> (rw [show kdS (.sim w) = w from rfl, z] at e1; exact absurd e1 (by decide))
      | gua w => rcases inG hok with z | z <;> (rw [show kdS (.gua w) = w from rfl, z] at e1; exact absurd e1 (by decide))
      | blk _ _ _ => rw [show kdS (.blk _ _ _) = "block" from rfl] at e1; exact absurd e1 (by decide)
      | tr _ _ => rw [show kdS (.tr _ _) = "try" from rfl] at e1; exact absurd e1 (by decide)
    have d1 : kdS h ≠ "raise" := fun e => c1 (decide_eq_true (by rw [e]))
    walk_at "rd"
    refine ite2 (fun c2 => ?_) (fun c2 => ?_)
    · obtain ⟨n, m, ks, rfl⟩ := hok.blk (V.str.inj (of_decide_eq_true c2))
      obtain ⟨q, r, rfl, e, hq⟩ := hh
      rw [e] at hp
      have b3 := a3 (.str "block") (.int (n : Int)) (.str m) (.ref q) [.ref r]
      walk_at "rd"
      intro l hl
      exact fin (Same.refl H) hl
    have d2 : kdS h ≠ "block" := fun e => c2 (decide_eq_true (by rw [e]))
    walk_at "rd"
    intro l1 hl1
    have s1 := (Same.refl H).new (o := .lst []) hl1
    have e1 := upd_same (H := H) (a := l1) (o := .lst [])
    have nl1 := hl1
    generalize upd H l1 (.lst []) = H1 at s1 e1 ⊢
    have hp1 := s1 _ _ hp
    walk_at "rd"
    by_cases d3 : kdS h = "try"
    · rw [decide_eq_true (show V.str (kdS h) = V.str "try" by rw [d3])]
      refine iteT ?_
      obtain ⟨ws, fn, rfl⟩ := hok.tr d3
      obtain ⟨r0, rr, q, ts, fv, e, hq, hts, lrr, hf⟩ := hh
      rw [e] at hp1
      have b2 := a2 (.str "try") (.ref r0) (.ref q) [fv]
      have hq1 := s1 _ _ hq
      walk_at "rd"
      refine ⟨⟨_, SqT.of hq1⟩, ?_⟩
      refine for_tup (xs := ts.map V.ref) (fun i σ G => ∃ (_ : Unit) (D : Addr) (o2 o3 : Option V), σ = [some (.ref p), some (.ref D), o2, o3] ∧ Same H G ∧ H D = none ∧ G D = some (.lst ((((ws.take i).map fun o => o.getD []).flatten).map V.str))) ?_ ?_ ?_ ?_
      · exact ⟨(), l1, none, none, rfl, s1, nl1, e1⟩
      · rintro i σ G _ ⟨_, D, o2, o3, rfl, s2, _⟩
        exact SqT.of (s2 _ _ hq)
      · rintro i v σ G hv ⟨_, D, o2, o3, rfl, s2, hD, eD⟩
        obtain ⟨t, hti, rfl⟩ : ∃ t, ts[i]? = some t ∧ v = V.ref t := by
          rw [List.getElem?_map] at hv
          cases q : ts[i]? with
          | none => rw [q] at hv; cases hv
          | some t => rw [q] at hv; cases hv; exact ⟨t, rfl, rfl⟩
        obtain ⟨⟨o, r⟩, hzi, lv, ht, hlv⟩ := hts.at hti
        have hwi : ws[i]? = some o := by
          have := congrArg (Option.map Prod.fst) hzi
          rw [← List.getElem?_map, List.map_fst_zip (by omega)] at this
          exact this
        have ht2 := s2 _ _ ht
        have etk : ((ws.take (i + 1)).map fun o => o.getD []).flatten = ((ws.take i).map fun o => o.getD []).flatten ++ o.getD [] := by
          rw [List.take_add_one, hwi, List.map_append, List.flatten_append]; simp
        have ll : (((ws.take i).map fun o => o.getD []).flatten).length + (o.getD []).length ≤ 100000 := by
          have e : wordsH (.tr ws fn) = ((ws.take (i + 1)).map fun o => o.getD []).flatten ++ ((ws.drop (i + 1)).map fun o => o.getD []).flatten := by
            rw [← List.flatten_append, ← List.map_append, List.take_append_drop]; rfl
          rw [e, etk, List.length_append, List.length_append] at lw
          omega
        have fin2 : ∀ (F : Hp), Same H F → ∀ l7 (v3 : V), F l7 = none → ∃ (_ : Unit) (D' : Addr) (o2 o3 : Option V), [some (.ref p), some (.ref l7), some lv, some v3] = [some (.ref p), some (.ref D'), o2, o3] ∧ Same H (upd F l7 (.lst (((((ws.take i).map fun o => o.getD []).flatten).map V.str) ++ (o.getD []).map V.str))) ∧ H D' = none ∧ upd F l7 (.lst (((((ws.take i).map fun o => o.getD []).flatten).map V.str) ++ (o.getD []).map V.str)) D' = some (.lst ((((ws.take (i + 1)).map fun o => o.getD []).flatten).map V.str)) := fun F sF l7 v3 h7 =>
          ⟨(), l7, _, _, rfl, sF.new h7, Kp.none (S := fun _ => False) (Kp.of_same sF) (fun z => z) h7, by rw [upd_same, etk, List.map_append]⟩
        cases o with
        | none =>
          have hlv : lv = .non := hlv
          subst hlv
          walk_at "rd"
          intro e hee
          have s3 := (Same.refl G).new (o := .tup []) hee
          have e3 := upd_same (H := G) (a := e) (o := .tup [])
          have eD3 := s3 _ _ eD
          generalize upd G e (.tup []) = G3 at s3 e3 eD3 ⊢
          refine ⟨e, [], rfl, .inr (SqT.of e3), fun l6 hl6 => ?_⟩
          have s4 := (Same.refl G3).new (o := .lst []) hl6
          have e4 := upd_same (H := G3) (a := l6) (o := .lst [])
          have eD4 := s4 _ _ eD3
          generalize upd G3 l6 (.lst []) = G4 at s4 e4 eD4 ⊢
          walk_at "rd"
          refine ⟨by simp only [List.length_map, List.length_nil]; rw [sizeLine_eq]; omega, fun l7 hl7 => ?_⟩
          exact fin2 G4 ((s2.trans s3).trans s4) l7 _ hl7
        | some l =>
          obtain ⟨y, rfl, hy⟩ := hlv
          have hy2 := s2 _ _ hy
          walk_at "rd"
          intro l6 hl6
          have s4 := (Same.refl G).new (o := .lst (l.map V.str)) hl6
          have e4 := upd_same (H := G) (a := l6) (o := .lst (l.map V.str))
          have eD4 := s4 _ _ eD
          generalize upd G l6 (.lst (l.map V.str)) = G4 at s4 e4 eD4 ⊢
          walk_at "rd"
          refine ⟨by simp only [List.length_map]; rw [sizeLine_eq]; exact Nat.le_trans ll (by decide), fun l7 hl7 => ?_⟩
          exact fin2 G4 (s2.trans s4) l7 _ hl7
      · rintro σ G ⟨_, D, o2, o3, rfl, s2, hD, eD⟩
        have lts := hts.len
        rw [List.length_zip] at lts
        rw [List.length_map, List.take_of_length_le (by omega)] at eD
        walk_at "rd"
        exact k _ _ s2 eD hD
    · rw [decide_eq_false (fun e => d3 (V.str.inj e))]
      refine iteF ?_
      walk_at "rd"
      have e0 : wordsH h = [] := by
        cases h with
        | one kd w => exact if_neg d1
        | sim w => rfl
        | gua w => rfl
        | blk _ _ _ => exact absurd rfl d2
        | tr _ _ => exact absurd rfl d3
      rw [e0] at k
      exact k _ _ s1 e1 nl1
/-! ### comes_back -/
theorem nodup_le {α : Type} [BEq α] [LawfulBEq α] : ∀ {xs ys : List α}, xs.Nodup → (∀ x ∈ xs, x ∈ ys) → xs.length ≤ ys.length
  | [], _, _, _ => Nat.zero_le _
  | x :: r, ys, h, s => by
    obtain ⟨h1, h2⟩ := List.nodup_cons.mp h
    have hx := s x List.mem_cons_self
    have := nodup_le (ys := ys.erase x) h2 fun z hz => (List.mem_erase_of_ne (fun e : z = x => h1 (e ▸ hz))).mpr (s z (List.mem_cons_of_mem _ hz))
    rw [List.length_erase_of_mem hx] at this
    have := List.length_pos_of_mem hx
    rw [List.length_cons]; omega
abbrev Calls := List (Str × List Str)
def callOf (cs : Calls) (x : Str) : List Str := ((cs.find? fun p => decide (p.1 = x)).map (·.2)).getD []
inductive Rch (cs : Calls) (x : Str) : Str → Prop
  | one {y : Str} : y ∈ callOf cs x → Rch cs x y
  | more {y z : Str} : Rch cs x y → z ∈ callOf cs y → Rch cs x z
open Classical in
noncomputable def backB (cs : Calls) (x : Str) : Bool := decide (Rch cs x x)
def clK (cs : Calls) (ls : List Addr) : List (Key × V) := (cs.zip ls).map fun x => (Sum.inr x.1.1, .ref x.2)
def CallsAt (H : Hp) (c : Addr) (cs : Calls) : Prop := ∃ ls : List Addr, H c = some (.dK (clK cs ls)) ∧ A2 (fun l p => H l = some (.lst (p.2.map V.str))) ls cs
theorem CallsAt.same {H H' : Hp} {c : Addr} {cs : Calls} (s : Same H H') (h : CallsAt H c cs) : CallsAt H' c cs := by
  obtain ⟨ls, h1, h2⟩ := h
  exact ⟨ls, s _ _ h1, h2.imp fun _ _ r => s _ _ r⟩
theorem clK_get {H : Hp} : ∀ {cs : Calls} {ls : List Addr}, A2 (fun l p => H l = some (.lst (p.2.map V.str))) ls cs → ∀ {x : Str}, x ∈ cs.map (·.1) → ∃ l, valV (clK cs ls) (Sum.inr x) = some (.ref l) ∧ H l = some (.lst ((callOf cs x).map V.str))
  | _, _, .nil, _, h => nomatch h
  | _, _, .cons (x := l) (y := p) (xs := lt) (ys := ct) h t, x, hx => by
    by_cases e : p.1 = x
    · refine ⟨l, ?_, ?_⟩
      · unfold clK valV
        rw [List.zip_cons_cons, List.map_cons, List.find?_cons_of_pos (by simpa using e)]; rfl
      · unfold callOf
        rw [List.find?_cons_of_pos (by simpa using e)]
        exact h
    · have hx : x ∈ ct.map (·.1) := by
        rcases List.mem_cons.mp hx with z | z
        · exact absurd z.symm e
        · exact z
      obtain ⟨l', a1, a2⟩ := clK_get t hx
      refine ⟨l', ?_, ?_⟩
      · unfold clK valV at a1 ⊢
        rw [List.zip_cons_cons, List.map_cons, List.find?_cons_of_neg (by simpa using e)]
        exact a1
      · unfold callOf at a2 ⊢
        rw [List.find?_cons_of_neg (by simpa using e)]
        exact a2
structure ClsOk (cs : Calls) : Prop where
  nn : (cs.map (·.1)).Nodup
  cl : ∀ x, ∀ y ∈ callOf cs x, y ∈ cs.map (·.1)
  ll : ∀ x, (callOf cs x).length ≤ 100000
  ln : cs.length ≤ 100000
structure CbI (cs : Calls) (name : Str) (rs : List Str) : Prop where
  pre : ∃ ext, rs = callOf cs name ++ ext ∧ ext.Nodup ∧ ∀ y ∈ ext, y ∈ cs.map (·.1)
  rc : ∀ y ∈ rs, Rch cs name y
theorem CbI.le {cs : Calls} {name : Str} {rs : List Str} (h : CbI cs name rs) : rs.length ≤ (callOf cs name).length + cs.length := by
  obtain ⟨ext, rfl, nd, sb⟩ := h.pre
  have := nodup_le nd sb
  rw [List.length_map] at this
  rw [List.length_append]; omega
theorem CbI.add {cs : Calls} {name y : Str} {rs : List Str} (h : CbI cs name rs) (ny : y ∉ rs) (r : Rch cs name y) (hy : y ∈ cs.map (·.1)) : CbI cs name (rs ++ [y]) := by
  obtain ⟨ext, rfl, nd, sb⟩ := h.pre
  refine ⟨⟨ext ++ [y], by rw [List.append_assoc], ?_, fun z hz => ?_⟩, fun z hz => ?_⟩
  · refine List.nodup_append.mpr ⟨nd, by simp, fun a ha b hb e => ?_⟩
    rw [List.mem_singleton.mp hb] at e
    exact ny (List.mem_append_right _ (e ▸ ha))
  · rcases List.mem_append.mp hz with hz | hz
    · exact sb z hz
    · rw [List.mem_singleton.mp hz]; exact hy
  · rcases List.mem_append.mp hz with hz | hz
    · exact h.rc z hz
    · rw [List.mem_singleton.mp hz]; exact r
theorem CbI.key {cs : Calls} {name : Str} {rs : List Str} (o : ClsOk cs) (h : CbI cs name rs) : ∀ y ∈ rs, y ∈ cs.map (·.1) := fun y hy => by
  obtain ⟨ext, rfl, _, sb⟩ := h.pre
  rcases List.mem_append.mp hy with z | z
  · exact o.cl _ _ z
  · exact sb _ z
/-- all that are reached, once every one of rs is looked at -/
theorem Rch.all {cs : Calls} {name : Str} {rs : List Str} (h : ∀ y ∈ callOf cs name, y ∈ rs) (c : ∀ x ∈ rs, ∀ y ∈ callOf cs x, y ∈ rs) : ∀ {y}, Rch cs name y → y ∈ rs
  | _, .one e => h _ e
  | _, .more r e => c _ (Rch.all h c r) _ e
theorem flat_strs {l : List Str} : (l.map V.str).all flatV = true := by
  rw [List.all_map, List.all_eq_true]; intro z _; rfl
def spCome : Sp := fun vs H Q _ => ∃ (_ : Unit) (name : Str) (c : Addr) (cs : Calls), vs = [.str name, .ref c] ∧ CallsAt H c cs ∧ ClsOk cs ∧ name ∈ cs.map (·.1) ∧
  ∀ H', Same H H' → Q (.bl (backB cs name)) H'
theorem ok_comes_back (T : Txt K mg a d) : FnOk P w K mg base CX0 1 a.comes_back d.comes_back ["name", "calls"] spCome := by
  refine T.comes_back.ok sc_comes_back (fun vs H Q E h => ?_) (fun cdv A outer s H vs Q E hr h => ?_)
  · obtain ⟨_, name, c, cs, rfl, _⟩ := h
    rfl
  · obtain ⟨_, name, c, cs, rfl, hc, ok, hn, k⟩ := h
    refine ⟨_, (pss_cons (ps_set (i := 2) sc_comes_back.nd rfl (Or.inl rfl) (pe_callTy call_list_of (by rfl) T.n_list (by decide +kernel) (pa_cons (pe_dget (hu_of hr) (pv 1) (pv 0) (fun _ _ => rfl)) pa_nil)))
  (pss_cons (ps_set (i := 3) sc_comes_back.nd rfl (Or.inl rfl) pe_int)
  (pss_cons (ps_while PassesOwn.never (pt_cmpR op_lt (pv 3) (pe_callB call_len_seq (by rfl) T.n_len PySem.boot_len (pa_cons (pv 2) pa_nil)) (nomark _))
  (pss_cons (ps_for PassesOwn.never rfl (pi_list (pe_dget (hu_of hr) (pv 1) (pe_ix ix_list (pv 2) (pv 3) (fun _ _ => rfl)) (fun _ _ => rfl))) (pg_name (i := 4) sc_comes_back.nd rfl (Or.inl rfl))
  (pss_one (ps_if (pt_cmpR op_notIn_seq (pv 4) (pv 2) (by rfl)) (pss_one (ps_expr (pe_bm PySem.F.plainAttrs_list PySem.F.slot_list_append PySem.F.type_list_append mt_append (pv 2) (pa_cons (pv 4) pa_nil)))) pss_nil)))
  (pss_one (ps_aug (i := 3) sc_comes_back.nd rfl (Or.inl rfl) pe_int ip_add))))
  (pss_one (ps_ret (pe_cmpR op_in_seq (pv 0) (pv 2) (by rfl))))))), ?_⟩
    dsimp only [cxOf]
    obtain ⟨ls, hd, hls⟩ := hc
    obtain ⟨l0, v0, hl0⟩ := clK_get hls hn
    have get : ∀ {F : Hp} {x : Str} {l : Addr}, F c = some (.dK (clK cs ls)) → valV (clK cs ls) (Sum.inr x) = some (.ref l) → DGet F c (.str x) (some (.ref l)) := fun {F x l} e v => by
      have := DGet.k (k := Sum.inr x) e
      rw [v] at this
      exact this
    walk_at "rd"
    refine ⟨get hd v0, ?_⟩
    walk_at "rd"
    intro R hR
    have s1 := (Same.refl H).new (o := .lst ((callOf cs name).map V.str)) hR
    have e1 := upd_same (H := H) (a := R) (o := .lst ((callOf cs name).map V.str))
    generalize upd H R (.lst ((callOf cs name).map V.str)) = H1 at s1 e1 ⊢
    walk_at "rd"
    have llc := ok.ll name
    have lln := ok.ln
    refine ⟨fun m σ G => ∃ (_ : Unit) (rs : List Str) (j : Nat) (o4 : Option V), σ = [some (.str name), some (.ref c), some (.ref R), some (.int (j : Int)), o4] ∧ Same H G ∧ G R = some (.lst (rs.map V.str)) ∧ CbI cs name rs ∧ j ≤ rs.length ∧ (∀ y ∈ callOf cs name, y ∈ rs) ∧ (∀ x ∈ rs.take j, ∀ y ∈ callOf cs x, y ∈ rs) ∧ m = (callOf cs name).length + cs.length - j, ⟨_, (), callOf cs name, 0, none, rfl, s1, e1, ⟨⟨[], by simp, by simp, by simp⟩, fun y hy => .one hy⟩, Nat.zero_le _, fun y hy => hy, fun x hx => absurd hx (by simp), rfl⟩, ?_⟩
    rintro m σ G ⟨_, rs, j, o4, rfl, s2, hG, I, lj, hc0, hc1, rfl⟩
    have lrs := I.le
    walk_at "rd"
    refine ite2 (fun c0 => ?_) (fun c0 => ?_)
    · have lj2 : j < rs.length := by have := of_decide_eq_true c0; rw [List.length_map] at this; omega
      have hat : atI (rs.map V.str) (j : Int) = some (.str rs[j]) := atI_nat (by rw [List.getElem?_map, List.getElem?_eq_getElem lj2]; rfl)
      have hm : rs[j] ∈ rs := List.getElem_mem lj2
      obtain ⟨l, v1, hl⟩ := clK_get hls (I.key ok _ hm)
      have rj := I.rc _ hm
      have etk : rs.take (j + 1) = rs.take j ++ [rs[j]] := by rw [List.take_add_one, List.getElem?_eq_getElem lj2]; rfl
      generalize rs[j] = x at hat hm v1 hl rj etk
      have llx := ok.ll x
      refine ⟨fun σ' G' => ∃ (_ : Unit) (rs' : List Str) (o4 : Option V), σ' = [some (.str name), some (.ref c), some (.ref R), some (.int ((j + 1 : Nat) : Int)), o4] ∧ Same H G' ∧ G' R = some (.lst (rs'.map V.str)) ∧ CbI cs name rs' ∧ j + 1 ≤ rs'.length ∧ (∀ y ∈ callOf cs name, y ∈ rs') ∧ (∀ x ∈ rs'.take (j + 1), ∀ y ∈ callOf cs x, y ∈ rs'), fun σ' G' ⟨_, rs', o4, h1, h2, h3, h4, h5, h6, h7⟩ => ⟨_, by omega, (), rs', j + 1, o4, h1, h2, h3, h4, h5, h6, h7, rfl⟩, ?_⟩
      have hd2 := s2 _ _ hd
      walk_at "rd"
      refine ⟨get hd2 v1, ?_⟩
      walk_at "rd"
      have nRl : R ≠ l := fun e => by rw [e, hl] at hR; cases hR
      refine ⟨⟨_, SqL.of (s2 _ _ hl)⟩, ?_⟩
      refine for_list (xs := (callOf cs x).map V.str) (fun i σ G => ∃ (_ : Unit) (rs' : List Str) (o4 : Option V), σ = [some (.str name), some (.ref c), some (.ref R), some (.int (j : Int)), o4] ∧ Same H G ∧ G R = some (.lst (rs'.map V.str)) ∧ CbI cs name rs' ∧ rs <+: rs' ∧ (∀ y ∈ (callOf cs x).take i, y ∈ rs')) ?_ ?_ ?_ ?_
      · exact ⟨(), rs, o4, rfl, s2, hG, I, List.prefix_refl _, fun y hy => absurd hy (by simp)⟩
      · rintro i σ F _ ⟨_, rs', o4, rfl, s3, _⟩
        exact SqL.of (s3 _ _ hl)
      · rintro i v σ F hv ⟨_, rs', o4, rfl, s3, hF, I3, pf, hy3⟩
        obtain ⟨y, hyi, rfl⟩ : ∃ y, (callOf cs x)[i]? = some y ∧ v = V.str y := by
          rw [List.getElem?_map] at hv
          cases e : (callOf cs x)[i]? with
          | none => rw [e] at hv; cases hv
          | some y => rw [e] at hv; cases hv; exact ⟨y, rfl, rfl⟩
        have ym : y ∈ callOf cs x := List.mem_of_getElem? hyi
        have lr3 := I3.le
        walk_at "rd"
        refine ⟨flat_strs, ?_⟩
        rw [show (if true = true then !inV (V.str y) (rs'.map V.str) else inV (V.str y) (rs'.map V.str)) = !decide (y ∈ rs') from (if_pos rfl).trans (congrArg (fun b => !b) inV_strL)]
        by_cases d : y ∈ rs'
        · rw [decide_eq_true d]
          refine ⟨_, rfl, iteF ?_⟩
          refine ⟨(), rs', _, rfl, s3, hF, I3, pf, fun z hz => ?_⟩
          rw [List.take_add_one, hyi] at hz
          rcases List.mem_append.mp hz with hz | hz
          · exact hy3 z hz
          · rw [List.mem_singleton.mp hz]; exact d
        · rw [decide_eq_false d]
          refine ⟨_, rfl, iteT ?_⟩
          walk_at "rd"
          refine ⟨by rw [List.length_map, sizeLine_eq]; omega, (), rs' ++ [y], _, rfl, s3.frsh hR, by rw [upd_same, List.map_append]; rfl, I3.add d (.more rj ym) (ok.cl _ _ ym), pf.trans (List.prefix_append _ _), fun z hz => ?_⟩
          rw [List.take_add_one, hyi] at hz
          rcases List.mem_append.mp hz with hz | hz
          · exact List.mem_append_left _ (hy3 z hz)
          · exact List.mem_append_right _ hz
      · rintro σ F ⟨_, rs', o4, rfl, s3, hF, I3, pf, hy3⟩
        rw [List.length_map, List.take_length] at hy3
        walk_at "rd"
        refine ⟨(), rs', _, rfl, s3, hF, I3, by have := pf.length_le; omega, fun y hy => pf.subset (hc0 y hy), fun z hz y hy => ?_⟩
        have e : rs'.take (j + 1) = rs.take (j + 1) := by
          obtain ⟨t, rfl⟩ := pf
          rw [List.take_append_of_le_length (by omega)]
        rw [e, etk] at hz
        rcases List.mem_append.mp hz with hz | hz
        · exact pf.subset (hc1 z hz y hy)
        · rw [List.mem_singleton.mp hz] at hy; exact hy3 y hy
    · have lj2 : j = rs.length := by
        rcases Nat.lt_or_ge j rs.length with l | g
        · exact absurd (decide_eq_true (by rw [List.length_map]; omega)) c0
        · omega
      walk_at "rd"
      refine ⟨flat_strs, ?_⟩
      rw [show (if false = true then !inV (V.str name) (rs.map V.str) else inV (V.str name) (rs.map V.str)) = decide (name ∈ rs) from inV_strL]
      have e : decide (name ∈ rs) = backB cs name := by
        unfold backB
        rw [lj2, List.take_length] at hc1
        exact decide_eq_decide.mpr ⟨fun h => I.rc _ h, fun h => Rch.all hc0 hc1 h⟩
      rw [e]
      exact k _ s2
/-! ### weight_of, body_weight -/
def namesF (fs : List Fun) : List Str := fs.map (·.name)
def bodyOf (fs : List Fun) (w : Str) : List Stm := ((fs.find? fun f => decide (f.name = w)).map (·.body)).getD []
def callee (fs : List Fun) (s : Stm) : Option Str := match s.hd with
  | .one k w => if k = "call" ∧ w ∈ namesF fs then some w else none
  | _ => none
def callsB (fs : List Fun) (b : List Stm) : List Str := (freeB b).filterMap (callee fs)
def wtF (fs : List Fun) : Nat → Str → Nat
  | 0, _ => 0
  | n + 1, w => ((freeB (bodyOf fs w)).map fun s => 1 + match callee fs s with | some y => wtF fs n y | none => 0).sum
def wtB (fs : List Fun) (n : Nat) (b : List Stm) : Nat := ((freeB b).map fun s => 1 + match callee fs s with | some y => wtF fs n y | none => 0).sum
theorem wtF_succ (fs : List Fun) (n : Nat) (w : Str) : wtF fs (n + 1) w = wtB fs n (bodyOf fs w) := by rw [wtF]; rfl
def Hb (fs : List Fun) : Nat → Str → Prop
  | 0, _ => False
  | n + 1, w => ∀ y ∈ callsB fs (bodyOf fs w), Hb fs n y
theorem wtF_st (fs : List Fun) : ∀ n m w, Hb fs n w → n ≤ m → wtF fs m w = wtF fs n w
  | 0, _, _, h, _ => h.elim
  | n + 1, 0, _, _, h => by omega
  | n + 1, m + 1, w, h, hm => by
    rw [wtF, wtF]
    refine congrArg List.sum (List.map_congr_left fun s hs => ?_)
    cases e : callee fs s with
    | none => rfl
    | some y =>
      show 1 + wtF fs m y = 1 + wtF fs n y
      rw [wtF_st fs n m y (h y (List.mem_filterMap.mpr ⟨s, hs, e⟩)) (by omega)]
theorem Hb.up {fs : List Fun} : ∀ {n m w}, Hb fs n w → n ≤ m → Hb fs m w
  | 0, _, _, h, _ => h.elim
  | n + 1, 0, _, _, h => by omega
  | n + 1, m + 1, w, h, hm => fun y hy => Hb.up (h y hy) (by omega)
structure LbAt (H : Hp) (bd : Addr) (fs : List Fun) : Prop where
  ex : ∃ ps, H bd = some (.dK (bdK fs ps)) ∧ A2 (BodyAt H) ps fs
structure LbOk (fs : List Fun) : Prop where
  nn : (namesF fs).Nodup
  gb : ∀ f ∈ fs, GoodB f.body
  ln : fs.length ≤ 100000
theorem DGet.r {H : Hp} {a : Addr} {kvs : List (Key × V)} {k : Key} (e : Rd H a (.dK kvs)) : DGet H a (kV k) (valV kvs k) := .inl ⟨kvs, k, e, rfl, rfl⟩
/-- the dict may be locked -/
structure RbAt (H : Hp) (bd : Addr) (fs : List Fun) : Prop where
  ex : ∃ ps, Rd H bd (.dK (bdK fs ps)) ∧ A2 (BodyAt H) ps fs
theorem LbAt.rb {H : Hp} {bd : Addr} {fs : List Fun} (h : LbAt H bd fs) : RbAt H bd fs := by
  obtain ⟨ps, h1, h2⟩ := h.ex
  exact ⟨ps, .inl h1, h2⟩
theorem Rd.to {H H' : Hp} {b : Addr} {o : HO} (h : Rd H b o) (k : ∀ u, H b = some u → H' b = some u) : Rd H' b o := h.elim (fun e => .inl (k _ e)) fun ⟨od, e⟩ => .inr ⟨od, k _ e⟩
theorem RbAt.keep {H H' : Hp} {bd kd : Addr} {fs : List Fun} {kvs : List (Key × V)} (h : RbAt H bd fs) (k : Kp (fun b => b = kd) H H') (hk : H kd = some (.dK kvs)) (n : bd ≠ kd) : RbAt H' bd fs := by
  obtain ⟨ps, h1, h2⟩ := h.ex
  exact ⟨ps, Rd.to h1 fun u e => k _ _ e n, h2.imp fun _ _ r => r.tup fun b l e => k _ _ e fun z => by rw [z, hk] at e; cases e⟩
theorem RbAt.same {H H' : Hp} {bd : Addr} {fs : List Fun} (h : RbAt H bd fs) (s : Same H H') : RbAt H' bd fs := by
  obtain ⟨ps, h1, h2⟩ := h.ex
  exact ⟨ps, Rd.to h1 fun u e => s _ _ e, h2.imp fun _ _ r => r.tup (TupK.of_same s)⟩
theorem LbAt.keep {H H' : Hp} {bd kd : Addr} {fs : List Fun} {kvs : List (Key × V)} (h : LbAt H bd fs) (k : Kp (fun b => b = kd) H H') (hk : H kd = some (.dK kvs)) (n : bd ≠ kd) : LbAt H' bd fs := by
  obtain ⟨ps, h1, h2⟩ := h.ex
  exact ⟨ps, k _ _ h1 n, h2.imp fun _ _ r => r.tup fun b l e => k _ _ e fun z => by rw [z, hk] at e; cases e⟩
theorem LbAt.same {H H' : Hp} {bd : Addr} {fs : List Fun} (h : LbAt H bd fs) (s : Same H H') : LbAt H' bd fs := by
  obtain ⟨ps, h1, h2⟩ := h.ex
  exact ⟨ps, s _ _ h1, h2.imp fun _ _ r => r.tup (TupK.of_same s)⟩
theorem bdK_get {H : Hp} : ∀ {fs : List Fun} {ps : List Addr}, A2 (BodyAt H) ps fs → ∀ {x : Str}, x ∈ namesF fs → ∃ p vs, valV (bdK fs ps) (Sum.inr x) = some (.ref p) ∧ H p = some (.tup vs) ∧ BAt H (bodyOf fs x) vs
  | _, _, .nil, _, h => nomatch h
  | _, _, .cons (x := l) (y := p) (xs := lt) (ys := ct) h t, x, hx => by
    by_cases e : p.name = x
    · obtain ⟨vs, h1, h2⟩ := h
      refine ⟨l, vs, ?_, h1, ?_⟩
      · unfold bdK valV
        rw [List.zip_cons_cons, List.map_cons, List.find?_cons_of_pos (by simpa using e)]; rfl
      · unfold bodyOf
        rw [List.find?_cons_of_pos (by simpa using e)]
        exact h2
    · have hx : x ∈ namesF ct := by
        rcases List.mem_cons.mp hx with z | z
        · exact absurd z.symm e
        · exact z
      obtain ⟨l', vs, a1, a2, a3⟩ := bdK_get t hx
      refine ⟨l', vs, ?_, a2, ?_⟩
      · unfold bdK valV at a1 ⊢
        rw [List.zip_cons_cons, List.map_cons, List.find?_cons_of_neg (by simpa using e)]
        exact a1
      · unfold bodyOf at a3 ⊢
        rw [List.find?_cons_of_neg (by simpa using e)]
        exact a3
theorem bodyOf_mem {fs : List Fun} {x : Str} (h : x ∈ namesF fs) : ∃ f ∈ fs, f.name = x ∧ f.body = bodyOf fs x := by
  unfold bodyOf
  cases e : fs.find? fun f => decide (f.name = x) with
  | none =>
    obtain ⟨f, hf, rfl⟩ := List.mem_map.mp h
    exact absurd (List.find?_eq_none.mp e f hf) (by simp)
  | some f => exact ⟨f, List.mem_of_find?_eq_some e, by have := List.find?_some e; simpa using this, rfl⟩
/-- the memory of weights -/
def KnAt (H : Hp) (kd : Addr) (fs : List Fun) : Prop := ∃ ks : List Str, H kd = some (.dK (ks.map fun x => (Sum.inr x, .int (wtF fs 13 x : Int)))) ∧ ks.Nodup ∧ ∀ x ∈ ks, x ∈ namesF fs
theorem kn_get {fs : List Fun} {ks : List Str} {x : Str} : valV (ks.map fun x => ((Sum.inr x : Key), V.int (wtF fs 13 x : Int))) (Sum.inr x) = if x ∈ ks then some (.int (wtF fs 13 x : Int)) else none := by
  by_cases h : x ∈ ks
  · rw [if_pos h]
    induction ks with
    | nil => cases h
    | cons y r ih =>
      unfold valV at ih ⊢
      rw [List.map_cons]
      by_cases e : y = x
      · rw [List.find?_cons_of_pos (by simpa using e), e]; rfl
      · rw [List.find?_cons_of_neg (by simpa using e)]
        exact ih ((List.mem_cons.mp h).resolve_left fun z => e z.symm)
  · rw [if_neg h]
    refine valV_none fun z => h ?_
    obtain ⟨p, hp, e⟩ := List.mem_map.mp z
    obtain ⟨y, hy, rfl⟩ := List.mem_map.mp hp
    cases e; exact hy
theorem kn_put {fs : List Fun} {ks : List Str} {x : Str} : putK (ks.map fun x => ((Sum.inr x : Key), V.int (wtF fs 13 x : Int))) (Sum.inr x) (.int (wtF fs 13 x : Int)) = (if x ∈ ks then ks else ks ++ [x]).map fun x => ((Sum.inr x : Key), V.int (wtF fs 13 x : Int)) := by
  by_cases h : x ∈ ks
  · rw [if_pos h]
    unfold putK
    rw [if_pos (List.any_eq_true.mpr ⟨_, List.mem_map_of_mem h, by simp⟩), List.map_map]
    refine List.map_congr_left fun y hy => ?_
    show (if (Sum.inr y : Key) = Sum.inr x then _ else _) = _
    by_cases e : y = x
    · rw [if_pos (by rw [e]), e]
    · rw [if_neg fun z => e (Sum.inr.inj z)]
  · rw [if_neg h, putK_new _ (by rw [kn_get, if_neg h]), List.map_append]; rfl
structure WtI (H0 H : Hp) (bd kd : Addr) (fs : List Fun) : Prop where
  k : Kp (fun b => b = kd) H0 H
  lb : RbAt H bd fs
  kn : KnAt H kd fs
  ok : LbOk fs
  ac : ∀ x ∈ namesF fs, Hb fs 13 x
  ne : bd ≠ kd
theorem WtI.same {H0 H H' : Hp} {bd kd : Addr} {fs : List Fun} (h : WtI H0 H bd kd fs) (s : Same H H') : WtI H0 H' bd kd fs :=
  ⟨h.k.trans (Kp.of_same s), h.lb.same s, by obtain ⟨ks, h1, h2⟩ := h.kn; exact ⟨ks, s _ _ h1, h2⟩, h.ok, h.ac, h.ne⟩
theorem WtI.trans {H0 H H' : Hp} {bd kd : Addr} {fs : List Fun} (h : WtI H0 H bd kd fs) (h' : WtI H H' bd kd fs) : WtI H0 H' bd kd fs :=
  ⟨h.k.trans h'.k, h'.lb, h'.kn, h'.ok, h'.ac, h'.ne⟩
def spWtOf (n : Nat) : Sp := fun vs H Q _ => ∃ (_ : Unit) (x : Str) (bd kd : Addr) (fs : List Fun), vs = [.str x, .ref bd, .ref kd] ∧ WtI H H bd kd fs ∧ x ∈ namesF fs ∧ Hb fs n x ∧
  ∀ H', WtI H H' bd kd fs → Q (.int (wtF fs 13 x : Int)) H'
def spWtB (n : Nat) : Sp := fun vs H Q _ => ∃ (_ : Unit) (b : List Stm) (p : Addr) (us : List V) (bd kd : Addr) (fs : List Fun), vs = [.ref p, .ref bd, .ref kd] ∧ H p = some (.tup us) ∧ BAt H b us ∧ GoodB b ∧ WtI H H bd kd fs ∧ (∀ y ∈ callsB fs b, Hb fs n y) ∧
  ∀ H', WtI H H' bd kd fs → Q (.int (wtB fs 13 b : Int)) H'
theorem ok_weight_succ (T : Txt K mg a d) (n : Nat) (G_body_weight : FnOk P w K mg base CX0 (2 * n + 17) a.body_weight d.body_weight ["body", "bodies", "known"] (spWtB n)) : FnOk P w K mg base CX0 (2 * (n + 1) + 16) a.weight_of d.weight_of ["name", "bodies", "known"] (spWtOf (n + 1)) := by
  refine T.weight_of.ok (k := 2 * n + 17) sc_weight_of (fun vs H Q E h => ?_) (fun cdv A outer s H vs Q E hr h => ?_)
  · obtain ⟨_, _, _, _, _, rfl, _⟩ := h
    rfl
  · obtain ⟨_, x, bd, kd, fs, rfl, I, hx, hb, k⟩ := h
    refine ⟨_, (pss_cons (ps_if (pt_cmp (pc_dnotin (hu_of hr) (pv 0) (pv 2))) (pss_one (ps_dput (hu_of hr) (pv 2) (pv 0) (pe_call G_body_weight (hr.mono (by omega)) (by rfl) T.g_body_weight T.body_weight.kp T.b_body_weight .nil pass0 (pa_cons (pe_dget (hu_of hr) (pv 1) (pv 0) (fun _ _ => rfl)) (pa_cons (pv 1) (pa_cons (pv 2) pa_nil)))) rfl)) pss_nil)
  (pss_one (ps_ret (pe_dget (hu_of hr) (pv 2) (pv 0) (fun _ _ => rfl))))), ?_⟩
    try dsimp only [cxOf]
    obtain ⟨ks, hk, nk, sk⟩ := I.kn
    walk_at "rd"
    refine ⟨_, rfl, DGet.k (k := Sum.inr x) hk, ?_⟩
    rw [kn_get]
    have fin : ∀ {F : Hp} {ks : List Str}, F kd = some (.dK (ks.map fun x => ((Sum.inr x : Key), V.int (wtF fs 13 x : Int)))) → x ∈ ks → DGet F kd (.str x) (some (.int (wtF fs 13 x : Int))) := fun {F ks} e m => by
      have := DGet.k (k := Sum.inr x) e
      rw [kn_get, if_pos m] at this
      exact this
    by_cases d : x ∈ ks
    · rw [if_pos d]
      refine ⟨_, rfl, iteF ?_⟩
      walk_at "rd"
      refine ⟨fin hk d, ?_⟩
      exact k _ I
    · rw [if_neg d]
      refine ⟨_, rfl, iteT ?_⟩
      obtain ⟨pb, hbd, hbs⟩ := I.lb.ex
      obtain ⟨p, us, v1, hp, hbat⟩ := bdK_get hbs hx
      walk_at "rd"
      obtain ⟨f, hf, _, ebf⟩ := bodyOf_mem hx
      have gb : DGet H bd (.str x) (some (.ref p)) := by
        have := DGet.r (k := Sum.inr x) hbd
        rw [v1] at this
        exact this
      refine ⟨gb, ?_⟩
      walk_at "rd"
      refine ⟨(), bodyOf fs x, p, us, bd, kd, fs, rfl, hp, hbat, by rw [← ebf]; exact I.ok.gb f hf, I, fun y hy => hb y hy, fun G I2 => ?_⟩
      obtain ⟨ks2, hk2, nk2, sk2⟩ := I2.kn
      have lk : ks2.length ≤ 100000 := by
        have := nodup_le nk2 sk2
        have e : (namesF fs).length = fs.length := by unfold namesF; rw [List.length_map]
        have := I.ok.ln
        omega
      have ew : wtB fs 13 (bodyOf fs x) = wtF fs 13 x := by rw [← wtF_succ]; exact wtF_st fs 13 14 x (I.ac x hx) (by omega)
      rw [ew]
      walk_at "rd"
      refine ⟨_, rfl, DPut.k (k := Sum.inr x) hk2 (by rw [List.length_map, sizeLine_eq]; omega), ?_⟩
      rw [kn_put]
      have mem : x ∈ (if x ∈ ks2 then ks2 else ks2 ++ [x]) := by split; assumption; simp
      have nd : (if x ∈ ks2 then ks2 else ks2 ++ [x]).Nodup := by
        split
        · exact nk2
        · rename_i z
          exact List.nodup_append.mpr ⟨nk2, by simp, fun a ha b hb e => z (by rw [← List.mem_singleton.mp hb, ← e]; exact ha)⟩
      have sk : ∀ y ∈ (if x ∈ ks2 then ks2 else ks2 ++ [x]), y ∈ namesF fs := by
        split
        · exact sk2
        · intro y hy
          rcases List.mem_append.mp hy with hy | hy
          · exact sk2 y hy
          · rw [List.mem_singleton.mp hy]; exact hx
      generalize (if x ∈ ks2 then ks2 else ks2 ++ [x]) = ks3 at mem nd sk
      have e3 := upd_same (H := G) (a := kd) (o := .dK (ks3.map fun x => ((Sum.inr x : Key), V.int (wtF fs 13 x : Int))))
      have k3 : Kp (fun b => b = kd) G (upd G kd (.dK (ks3.map fun x => ((Sum.inr x : Key), V.int (wtF fs 13 x : Int))))) := Kp.refl.set1
      have I3 : WtI H _ bd kd fs := ⟨I2.k.trans k3, I2.lb.keep k3 hk2 I2.ne, ⟨ks3, e3, nd, sk⟩, I.ok, I.ac, I.ne⟩
      walk_at "rd"
      refine ⟨fin e3 mem, ?_⟩
      exact k _ I3
theorem ok_bodyw (T : Txt K mg a d) (n : Nat) (G_weight_of : FnOk P w K mg base CX0 (2 * n + 16) a.weight_of d.weight_of ["name", "bodies", "known"] (spWtOf n)) : FnOk P w K mg base CX0 (2 * n + 17) a.body_weight d.body_weight ["body", "bodies", "known"] (spWtB n) := by
  have G_free_statements : FnOk P w K mg base CX0 14 a.free_statements d.free_statements ["body"] spFree := ok_free_statements T
  refine T.body_weight.ok (k := 2 * n + 16) sc_body_weight (fun vs H Q E h => ?_) (fun cdv A outer s H vs Q E hr h => ?_)
  · obtain ⟨_, _, _, _, _, _, _, rfl, _⟩ := h
    rfl
  · obtain ⟨_, b, p, us, bd, kd, fs, rfl, hp, hb, hg, I, hc, k⟩ := h
    refine ⟨_, (pss_cons (ps_set (i := 3) sc_body_weight.nd rfl (Or.inl rfl) pe_int)
  (pss_cons (ps_for PassesOwn.never rfl (pi_list (pe_call G_free_statements (hr.mono (by omega)) (by rfl) T.g_free_statements T.free_statements.kp T.b_free_statements .nil pass0 (pa_cons (pv 0) pa_nil))) (pg_name (i := 4) sc_body_weight.nd rfl (Or.inl rfl))
  (pss_cons (ps_aug (i := 3) sc_body_weight.nd rfl (Or.inl rfl) pe_int ip_add)
  (pss_one (ps_if (PW.pt (pw_and (pt_cmpR op_eq (pe_ix ix_tup (pv 4) pe_int (fun _ _ => rfl)) pe_str (nomark _)) (pw_and1 (pt_cmp (pc_din (hu_of hr) (pe_ix ix_tup (pv 4) pe_int (fun _ _ => rfl)) (pv 1)))))) (pss_one (ps_aug (i := 3) sc_body_weight.nd rfl (Or.inl rfl) (pe_call G_weight_of (hr.mono (by omega)) (by rfl) T.g_weight_of T.weight_of.kp T.b_weight_of .nil pass0 (pa_cons (pe_ix ix_tup (pv 4) pe_int (fun _ _ => rfl)) (pa_cons (pv 1) (pa_cons (pv 2) pa_nil)))) ip_add)) pss_nil))))
  (pss_one (ps_ret (pv 3))))), ?_⟩
    try dsimp only [cxOf]
    walk_at "rd"
    refine ⟨(), b, p, us, rfl, hp, hb, hg, fun H1 l ws s1 hl nl A => ?_⟩
    walk_at "rd"
    refine ⟨⟨_, SqL.of hl⟩, ?_⟩
    have lA := A.len
    have I1 := I.same s1
    have nlk : l ≠ kd := fun e => by obtain ⟨_, e2, _⟩ := I.kn; rw [e, e2] at nl; cases nl
    refine for_list (xs := ws) (fun i σ G => ∃ (_ : Unit) (o4 : Option V), σ = [some (.ref p), some (.ref bd), some (.ref kd), some (.int (((((freeB b).take i).map fun s => 1 + match callee fs s with | some y => wtF fs 13 y | none => 0).sum : Nat) : Int)), o4] ∧ WtI H1 G bd kd fs) ?_ ?_ ?_ ?_
    · exact ⟨(), none, rfl, Kp.refl, I1.lb, I1.kn, I1.ok, I1.ac, I1.ne⟩
    · rintro i σ G _ ⟨_, o4, rfl, I2⟩
      exact SqL.of (I2.k _ _ hl nlk)
    · rintro i v σ G hv ⟨_, o4, rfl, I2⟩
      obtain ⟨⟨h, ps⟩, hi, q, xs, rs, rfl, hq, hh, hps⟩ := A.at hv
      have hq2 : G q = some (.tup xs) := I2.k _ _ hq fun e => by obtain ⟨_, e2, _⟩ := I1.kn; rw [e, e2] at hq; cases hq
      obtain ⟨t, rfl⟩ := hh.fst
      have a0 : ∀ (x : V) (t : List V), atI (x :: t) 0 = some x := fun x t => (atI_nat rfl : atI (x :: t) ((0 : Nat) : Int) = _)
      have a1 : ∀ (y x : V) (t : List V), atI (y :: x :: t) 1 = some x := fun y x t => (atI_nat rfl : atI (y :: x :: t) ((1 : Nat) : Int) = _)
      have b0 := a0 (.str (kdS h)) t
      rw [List.take_add_one, hi, List.map_append, List.sum_append]
      have sm : (((some (Stm.mk h ps)).toList.map fun s => 1 + match callee fs s with | some y => wtF fs 13 y | none => 0).sum : Nat) = 1 + match callee fs (.mk h ps) with | some y => wtF fs 13 y | none => 0 := by simp
      rw [sm]
      generalize (((freeB b).take i).map fun s => 1 + match callee fs s with | some y => wtF fs 13 y | none => 0).sum = S
      obtain ⟨hok, _⟩ : SOk (.mk h ps) := by
        have hm := List.mem_of_getElem? hi
        obtain ⟨z, hz, e⟩ := List.mem_map.mp hm
        exact hg.ok _ (by rw [← e, ← lsB_fst false]; exact List.mem_map_of_mem (List.mem_filter.mp hz).1)
      have hcal : ∀ y, callee fs (.mk h ps) = some y → Hb fs n y := fun y e => hc y (List.mem_filterMap.mpr ⟨_, List.mem_of_getElem? hi, e⟩)
      have fin : ∀ (m : Nat) (G' : Hp) (o4 : Option V), (match callee fs (.mk h ps) with | some y => wtF fs 13 y | none => 0) = m → WtI H1 G' bd kd fs → ∃ (_ : Unit) (o : Option V), [some (.ref p), some (.ref bd), some (.ref kd), some (.int ((S : Int) + 1 + (m : Int))), o4] = [some (.ref p), some (.ref bd), some (.ref kd), some (V.int ((S + (1 + match callee fs (.mk h ps) with | some y => wtF fs 13 y | none => 0) : Nat) : Int)), o] ∧ WtI H1 G' bd kd fs := fun m G' o4 em I3 =>
        ⟨(), o4, by rw [em, show ((S : Int) + 1 + (m : Int)) = ((S + (1 + m) : Nat) : Int) by omega], I3⟩
      walk_at "rd"
      refine ite2 (fun c1 => ?_) (fun c1 => ?_)
      · have e1 : kdS h = "call" := V.str.inj (of_decide_eq_true c1)
        cases h with
        | one kd' w =>
          have e1 : kd' = "call" := e1
          subst e1
          obtain ⟨rfl, e⟩ := hh
          rw [e] at hq2
          have b1 := a1 (.str "call") (.str w) []
          obtain ⟨pb, hbd, hbs⟩ := I2.lb.ex
          have lbs := hbs.len
          walk_at "rd"
          refine ⟨_, rfl, DGet.r (k := Sum.inr w) hbd, ?_⟩
          by_cases d : w ∈ namesF fs
          · have ec : callee fs (.mk (.one "call" w) ps) = some w := if_pos ⟨rfl, d⟩
            rw [valV_some (by rw [bdK_keys lbs]; exact inr_mem.mpr d)]
            refine ⟨_, rfl, iteT ?_⟩
            walk_at "rd"
            refine ⟨(), w, bd, kd, fs, rfl, ⟨Kp.refl, I2.lb, I2.kn, I2.ok, I2.ac, I2.ne⟩, d, hcal _ ec, fun G3 I3 => ?_⟩
            walk_at "rd"
            exact fin _ _ _ (by rw [ec]) (I2.trans I3)
          · have ec : callee fs (.mk (.one "call" w) ps) = none := if_neg fun z => d z.2
            rw [valV_none (by rw [bdK_keys lbs]; exact fun z => d (inr_mem.mp z))]
            refine ⟨_, rfl, iteF ?_⟩
            exact fin 0 _ _ (by rw [ec]) I2
        | sim w => rcases in2 hok with z | z <;> (rw [show kdS (.sim w) = w from rfl, z] at e1; exact absurd e1 (by decide))
        | gua w => rcases inG hok with z | z <;> (rw [show kdS (.gua w) = w from rfl, z] at e1; exact absurd e1 (by decide))
        | blk _ _ _ => rw [show kdS (.blk _ _ _) = "block" from rfl] at e1; exact absurd e1 (by decide)
        | tr _ _ => rw [show kdS (.tr _ _) = "try" from rfl] at e1; exact absurd e1 (by decide)
      · have ec : callee fs (.mk h ps) = none := by
          cases h with
          | one kd' w => exact if_neg fun z => c1 (decide_eq_true (by rw [show kdS (.one kd' w) = kd' from rfl, z.1]))
          | _ => rfl
        exact fin 0 _ _ (by rw [ec]) I2
    · rintro σ G ⟨_, o4, rfl, I2⟩
      rw [lA, List.take_length]
      walk_at "rd"
      exact k _ ⟨(Kp.of_same s1).trans I2.k, I2.lb, I2.kn, I2.ok, I2.ac, I2.ne⟩
theorem ok_weight (T : Txt K mg a d) : ∀ n, FnOk P w K mg base CX0 (2 * n + 16) a.weight_of d.weight_of ["name", "bodies", "known"] (spWtOf n)
  | 0 => fn_noneX fun vs H Q E ⟨_, x, bd, kd, fs, _, _, _, h, _⟩ => h
  | n + 1 => ok_weight_succ T n (ok_bodyw T n (ok_weight T n))
/-! ### a library in the heap; what it tells -/
structure LA where
  x : Addr
  dx : Addr
  ll : Addr
  sd : Addr
  bd : Addr
  ml : Addr
  pl : Addr
def liF (L : LA) (z : Str) : List (Str × V) := [("text", .str z), ("lines", .ref L.ll), ("starts", .ref L.sd), ("bodies", .ref L.bd), ("marks", .ref L.ml), ("pairs", .ref L.pl)]
def pairsF (fs : List Fun) : List (Stm × Bool) := (fs.map fun f => lsB false f.body).flatten
def allF (fs : List Fun) : List Stm := (fs.map fun f => allB f.body).flatten
theorem pairsF_fst (fs : List Fun) : (pairsF fs).map (·.1) = allF fs := by
  unfold pairsF allF
  rw [List.map_flatten, List.map_map]
  exact congrArg _ (List.map_congr_left fun f _ => lsB_fst false f.body)
def nameOf (k : Str) (s : Stm) : Option Str := match s.hd with
  | .one k' w => if k' = k then some w else none
  | _ => none
theorem nameOf_one (k k' w : Str) (ps : List (List Stm)) : nameOf k (.mk (.one k' w) ps) = if k' = k then some w else none := rfl
theorem nameOf_no (k : Str) {h : Hd} (ps : List (List Stm)) (c : kdS h ≠ k) : nameOf k (.mk h ps) = none := by
  cases h with
  | one k' w1 => exact if_neg c
  | _ => rfl
def recN (fs : List Fun) : List Str := (allF fs).filterMap (nameOf "write")
def errN (fs : List Fun) : List Str := (["doomed", "missing", "present", "refused", "waits"] : List Str) ++ ((allF fs).map fun s => wordsH s.hd).flatten
def unkN (fs : List Fun) : List Str := ((allF fs).filterMap (nameOf "call")).filter fun w => !decide (w ∈ namesF fs)
structure LibOk (fs : List Fun) (mk : List Mk) : Prop where
  lb : LbOk fs
  wd : wP (allF fs) ≤ 4000
  lm : mk.length ≤ 100000
  ps : ∀ s ∈ allF fs, SOk s
structure LibAt (a : Ad) (H : Hp) (L : LA) (z : Str) (lines : List Str) (fs : List Fun) (mk : List Mk) : Prop where
  ob : H L.x = some (.ins a.Library L.dx (liF L z))
  li : H L.ll = some (.lst (lines.map V.str))
  sd : H L.sd = some (.dK (stK fs))
  bd : LbAt H L.bd fs
  ml : ∃ ms : List Addr, H L.ml = some (.lst (ms.map V.ref)) ∧ A2 (MkAt H) ms mk
  pl : ∃ ts : List Addr, H L.pl = some (.lst (ts.map V.ref)) ∧ A2 (PairAt H) ts (pairsF fs)
  ok : LibOk fs mk
theorem LibAt.same {a : Ad} {H H' : Hp} {L : LA} {z : Str} {lines : List Str} {fs : List Fun} {mk : List Mk} (h : LibAt a H L z lines fs mk) (s : Same H H') : LibAt a H' L z lines fs mk := by
  obtain ⟨ms, m1, m2⟩ := h.ml
  obtain ⟨ts, t1, t2⟩ := h.pl
  exact ⟨s _ _ h.ob, s _ _ h.li, s _ _ h.sd, h.bd.same s, ⟨ms, s _ _ m1, m2.imp fun _ _ r => s _ _ r⟩, ⟨ts, s _ _ t1, t2.imp fun _ _ r => r.tup (TupK.of_same s)⟩, h.ok⟩
theorem wP_len (l : List Stm) : l.length ≤ wP l := by
  induction l with
  | nil => exact Nat.le_refl _
  | cons s r ih => rw [wP_cons, List.length_cons]; unfold wN; omega
theorem setT_snoc (xs : List Str) (k : Str) : setT (xs ++ [k]) = addT k (setT xs) := by
  unfold setT
  rw [List.foldl_append]; rfl
theorem setT_lt {xs : List Str} {n : Nat} (h : xs.length ≤ n) : (setT xs).length ≤ n := Nat.le_trans setT_len h
theorem LibOk.len {fs : List Fun} {mk : List Mk} (h : LibOk fs mk) : (pairsF fs).length ≤ 4000 := by
  have := wP_len (allF fs)
  have := h.wd
  rw [← pairsF_fst, List.length_map] at *
  omega
theorem LibAt.pair {a : Ad} {H : Hp} {L : LA} {z : Str} {lines : List Str} {fs : List Fun} {mk : List Mk} (I : LibAt a H L z lines fs mk) {ts : List Addr} (hts : A2 (PairAt H) ts (pairsF fs)) {i : Nat} {v : V} (hv : (ts.map V.ref)[i]? = some v) :
    ∃ (s : Stm) (g : Bool) (t q : Addr) (xs : List V) (rs : List Addr), v = .ref t ∧ (allF fs)[i]? = some s ∧ H t = some (.tup [.ref q, .bl g]) ∧ H q = some (.tup xs) ∧ HdAt H s.hd rs xs ∧ HdOk s.hd ∧ SAt H s (.ref q) := by
  rw [List.getElem?_map] at hv
  cases e : ts[i]? with
  | none => rw [e] at hv; cases hv
  | some t =>
    rw [e] at hv; cases hv
    obtain ⟨⟨⟨h, ps⟩, g⟩, hp, v, ht, q, xs, rs, rfl, hq, hh, hps⟩ := hts.at e
    have hi : (allF fs)[i]? = some (.mk h ps) := by rw [← pairsF_fst, List.getElem?_map, hp]; rfl
    exact ⟨.mk h ps, g, t, q, xs, rs, rfl, hi, ht, hq, hh, (I.ok.ps _ (List.mem_of_getElem? hi)).1, q, xs, rs, rfl, hq, hh, hps⟩
theorem HdOk.one : ∀ {h : Hd} {k : Str}, HdOk h → kdS h = k → k ∈ (["write", "raise", "call"] : List Str) → ∃ w, h = .one k w
  | .sim w, _, o, rfl, m => by rcases in2 o with z | z <;> (rw [show kdS (.sim w) = w from rfl, z] at m; exact absurd m (by decide))
  | .one k w, _, _, rfl, _ => ⟨w, rfl⟩
  | .blk _ _ _, _, _, rfl, m => by rw [show kdS (.blk _ _ _) = "block" from rfl] at m; exact absurd m (by decide)
  | .gua k, _, o, rfl, m => by rcases inG o with z | z <;> (rw [show kdS (.gua k) = k from rfl, z] at m; exact absurd m (by decide))
  | .tr _ _, _, _, rfl, m => by rw [show kdS (.tr _ _) = "try" from rfl] at m; exact absurd m (by decide)
theorem words_all_le : ∀ l : List Stm, (l.map fun s => wordsH s.hd).flatten.length ≤ wP l
  | [] => Nat.le_refl _
  | s :: r => by
    have := words_all_le r
    rw [wP_cons, List.map_cons, List.flatten_cons, List.length_append]
    unfold wN; omega
theorem words_le {fs : List Fun} {i n : Nat} {s : Stm} (hi : (allF fs)[i]? = some s) (h : wP (allF fs) ≤ n) : (((allF fs).take i).map fun s => wordsH s.hd).flatten.length + (wordsH s.hd).length ≤ n := by
  have h1 := words_all_le ((allF fs).take i ++ [s])
  have e : allF fs = ((allF fs).take i ++ [s]) ++ (allF fs).drop (i + 1) := by
    have := List.take_append_drop (i + 1) (allF fs)
    rw [List.take_add_one, hi] at this
    exact this.symm
  rw [e, wP_app] at h
  rw [List.map_append, List.flatten_append, List.length_append] at h1
  simp only [List.map_cons, List.map_nil, List.flatten_cons, List.flatten_nil, List.append_nil] at h1
  omega
/-- a list that is new -/
def spLs (a : Ad) (X : List Fun → List Mk → List Str) : Sp := fun vs H Q _ => ∃ (_ : Unit) (L : LA) (z : Str) (lines : List Str) (fs : List Fun) (mk : List Mk), vs = [.ref L.x] ∧ LibAt a H L z lines fs mk ∧
  ∀ H' l, Same H H' → H l = none → H' l = some (.lst ((X fs mk).map V.str)) → Q (.ref l) H'
theorem stK_len (fs : List Fun) : (stK fs).length = fs.length := by unfold stK; rw [List.length_map]
theorem new_none {H H' : Hp} (s : Same H H') {l : Addr} (h : H' l = none) : H l = none := Kp.none (S := fun _ => False) (Kp.of_same s) (fun z => z) h
theorem ok_Library_functions (T : Txt K mg a d) : FnOk P w K mg base CX0 1 a.Library_functions d.Library_functions ["self"] (spLs a fun fs _ => sortT (namesF fs)) := by
  refine T.Library_functions.ok sc_Library_functions (fun vs H Q E h => ?_) (fun cdv A outer s H vs Q E hr h => ?_)
  · obtain ⟨_, _, _, _, _, _, rfl, _⟩ := h
    rfl
  · obtain ⟨_, L, z, lines, fs, mk, rfl, I, k⟩ := h
    have c1 := T.k_Library
    have n1 := T.na_Library_bodies
    refine ⟨_, (pss_one (ps_ret (pe_callB (cr_sortDK rfl) (by rfl) T.n_sorted (by decide +kernel) (pa_cons (pe_fld (pv 0) rfl) pa_nil)))), ?_⟩
    try dsimp only [cxOf]
    have ho := I.ob
    obtain ⟨ps, hbd, hbs⟩ := I.bd.ex
    have l2 : List.lookup ("bodies" : Str) (liF L z) = some (.ref L.bd) := rfl
    have ek : (bdK fs ps).map (·.1) = (namesF fs).map Sum.inr := bdK_keys hbs.len
    walk_at "rd"
    intro l hl
    exact k _ _ ((Same.refl H).new hl) hl upd_same
theorem ok_Library_blocks (T : Txt K mg a d) : FnOk P w K mg base CX0 1 a.Library_blocks d.Library_blocks ["self"] (spLs a fun _ mk => mk.map (·.2)) := by
  refine T.Library_blocks.ok sc_Library_blocks (fun vs H Q E h => ?_) (fun cdv A outer s H vs Q E hr h => ?_)
  · obtain ⟨_, _, _, _, _, _, rfl, _⟩ := h
    rfl
  · obtain ⟨_, L, z, lines, fs, mk, rfl, I, k⟩ := h
    have c1 := T.k_Library
    have n1 := T.na_Library_marks
    refine ⟨_, (pss_one (ps_ret (pe_lc (own := [("line", 1), ("mode", 2)]) (tt := tYes) rfl sc_Library_blocks.nd (pi_list (pe_fld (pv 0) rfl)) (blkOk_by (own := [("line", 1), ("mode", 2)]) (N := ["self", "line", "mode"]) (sc := defScope s_Library_blocks) (by decide +kernel)) (fun _ _ _ _ _ => (pg_tupK (K := K) 2 rfl rfl (pgs_cons (pg_name (i := 1) sc_Library_blocks.nd rfl (Or.inl rfl)) (pgs_cons (pg_name (i := 2) sc_Library_blocks.nd rfl (Or.inl rfl)) pgs_nil)))) (fun _ _ _ _ _ => pts_nil) (fun _ _ _ _ _ => (pv 2))))), ?_⟩
    try dsimp only [cxOf]
    have ho := I.ob
    obtain ⟨ms, hml, hms⟩ := I.ml
    have l2 : List.lookup ("marks" : Str) (liF L z) = some (.ref L.ml) := rfl
    have lms := hms.len
    have lm := I.ok.lm
    walk_at "rd"
    refine ⟨⟨_, SqL.of hml⟩, fun D hD => ?_⟩
    refine lc_list (xs := ms.map V.ref) (fun i G => Same H G ∧ G D = some (.lst (((mk.take i).map (·.2)).map V.str))) ?_ ?_ ?_ ?_
    · exact ⟨(Same.refl _).new hD, upd_same⟩
    · rintro i G _ ⟨s1, _⟩
      exact SqL.of (s1 _ _ hml)
    · rintro i v G hv ⟨s1, hG⟩
      obtain ⟨t, hti, rfl⟩ : ∃ t, ms[i]? = some t ∧ v = V.ref t := by
        rw [List.getElem?_map] at hv
        cases q : ms[i]? with
        | none => rw [q] at hv; cases hv
        | some t => rw [q] at hv; cases hv; exact ⟨t, rfl, rfl⟩
      obtain ⟨m, hmi, ht⟩ := hms.at hti
      have ht2 := s1 _ _ ht
      have li : i < ms.length := (List.getElem?_eq_some_iff.mp hti).1
      walk_at "rd"
      refine ⟨by rw [List.length_map, List.length_map, List.length_take, sizeLine_eq]; omega, s1.frsh hD, ?_⟩
      rw [upd_same, List.take_add_one, hmi, List.map_append, List.map_append]; rfl
    · rintro G ⟨s1, hG⟩
      rw [List.length_map, lms, List.take_length] at hG
      walk_at "rd"
      exact k _ _ s1 hD hG
theorem ok_Library_records (T : Txt K mg a d) : FnOk P w K mg base CX0 1 a.Library_records d.Library_records ["self"] (spLs a fun fs _ => sortT (setT (recN fs))) := by
  refine T.Library_records.ok sc_Library_records (fun vs H Q E h => ?_) (fun cdv A outer s H vs Q E hr h => ?_)
  · obtain ⟨_, _, _, _, _, _, rfl, _⟩ := h
    rfl
  · obtain ⟨_, L, z, lines, fs, mk, rfl, I, k⟩ := h
    have c1 := T.k_Library
    have n1 := T.na_Library_pairs
    refine ⟨_, (pss_one (ps_ret (pe_callB (cr_sortTS rfl) (by rfl) T.n_sorted (by decide +kernel) (pa_cons (pe_scT (own := [("statement", 1), ("is_guarded", 2)]) rfl sc_Library_records.nd (pi_list (pe_fld (pv 0) rfl)) (blkOk_by (own := [("statement", 1), ("is_guarded", 2)]) (N := ["self", "statement", "is_guarded"]) (sc := defScope s_Library_records) (by decide +kernel)) (fun _ _ _ _ _ => (pg_tupK (K := K) 2 rfl rfl (pgs_cons (pg_name (i := 1) sc_Library_records.nd rfl (Or.inl rfl)) (pgs_cons (pg_name (i := 2) sc_Library_records.nd rfl (Or.inl rfl)) pgs_nil)))) (fun _ _ _ _ _ => (pts_one (pt_cmpR op_eq (pe_ix (ix_tupK (K := K) rfl) (pv 1) pe_int (fun _ _ => rfl)) pe_str (nomark _)))) (fun _ _ _ _ _ => (pe_ix (ix_tupK (K := K) rfl) (pv 1) pe_int (fun _ _ => rfl)))) pa_nil)))), ?_⟩
    try dsimp only [cxOf]
    have ho := I.ob
    obtain ⟨ts, hpl, hts⟩ := I.pl
    have l2 : List.lookup ("pairs" : Str) (liF L z) = some (.ref L.pl) := rfl
    have lts := hts.len
    have ln := I.ok.len
    walk_at "rd"
    refine ⟨⟨_, SqL.of hpl⟩, fun D hD => ?_⟩
    refine sc_listT (xs := ts.map V.ref) (fun i G => Same H G ∧ G D = some (TSO w D (setT (((allF fs).take i).filterMap (nameOf "write"))))) ?_ ?_ ?_ ?_
    · exact ⟨(Same.refl _).new hD, upd_same⟩
    · rintro i G _ ⟨s1, _⟩
      exact SqL.of (s1 _ _ hpl)
    · rintro i v G hv ⟨s1, hG⟩
      obtain ⟨⟨h, qs⟩, g, t, q, xs, rs, rfl, hi, ht, hq, hh, hok, _⟩ := I.pair hts hv
      change HdAt H h rs xs at hh
      change HdOk h at hok
      have ht2 := s1 _ _ ht
      have hq2 := s1 _ _ hq
      obtain ⟨tx, rfl⟩ := hh.fst
      have a0 : ∀ (x : V) (t : List V), atI (x :: t) 0 = some x := fun x t => (atI_nat rfl : atI (x :: t) ((0 : Nat) : Int) = _)
      have a1 : ∀ (y x : V) (t : List V), atI (y :: x :: t) 1 = some x := fun y x t => (atI_nat rfl : atI (y :: x :: t) ((1 : Nat) : Int) = _)
      have b0 := a0 (.str (kdS h)) tx
      have et : ((allF fs).take (i + 1)).filterMap (nameOf "write") = ((allF fs).take i).filterMap (nameOf "write") ++ (nameOf "write" (.mk h qs)).toList := by
        rw [List.take_add_one, hi, List.filterMap_append]
        cases e : nameOf "write" (.mk h qs) with
        | none => simp [List.filterMap_cons, e]
        | some w => simp [List.filterMap_cons, e]
      have lz : (setT (((allF fs).take i).filterMap (nameOf "write"))).length ≤ 4000 := setT_lt (Nat.le_trans (List.length_filterMap_le _ _) (by rw [List.length_take]; have := wP_len (allF fs); have := I.ok.wd; omega))
      rw [et]
      walk_at "rd"
      by_cases c : kdS h = "write"
      · rw [decide_eq_true (show V.str (kdS h) = V.str "write" by rw [c])]
        obtain ⟨w1, rfl⟩ := hok.one c (by decide)
        obtain ⟨rfl, e⟩ := hh
        rw [e] at hq2
        have b1 := a1 (.str "write") (.str w1) []
        refine iteT ?_
        walk_at "rd"
        refine ⟨by rw [show scanBound = 4096 from rfl]; omega, s1.frsh hD, ?_⟩
        rw [upd_same, nameOf_one, if_pos rfl]
        show _ = some (TSO w D (setT (_ ++ [w1])))
        rw [setT_snoc]
      · rw [decide_eq_false (fun e => c (V.str.inj e))]
        refine iteF ?_
        rw [nameOf_no _ _ c]
        exact ⟨s1, by rw [Option.toList_none, List.append_nil]; exact hG⟩
    · rintro G ⟨s1, hG⟩
      have ll : ts.length = (allF fs).length := by rw [lts, ← pairsF_fst, List.length_map]
      rw [List.length_map, ll, List.take_length] at hG
      walk_at "rd"
      intro p hp
      exact k _ _ (s1.new hp) (new_none s1 hp) upd_same
theorem ok_Library_errors (T : Txt K mg a d) : FnOk P w K mg base CX0 2 a.Library_errors d.Library_errors ["self"] (spLs a fun fs _ => sortT (setT (errN fs))) := by
  have G_words_of : FnOk P w K mg base CX0 1 a.words_of d.words_of ["statement"] spWords := ok_words_of T
  refine T.Library_errors.ok sc_Library_errors (fun vs H Q E h => ?_) (fun cdv A outer s H vs Q E hr h => ?_)
  · obtain ⟨_, _, _, _, _, _, rfl, _⟩ := h
    rfl
  · obtain ⟨_, L, z, lines, fs, mk, rfl, I, k⟩ := h
    have c1 := T.k_Library
    have n1 := T.na_Library_pairs
    have q1 := T.q_DATABASE_ERRORS H
    refine ⟨_, (pss_cons (ps_set (i := 1) sc_Library_errors.nd rfl (Or.inl rfl) (pe_callTy call_list_of (by rfl) T.n_list (by decide +kernel) (pa_cons (pe_glob (v := .ref a.DATABASE_ERRORS) (by rfl) T.g_DATABASE_ERRORS rfl) pa_nil)))
  (pss_cons (ps_for PassesOwn.never rfl (pi_list (pe_fld (pv 0) rfl)) (pg_tup rfl (pgs_cons (pg_name (i := 2) sc_Library_errors.nd rfl (Or.inl rfl)) (pgs_cons (pg_name (i := 3) sc_Library_errors.nd rfl (Or.inl rfl)) pgs_nil)))
  (pss_one (ps_set (i := 1) sc_Library_errors.nd rfl (Or.inl rfl) (pe_op op_cat (pv 1) (pe_call G_words_of (hr.mono (by omega)) (by rfl) T.g_words_of T.words_of.kp T.b_words_of .nil pass0 (pa_cons (pv 2) pa_nil))))))
  (pss_one (ps_ret (pe_callB (cr_sortTS rfl) (by rfl) T.n_sorted (by decide +kernel) (pa_cons (pe_callTy (cr_setTSL rfl) (by rfl) T.n_set (by decide +kernel) (pa_cons (pv 1) pa_nil)) pa_nil)))))), ?_⟩
    try dsimp only [cxOf]
    have ho := I.ob
    obtain ⟨ts, hpl, hts⟩ := I.pl
    have l2 : List.lookup ("pairs" : Str) (liF L z) = some (.ref L.pl) := rfl
    have lts := hts.len
    have lw := I.ok.wd
    walk_at "rd"
    intro D0 hD0
    have s0 := (Same.refl H).new (o := .lst ((["doomed", "missing", "present", "refused", "waits"] : List Str).map V.str)) hD0
    have e0 := upd_same (H := H) (a := D0) (o := .lst ((["doomed", "missing", "present", "refused", "waits"] : List Str).map V.str))
    rw [show [V.str "doomed", V.str "missing", V.str "present", V.str "refused", V.str "waits"] = (["doomed", "missing", "present", "refused", "waits"] : List Str).map V.str from rfl]
    generalize upd H D0 (.lst ((["doomed", "missing", "present", "refused", "waits"] : List Str).map V.str)) = H0 at s0 e0 ⊢
    have ho0 := s0 _ _ ho
    walk_at "rd"
    refine ⟨⟨_, SqL.of (s0 _ _ hpl)⟩, ?_⟩
    refine for_list (xs := ts.map V.ref) (fun i σ G => ∃ (_ : Unit) (D : Addr) (o2 o3 : Option V), σ = [some (.ref L.x), some (.ref D), o2, o3] ∧ Same H G ∧ H D = none ∧ G D = some (.lst (((["doomed", "missing", "present", "refused", "waits"] : List Str) ++ (((allF fs).take i).map fun s => wordsH s.hd).flatten).map V.str))) ?_ ?_ ?_ ?_
    · exact ⟨(), D0, none, none, rfl, s0, hD0, by rw [e0]; rfl⟩
    · rintro i σ G _ ⟨_, D, o2, o3, rfl, s1, _⟩
      exact SqL.of (s1 _ _ hpl)
    · rintro i v σ G hv ⟨_, D, o2, o3, rfl, s1, hD, hG⟩
      obtain ⟨⟨h, qs⟩, g, t, q, xs, rs, rfl, hi, ht, hq, hh, hok, hs⟩ := I.pair hts hv
      change HdOk h at hok
      have ht2 := s1 _ _ ht
      have lwi : (((allF fs).take i).map fun s => wordsH s.hd).flatten.length + (wordsH h).length ≤ 4000 := words_le (s := .mk h qs) hi lw
      walk_at "rd"
      refine ⟨(), h, qs, _, rfl, hs.tup (TupK.of_same s1), hok, by omega, fun G2 l s2 hl nl => ?_⟩
      have hG2 := s2 _ _ hG
      walk_at "rd"
      refine ⟨by rw [List.length_map, List.length_map, List.length_append, sizeLine_eq]; simp only [List.length_cons, List.length_nil]; omega, fun p hp => ?_⟩
      refine ⟨(), p, _, _, rfl, (s1.trans s2).new hp, new_none (s1.trans s2) hp, ?_⟩
      rw [upd_same, List.take_add_one, hi]
      simp [Stm.hd]
    · rintro σ G ⟨_, D, o2, o3, rfl, s1, hD, hG⟩
      have ll : ts.length = (allF fs).length := by rw [lts, ← pairsF_fst, List.length_map]
      rw [List.length_map, ll, List.take_length] at hG
      walk_at "rd"
      have lt := words_all_le (allF fs)
      refine ⟨by rw [List.length_append, show scanBound = 4096 from rfl]; simp only [List.length_cons, List.length_nil]; omega, fun q hq => ?_⟩
      have s2 := (Same.refl G).new (o := TSO w q (setT (errN fs))) hq
      have e2 := upd_same (H := G) (a := q) (o := TSO w q (setT (errN fs)))
      rw [show ((["doomed", "missing", "present", "refused", "waits"] : List Str) ++ ((allF fs).map fun s => wordsH s.hd).flatten) = errN fs from rfl]
      generalize upd G q (TSO w q (setT (errN fs))) = G2 at s2 e2 ⊢
      walk_at "rd"
      intro p hp
      exact k _ _ ((s1.trans s2).new hp) (new_none (s1.trans s2) hp) upd_same
theorem ok_Library_unknown (T : Txt K mg a d) : FnOk P w K mg base CX0 1 a.Library_unknown d.Library_unknown ["self"] (spLs a fun fs _ => sortT (setT (unkN fs))) := by
  refine T.Library_unknown.ok sc_Library_unknown (fun vs H Q E h => ?_) (fun cdv A outer s H vs Q E hr h => ?_)
  · obtain ⟨_, _, _, _, _, _, rfl, _⟩ := h
    rfl
  · obtain ⟨_, L, z, lines, fs, mk, rfl, I, k⟩ := h
    have c1 := T.k_Library
    have n1 := T.na_Library_pairs
    have n2 := T.na_Library_bodies
    refine ⟨_, (pss_cons (ps_setLc (i := 1) (own := [("statement", 2), ("is_guarded", 3)]) rfl sc_Library_unknown.nd rfl rfl (sw_true rfl rfl rfl (by decide +kernel)) (pi_list (pe_fld (pv 0) rfl)) (blkOk_by (own := [("statement", 2), ("is_guarded", 3)]) (N := ["self", "called", "statement", "is_guarded", "name"]) (sc := defScope s_Library_unknown) (by decide +kernel)) (fun _ _ _ _ _ => (pg_tupK (K := K) 2 rfl rfl (pgs_cons (pg_name (i := 2) sc_Library_unknown.nd rfl (Or.inl rfl)) (pgs_cons (pg_name (i := 3) sc_Library_unknown.nd rfl (Or.inl rfl)) pgs_nil)))) (fun _ _ _ _ _ => (pts_one (pt_cmpR op_eq (pe_ix (ix_tupK (K := K) rfl) (pv 2) pe_int (fun _ _ => rfl)) pe_str (nomark _)))) (fun _ _ _ _ _ => (pe_ix (ix_tupK (K := K) rfl) (pv 2) pe_int (fun _ _ => rfl))))
  (pss_one (ps_ret (pe_callB (cr_sortTS rfl) (by rfl) T.n_sorted (by decide +kernel) (pa_cons (pe_scT (own := [("name", 4)]) rfl sc_Library_unknown.nd (pi_list (pv 1)) (blkOk_by (own := [("name", 4)]) (N := ["self", "called", "statement", "is_guarded", "name"]) (sc := defScope s_Library_unknown) (by decide +kernel)) (fun _ _ _ _ _ => (pg_name (i := 4) sc_Library_unknown.nd rfl (Or.inl rfl))) (fun _ _ _ _ _ => (pts_one (pt_cmp (pc_dnotin (hu_of hr) (pv 4) (pe_fldK (K := K) rfl (pv 0) rfl))))) (fun _ _ _ _ _ => (pv 4))) pa_nil))))), ?_⟩
    try dsimp only [cxOf]
    have ho := I.ob
    obtain ⟨ts, hpl, hts⟩ := I.pl
    have l2 : List.lookup ("pairs" : Str) (liF L z) = some (.ref L.pl) := rfl
    have lts := hts.len
    have lw := I.ok.wd
    have lc := wP_len (allF fs)
    walk_at "rd"
    refine ⟨⟨_, SqL.of hpl⟩, fun D hD => ?_⟩
    refine lc_list (xs := ts.map V.ref) (fun i G => Same H G ∧ G D = some (.lst ((((allF fs).take i).filterMap (nameOf "call")).map V.str))) ?_ ?_ ?_ ?_
    · exact ⟨(Same.refl _).new hD, upd_same⟩
    · rintro i G _ ⟨s1, _⟩
      exact SqL.of (s1 _ _ hpl)
    · rintro i v G hv ⟨s1, hG⟩
      obtain ⟨⟨h, qs⟩, g, t, q, xs, rs, rfl, hi, ht, hq, hh, hok, _⟩ := I.pair hts hv
      change HdAt H h rs xs at hh
      change HdOk h at hok
      have ht2 := s1 _ _ ht
      have hq2 := s1 _ _ hq
      obtain ⟨tx, rfl⟩ := hh.fst
      have a0 : ∀ (x : V) (t : List V), atI (x :: t) 0 = some x := fun x t => (atI_nat rfl : atI (x :: t) ((0 : Nat) : Int) = _)
      have a1 : ∀ (y x : V) (t : List V), atI (y :: x :: t) 1 = some x := fun y x t => (atI_nat rfl : atI (y :: x :: t) ((1 : Nat) : Int) = _)
      have b0 := a0 (.str (kdS h)) tx
      have et : ((allF fs).take (i + 1)).filterMap (nameOf "call") = ((allF fs).take i).filterMap (nameOf "call") ++ (nameOf "call" (.mk h qs)).toList := by
        rw [List.take_add_one, hi, List.filterMap_append]
        cases e : nameOf "call" (.mk h qs) with
        | none => simp [List.filterMap_cons, e]
        | some w => simp [List.filterMap_cons, e]
      have lz : (((allF fs).take i).filterMap (nameOf "call")).length ≤ 4000 := Nat.le_trans (List.length_filterMap_le _ _) (by rw [List.length_take]; omega)
      rw [et]
      walk_at "rd"
      by_cases c : kdS h = "call"
      · rw [decide_eq_true (show V.str (kdS h) = V.str "call" by rw [c])]
        obtain ⟨w1, rfl⟩ := hok.one c (by decide)
        obtain ⟨rfl, e⟩ := hh
        rw [e] at hq2
        have b1 := a1 (.str "call") (.str w1) []
        refine iteT ?_
        walk_at "rd"
        refine ⟨by rw [List.length_map, sizeLine_eq]; omega, s1.frsh hD, ?_⟩
        rw [upd_same, nameOf_one, if_pos rfl, List.map_append]
        rfl
      · rw [decide_eq_false (fun e => c (V.str.inj e))]
        refine iteF ?_
        rw [nameOf_no _ _ c]
        exact ⟨s1, by rw [Option.toList_none, List.append_nil]; exact hG⟩
    · rintro G ⟨s1, hG⟩
      have ll : ts.length = (allF fs).length := by rw [lts, ← pairsF_fst, List.length_map]
      rw [List.length_map, ll, List.take_length] at hG
      have ho1 := s1 _ _ ho
      obtain ⟨ps, hbd, hbs⟩ := I.bd.ex
      have l3 : List.lookup ("bodies" : Str) (liF L z) = some (.ref L.bd) := rfl
      have lbs := hbs.len
      have lcl : ((allF fs).filterMap (nameOf "call")).length ≤ 4000 := Nat.le_trans (List.length_filterMap_le _ _) (by omega)
      generalize eN : (allF fs).filterMap (nameOf "call") = N at hG lcl
      have eU : unkN fs = N.filter fun w => !decide (w ∈ namesF fs) := by rw [← eN]; rfl
      dsimp only at k
      rw [eU] at k
      walk_at "rd"
      refine ⟨⟨_, SqL.of hG⟩, fun S hS => ?_⟩
      refine sc_listT (xs := N.map V.str) (fun i G2 => Same G G2 ∧ G2 S = some (TSO w S (setT ((N.take i).filter fun w => !decide (w ∈ namesF fs))))) ?_ ?_ ?_ ?_
      · exact ⟨(Same.refl _).new hS, upd_same⟩
      · rintro i G2 _ ⟨s2, _⟩
        exact SqL.of (s2 _ _ hG)
      · rintro i v G2 hv ⟨s2, hG2⟩
        obtain ⟨y, hyi, rfl⟩ : ∃ y, N[i]? = some y ∧ v = V.str y := by
          rw [List.getElem?_map] at hv
          cases e : N[i]? with
          | none => rw [e] at hv; cases hv
          | some y => rw [e] at hv; cases hv; exact ⟨y, rfl, rfl⟩
        have ho2 := s2 _ _ ho1
        have hb2 := s2 _ _ (s1 _ _ hbd)
        have lz : (setT ((N.take i).filter fun w => !decide (w ∈ namesF fs))).length ≤ 4000 := setT_lt (Nat.le_trans (List.length_filter_le _ _) (by rw [List.length_take]; omega))
        rw [List.take_add_one, hyi, List.filter_append]
        walk_at "rd"
        refine ⟨_, rfl, DGet.k (k := Sum.inr y) hb2, ?_⟩
        by_cases d : y ∈ namesF fs
        · rw [valV_some (by rw [bdK_keys lbs]; exact inr_mem.mpr d)]
          refine ⟨_, rfl, iteF ?_⟩
          rw [show ((some y).toList.filter fun w => !decide (w ∈ namesF fs)) = [] by simp [d], List.append_nil]
          exact ⟨s2, hG2⟩
        · rw [valV_none (by rw [bdK_keys lbs]; exact fun z => d (inr_mem.mp z))]
          refine ⟨_, rfl, iteT ?_⟩
          walk_at "rd"
          refine ⟨by rw [show scanBound = 4096 from rfl]; omega, s2.frsh hS, ?_⟩
          rw [upd_same, show ((some y).toList.filter fun w => !decide (w ∈ namesF fs)) = [y] by simp [d], setT_snoc]
      · rintro G2 ⟨s2, hG2⟩
        rw [List.length_map, List.take_length] at hG2
        walk_at "rd"
        intro p hp
        exact k _ _ ((s1.trans s2).new hp) (new_none (s1.trans s2) hp) upd_same
/-! ### stay_in_bounds -/
def countsF (fs : List Fun) (mk : List Mk) : List (Str × Nat × Nat) :=
  [("functions", 12, fs.length), ("statements", 80, (pairsF fs).length), ("records", 6, (setT (recN fs)).length), ("errors", 11, (setT (errN fs)).length), ("blocks", 16, mk.length), ("unknown", 4, (setT (unkN fs)).length)]
def boundV (fs : List Fun) (mk : List Mk) : Option Str := ((countsF fs mk).find? fun c => decide (c.2.1 < c.2.2)).map (·.1)
theorem counts6 (x1 x2 x3 x4 x5 x6 : V) : mergeK (mergeK [] [((Sum.inr "functions" : Key), x1), (Sum.inr "statements", x2), (Sum.inr "records", x3)]) (mergeK [] [((Sum.inr "errors" : Key), x4), (Sum.inr "blocks", x5), (Sum.inr "unknown", x6)]) =
    [((Sum.inr "functions" : Key), x1), (Sum.inr "statements", x2), (Sum.inr "records", x3), (Sum.inr "errors", x4), (Sum.inr "blocks", x5), (Sum.inr "unknown", x6)] := rfl
def cntK (fs : List Fun) (mk : List Mk) : List (Key × V) := (countsF fs mk).map fun c => (Sum.inr c.1, .int (c.2.2 : Int))
theorem bnd_at (T : Txt K mg a d) (fs : List Fun) (mk : List Mk) : ∀ (i : Nat) (v : V), ([V.ref a.BOUNDS_0, .ref a.BOUNDS_1, .ref a.BOUNDS_2, .ref a.BOUNDS_3, .ref a.BOUNDS_4, .ref a.BOUNDS_5] : List V)[i]? = some v →
    ∃ (p : Addr) (w : Str) (m n : Nat), v = .ref p ∧ (countsF fs mk)[i]? = some (w, m, n) ∧ (∀ H, SqT K H p [.str w, .int (m : Int)]) ∧ valV (cntK fs mk) (Sum.inr w) = some (.int (n : Int))
  | 0, _, rfl => ⟨_, _, _, _, rfl, rfl, T.q_BOUNDS_0, rfl⟩
  | 1, _, rfl => ⟨_, _, _, _, rfl, rfl, T.q_BOUNDS_1, rfl⟩
  | 2, _, rfl => ⟨_, _, _, _, rfl, rfl, T.q_BOUNDS_2, rfl⟩
  | 3, _, rfl => ⟨_, _, _, _, rfl, rfl, T.q_BOUNDS_3, rfl⟩
  | 4, _, rfl => ⟨_, _, _, _, rfl, rfl, T.q_BOUNDS_4, rfl⟩
  | 5, _, rfl => ⟨_, _, _, _, rfl, rfl, T.q_BOUNDS_5, rfl⟩
theorem find_none' {α : Type} {p : α → Bool} {l : List α} (h : ∀ x ∈ l, p x = false) : l.find? p = none := List.find?_eq_none.mpr fun x hx => by rw [h x hx]; simp
theorem find_at {α : Type} {p : α → Bool} : ∀ {l : List α} {i : Nat} {x : α}, l[i]? = some x → p x = true → (∀ y ∈ l.take i, p y = false) → l.find? p = some x
  | y :: r, 0, _, e, h, _ => by cases e; exact List.find?_cons_of_pos h
  | y :: r, i + 1, x, e, h, n => by
    rw [List.find?_cons_of_neg (by rw [n y (by simp)]; simp)]
    exact find_at (l := r) (i := i) e h fun z hz => n z (by rw [List.take_succ_cons]; exact List.mem_cons_of_mem _ hz)
def outBd (a : Ad) (H : Hp) (Q : VK) (E : XK) : Option Str → Prop
  | none => ∀ H', Same H H' → Q .non H'
  | some w => ∀ H', Same H H' → errQ a.TooMany ef_TooMany [.str w] H' E
def spStay (a : Ad) : Sp := fun vs H Q E => ∃ (_ : Unit) (L : LA) (z : Str) (lines : List Str) (fs : List Fun) (mk : List Mk), vs = [.ref L.x] ∧ LibAt a H L z lines fs mk ∧ outBd a H Q E (boundV fs mk)
theorem ok_Library_stay_in_bounds (T : Txt K mg a d) : FnOk P w K mg base (L2.CX P w) 3 a.Library_stay_in_bounds d.Library_stay_in_bounds ["self"] (spStay a) := by
  have G_Library_records : FnOk P w K mg base CX0 1 a.Library_records d.Library_records ["self"] (spLs a fun fs _ => sortT (setT (recN fs))) := ok_Library_records T
  have G_Library_errors : FnOk P w K mg base CX0 2 a.Library_errors d.Library_errors ["self"] (spLs a fun fs _ => sortT (setT (errN fs))) := ok_Library_errors T
  have G_Library_unknown : FnOk P w K mg base CX0 1 a.Library_unknown d.Library_unknown ["self"] (spLs a fun fs _ => sortT (setT (unkN fs))) := ok_Library_unknown T
  refine T.Library_stay_in_bounds.okX sc_Library_stay_in_bounds (fun vs H Q E h => ?_) (fun cdv A outer s H vs Q E hr h => ?_)
  · obtain ⟨_, _, _, _, _, _, rfl, _⟩ := h
    rfl
  · obtain ⟨_, L, z, lines, fs, mk, rfl, I, out⟩ := h
    have c1 := T.k_Library
    have n1 := T.na_Library_pairs
    have n2 := T.na_Library_bodies
    have n3 := T.na_Library_marks
    refine ⟨_, (pss_cons (ps_set (i := 1) sc_Library_stay_in_bounds.nd rfl (Or.inl rfl) (pe_disp (pps_cons pe_str (pe_callB call_lenD (by rfl) T.n_len PySem.boot_len (pa_cons (pe_fld (pv 0) rfl) pa_nil)) (pps_cons pe_str (pe_callB call_len_seq (by rfl) T.n_len PySem.boot_len (pa_cons (pe_fld (pv 0) rfl) pa_nil)) (pps_cons pe_str (pe_callB call_len_seq (by rfl) T.n_len PySem.boot_len (pa_cons (pe_meth0 (pv 0) T.k_Library T.m_Library_records G_Library_records (hr.mono (by omega)) T.b_Library_records .nil pass0) pa_nil)) pps_nil))) rfl rfl (by simp) (by decide)))
  (pss_cons (ps_expr (pe_bm PySem.F.plainAttrs_dict PySem.F.slot_dict_update PySem.F.type_dict_update mt_updK (pv 1) (pa_cons (pe_disp (pps_cons pe_str (pe_callB call_len_seq (by rfl) T.n_len PySem.boot_len (pa_cons (pe_meth0 (pv 0) T.k_Library T.m_Library_errors G_Library_errors (hr.mono (by omega)) T.b_Library_errors .nil pass0) pa_nil)) (pps_cons pe_str (pe_callB call_len_seq (by rfl) T.n_len PySem.boot_len (pa_cons (pe_fld (pv 0) rfl) pa_nil)) (pps_cons pe_str (pe_callB call_len_seq (by rfl) T.n_len PySem.boot_len (pa_cons (pe_meth0 (pv 0) T.k_Library T.m_Library_unknown G_Library_unknown (hr.mono (by omega)) T.b_Library_unknown .nil pass0) pa_nil)) pps_nil))) rfl rfl (by simp) (by decide)) pa_nil)))
  (pss_one (ps_for (passes_of rfl) rfl (pi_tup (pe_glob (v := .ref a.BOUNDS) (by rfl) T.g_BOUNDS rfl)) (pg_tup rfl (pgs_cons (pg_name (i := 2) sc_Library_stay_in_bounds.nd rfl (Or.inl rfl)) (pgs_cons (pg_name (i := 3) sc_Library_stay_in_bounds.nd rfl (Or.inl rfl)) pgs_nil)))
  (pss_one (ps_if (pt_cmpR op_gt (pe_dget (hu_of hr) (pv 1) (pv 2) (fun _ _ => rfl)) (pv 3) (nomark _)) (pss_one (ps_raise rfl (takes_of rfl rfl rfl rfl) (pmk_err T.e_TooMany T.g_TooMany T.n_super hr (pa_cons (pv 2) pa_nil)))) pss_nil)))))), ?_⟩
    try dsimp only [cxOf]
    have ho := I.ob
    obtain ⟨ts, hpl, hts⟩ := I.pl
    obtain ⟨ms, hml, hms⟩ := I.ml
    obtain ⟨ps, hbd, hbs⟩ := I.bd.ex
    have l1 : List.lookup ("pairs" : Str) (liF L z) = some (.ref L.pl) := rfl
    have l2 : List.lookup ("bodies" : Str) (liF L z) = some (.ref L.bd) := rfl
    have l3 : List.lookup ("marks" : Str) (liF L z) = some (.ref L.ml) := rfl
    have m1 : List.lookup ("records" : Str) (liF L z) = none := rfl
    have m2 : List.lookup ("errors" : Str) (liF L z) = none := rfl
    have m3 : List.lookup ("unknown" : Str) (liF L z) = none := rfl
    walk_at "rd"
    intro c hc
    have s1 := (Same.refl H).new (o := .dK []) hc
    have e1 := upd_same (H := H) (a := c) (o := .dK [])
    generalize upd H c (.dK []) = H1 at s1 e1 ⊢
    have ho1 := s1 _ _ ho
    have hb1 := s1 _ _ hbd
    have hp1 := s1 _ _ hpl
    walk_at "rd"
    refine ⟨(), L, z, lines, fs, mk, rfl, I.same s1, fun H2 l s2 nl hl => ?_⟩
    dsimp only at hl
    have e2 := s2 _ _ e1
    have q1 := s1.trans s2
    walk_at "rd"
    refine ⟨show _ = List.map (fun kv => (kV kv.1, kv.2)) [((Sum.inr "functions" : Key), V.int ((bdK fs ps).length : Int)), (Sum.inr "statements", V.int ((ts.map V.ref).length : Int)), (Sum.inr "records", V.int (((sortT (setT (recN fs))).map V.str).length : Int))] from rfl, by show 3 ≤ 15; omega, ?_⟩
    rw [show (bdK fs ps).length = fs.length from by unfold bdK; rw [List.length_map, List.length_zip, hbs.len]; omega, show (ts.map V.ref).length = (pairsF fs).length from by rw [List.length_map, hts.len], show ((sortT (setT (recN fs))).map V.str).length = (setT (recN fs)).length from by rw [List.length_map, sortT_len]]
    generalize ek3 : mergeK [] [((Sum.inr "functions" : Key), V.int (fs.length : Int)), (Sum.inr "statements", V.int ((pairsF fs).length : Int)), (Sum.inr "records", V.int ((setT (recN fs)).length : Int))] = k3
    have s3 : Same H (upd H2 c (.dK k3)) := q1.frsh hc
    have e3 := upd_same (H := H2) (a := c) (o := .dK k3)
    generalize upd H2 c (.dK k3) = H3 at s3 e3 ⊢
    walk_at "rd"
    refine ⟨.inr (.inr (.inl ⟨rfl, .inl ⟨_, e3⟩⟩)), ?_⟩
    intro c2 hc2
    have s4 := (Same.refl H3).new (o := .dK []) hc2
    have e4 := upd_same (H := H3) (a := c2) (o := .dK [])
    have e4c := s4 _ _ e3
    have ncc : c ≠ c2 := ne_of_none e3 hc2
    have q4 := s3.trans s4
    have nc2 := new_none s3 hc2
    generalize upd H3 c2 (.dK []) = H4 at s4 e4 e4c q4 ⊢
    have ho4 := q4 _ _ ho
    have hm4 := q4 _ _ hml
    walk_at "rd"
    refine ⟨(), L, z, lines, fs, mk, rfl, I.same q4, fun H5 l5 s5 nl5 hl5 => ?_⟩
    dsimp only at hl5
    have q5 := q4.trans s5
    have e5 := s5 _ _ e4
    have e5c := s5 _ _ e4c
    have ho5 := q5 _ _ ho
    have hm5 := q5 _ _ hml
    walk_at "rd"
    refine ⟨(), L, z, lines, fs, mk, rfl, I.same q5, fun H6 l6 s6 nl6 hl6 => ?_⟩
    dsimp only at hl6
    have q6 := q5.trans s6
    have e6 := s6 _ _ e5
    have e6c := s6 _ _ e5c
    walk_at "rd"
    refine ⟨show _ = List.map (fun kv => (kV kv.1, kv.2)) [((Sum.inr "errors" : Key), V.int (((sortT (setT (errN fs))).map V.str).length : Int)), (Sum.inr "blocks", V.int ((ms.map V.ref).length : Int)), (Sum.inr "unknown", V.int (((sortT (setT (unkN fs))).map V.str).length : Int))] from rfl, by show 3 ≤ 15; omega, ?_⟩
    rw [show ((sortT (setT (errN fs))).map V.str).length = (setT (errN fs)).length from by rw [List.length_map, sortT_len], show (ms.map V.ref).length = mk.length from by rw [List.length_map, hms.len], show ((sortT (setT (unkN fs))).map V.str).length = (setT (unkN fs)).length from by rw [List.length_map, sortT_len]]
    have ek6 := counts6 (.int (fs.length : Int)) (.int ((pairsF fs).length : Int)) (.int ((setT (recN fs)).length : Int)) (.int ((setT (errN fs)).length : Int)) (.int (mk.length : Int)) (.int ((setT (unkN fs)).length : Int))
    rw [ek3] at ek6
    have lk3 : k3.length = 3 := by rw [← ek3]; rfl
    have lm3 : (mergeK [] [((Sum.inr "errors" : Key), V.int ((setT (errN fs)).length : Int)), (Sum.inr "blocks", V.int (mk.length : Int)), (Sum.inr "unknown", V.int ((setT (unkN fs)).length : Int))]).length = 3 := rfl
    generalize mergeK [] [((Sum.inr "errors" : Key), V.int ((setT (errN fs)).length : Int)), (Sum.inr "blocks", V.int (mk.length : Int)), (Sum.inr "unknown", V.int ((setT (unkN fs)).length : Int))] = m3 at ek6 lm3 ⊢
    have q7 : Same H (upd H6 c2 (.dK m3)) := q6.frsh nc2
    have e7 := upd_same (H := H6) (a := c2) (o := .dK m3)
    have e7c := upd_oth (o := .dK m3) ncc e6c
    generalize upd H6 c2 (.dK m3) = H7 at q7 e7 e7c ⊢
    walk_at "rd"
    refine ⟨by rw [lk3, lm3, sizeLine_eq]; omega, ?_⟩
    rw [ek6]
    have q8 : Same H (upd H7 c (.dK (cntK fs mk))) := q7.frsh hc
    have e8 := upd_same (H := H7) (a := c) (o := .dK (cntK fs mk))
    show ({ nx := _, rt := _ } : Ends).nx _ (upd H7 c (.dK (cntK fs mk)))
    generalize upd H7 c (.dK (cntK fs mk)) = H8 at q8 e8 ⊢
    walk_at "rd"
    refine ⟨⟨_, T.q_BOUNDS H8⟩, ?_⟩
    refine for_tup (xs := [V.ref a.BOUNDS_0, .ref a.BOUNDS_1, .ref a.BOUNDS_2, .ref a.BOUNDS_3, .ref a.BOUNDS_4, .ref a.BOUNDS_5]) (fun i σ G => ∃ (_ : Unit) (o2 o3 : Option V), σ = [some (.ref L.x), some (.ref c), o2, o3] ∧ G = H8 ∧ ∀ y ∈ (countsF fs mk).take i, decide (y.2.1 < y.2.2) = false) ?_ ?_ ?_ ?_
    · exact ⟨(), none, none, rfl, rfl, fun y hy => absurd hy (by simp)⟩
    · rintro i σ G _ ⟨_, o2, o3, rfl, rfl, _⟩
      exact T.q_BOUNDS _
    · rintro i v σ G hv ⟨_, o2, o3, rfl, rfl, hn⟩
      obtain ⟨p, ww, m, n, rfl, hi, hq, hv2⟩ := bnd_at T fs mk i v hv
      have hq8 := hq G
      have hg : DGet G c (.str ww) (some (.int (n : Int))) := by
        have := DGet.k (k := Sum.inr ww) e8
        rw [hv2] at this
        exact this
      walk_at "rd"
      have htk : (countsF fs mk).take (i + 1) = (countsF fs mk).take i ++ [(ww, m, n)] := by rw [List.take_add_one, hi]; rfl
      refine ite2 (fun c0 => ?_) (fun c0 => ?_)
      · have lt : m < n := by have := of_decide_eq_true c0; omega
        have e : boundV fs mk = some ww := by
          unfold boundV
          rw [find_at hi (decide_eq_true lt) hn]; rfl
        rw [e] at out
        walk_at "rd"
        exact out _ q8
      · refine ⟨(), _, _, rfl, rfl, fun y hy => ?_⟩
        rw [htk] at hy
        rcases List.mem_append.mp hy with hy | hy
        · exact hn y hy
        · rw [List.mem_singleton.mp hy]
          exact decide_eq_false fun z => c0 (decide_eq_true (by have z : m < n := z; omega))
    · rintro σ G ⟨_, o2, o3, rfl, rfl, hn⟩
      have e : boundV fs mk = none := by
        unfold boundV
        rw [find_none' fun x hx => hn x (by rw [List.take_of_length_le (by show 6 ≤ 6; omega)]; exact hx)]; rfl
      rw [e] at out
      exact out _ q8
/-! ### chains of calls; bodies inside bodies -/
def callsF (fs : List Fun) : Calls := fs.map fun f => (f.name, callsB fs f.body)
theorem callOf_eq (fs : List Fun) (x : Str) : callOf (callsF fs) x = callsB fs (bodyOf fs x) := by
  have : ∀ gs : List Fun, ((gs.map fun f => (f.name, callsB fs f.body)).find? fun p => decide (p.1 = x)) = (gs.find? fun f => decide (f.name = x)).map fun f => (f.name, callsB fs f.body) := by
    intro gs
    rw [List.find?_map]; rfl
  unfold callOf callsF bodyOf
  rw [this]
  cases fs.find? fun f => decide (f.name = x) with
  | none => rfl
  | some f => rfl
theorem callsF_keys (fs : List Fun) : (callsF fs).map (·.1) = namesF fs := by
  unfold callsF namesF
  rw [List.map_map]; rfl
theorem callee_mem {fs : List Fun} {s : Stm} {y : Str} (h : callee fs s = some y) : y ∈ namesF fs := by
  unfold callee at h
  split at h
  · split at h
    · rename_i c
      cases h; exact c.2
    · cases h
  · cases h
theorem callsB_mem {fs : List Fun} {b : List Stm} {y : Str} (h : y ∈ callsB fs b) : y ∈ namesF fs := by
  obtain ⟨s, _, e⟩ := List.mem_filterMap.mp h
  exact callee_mem e
theorem freeB_len (b : List Stm) : (freeB b).length ≤ (allB b).length := by
  unfold freeB
  rw [List.length_map, ← lsB_fst false, List.length_map]
  exact List.length_filter_le _ _
theorem clsOk {fs : List Fun} (h : LbOk fs) : ClsOk (callsF fs) := by
  refine ⟨by rw [callsF_keys]; exact h.nn, fun x y hy => ?_, fun x => ?_, by unfold callsF; rw [List.length_map]; exact h.ln⟩
  · rw [callOf_eq] at hy
    rw [callsF_keys]
    exact callsB_mem hy
  · rw [callOf_eq]
    refine Nat.le_trans (List.length_filterMap_le _ _) (Nat.le_trans (freeB_len _) ?_)
    by_cases c : x ∈ namesF fs
    · obtain ⟨f, hf, _, e⟩ := bodyOf_mem c
      rw [← e]
      exact (h.gb f hf).ct
    · have : bodyOf fs x = [] := by
        unfold bodyOf
        rw [find_none' fun f hf => decide_eq_false fun e : f.name = x => c (e ▸ List.mem_map_of_mem (f := Fun.name) hf)]; rfl
      rw [this]; exact Nat.zero_le _
theorem Hb_no {fs : List Fun} {n : Nat} {x : Str} (h : ¬ Hb fs (n + 1) x) : ∃ y ∈ callsB fs (bodyOf fs x), ¬ Hb fs n y :=
  Classical.byContradiction fun z => h fun y hy => Classical.byContradiction fun w => z ⟨y, hy, w⟩
theorem Hb_path {fs : List Fun} (ac : ∀ x ∈ namesF fs, ¬ Rch (callsF fs) x x) : ∀ (n : Nat) (x : Str) (vs : List Str), x ∈ namesF fs → ¬ Hb fs n x → vs.Nodup → (∀ v ∈ vs, v ∈ namesF fs) → (∀ v ∈ vs, Rch (callsF fs) v x) → n + vs.length ≤ fs.length
  | 0, x, vs, hx, _, nd, sb, _ => by
    have := nodup_le nd sb
    unfold namesF at this
    rw [List.length_map] at this
    omega
  | n + 1, x, vs, hx, h, nd, sb, rc => by
    obtain ⟨y, hy, hn⟩ := Hb_no h
    have nx : x ∉ vs := fun z => ac x hx (rc x z)
    have st : Rch (callsF fs) x y := .one (by rw [callOf_eq]; exact hy)
    have := Hb_path ac n y (x :: vs) (callsB_mem hy) hn (List.nodup_cons.mpr ⟨nx, nd⟩) (fun v hv => by
      rcases List.mem_cons.mp hv with rfl | hv
      · exact hx
      · exact sb v hv) (fun v hv => by
      rcases List.mem_cons.mp hv with rfl | hv
      · exact st
      · exact .more (rc v hv) (by rw [callOf_eq]; exact hy))
    rw [List.length_cons] at this
    omega
theorem Hb_all {fs : List Fun} (ac : ∀ x ∈ namesF fs, ¬ Rch (callsF fs) x x) (h : fs.length ≤ 12) : ∀ x ∈ namesF fs, Hb fs 13 x := fun x hx => Classical.byContradiction fun z => by
  have := Hb_path ac 13 x [] hx z List.nodup_nil (fun v hv => nomatch hv) (fun v hv => nomatch hv)
  omega
mutual
theorem subS {b : List Stm} {t : Stm} : ∀ {s : Stm}, t ∈ allS s → b ∈ t.ps → (∀ x ∈ allB b, x ∈ allS s) ∧ dpB b ≤ dpS s ∧ (allB b).length ≤ (allS s).length
  | .mk h ps, ht, hb => by
    rw [allS] at ht ⊢
    rcases List.mem_cons.mp ht with rfl | ht
    · obtain ⟨h1, h2, h3⟩ := subP1 (ps := ps) hb
      exact ⟨fun x hx => List.mem_cons_of_mem _ (h1 x hx), by rw [dpS]; omega, by rw [List.length_cons]; omega⟩
    · obtain ⟨h1, h2, h3⟩ := subP (ps := ps) ht hb
      exact ⟨fun x hx => List.mem_cons_of_mem _ (h1 x hx), by rw [dpS]; omega, by rw [List.length_cons]; omega⟩
theorem subP1 {b : List Stm} : ∀ {ps : List (List Stm)}, b ∈ ps → (∀ x ∈ allB b, x ∈ allP ps) ∧ dpB b ≤ dpP ps ∧ (allB b).length ≤ (allP ps).length
  | c :: r, hb => by
    rw [allP, dpP]
    rcases List.mem_cons.mp hb with rfl | hb
    · exact ⟨fun x hx => List.mem_append_left _ hx, by omega, by rw [List.length_append]; omega⟩
    · obtain ⟨h1, h2, h3⟩ := subP1 hb
      exact ⟨fun x hx => List.mem_append_right _ (h1 x hx), by omega, by rw [List.length_append]; omega⟩
theorem subP {b : List Stm} {t : Stm} : ∀ {ps : List (List Stm)}, t ∈ allP ps → b ∈ t.ps → (∀ x ∈ allB b, x ∈ allP ps) ∧ dpB b ≤ dpP ps ∧ (allB b).length ≤ (allP ps).length
  | c :: r, ht, hb => by
    rw [allP, dpP] at *
    rcases List.mem_append.mp ht with ht | ht
    · obtain ⟨h1, h2, h3⟩ := subB (c := c) ht hb
      exact ⟨fun x hx => List.mem_append_left _ (h1 x hx), by omega, by rw [List.length_append]; omega⟩
    · obtain ⟨h1, h2, h3⟩ := subP (ps := r) ht hb
      exact ⟨fun x hx => List.mem_append_right _ (h1 x hx), by omega, by rw [List.length_append]; omega⟩
theorem subB {b : List Stm} {t : Stm} : ∀ {c : List Stm}, t ∈ allB c → b ∈ t.ps → (∀ x ∈ allB b, x ∈ allB c) ∧ dpB b ≤ dpB c ∧ (allB b).length ≤ (allB c).length
  | s :: r, ht, hb => by
    rw [allB, dpB] at *
    rcases List.mem_append.mp ht with ht | ht
    · obtain ⟨h1, h2, h3⟩ := subS (s := s) ht hb
      exact ⟨fun x hx => List.mem_append_left _ (h1 x hx), by omega, by rw [List.length_append]; omega⟩
    · obtain ⟨h1, h2, h3⟩ := subB (c := r) ht hb
      exact ⟨fun x hx => List.mem_append_right _ (h1 x hx), by omega, by rw [List.length_append]; omega⟩
end
theorem LbOk.sub {fs : List Fun} (h : LbOk fs) {s : Stm} {b : List Stm} (hs : s ∈ allF fs) (hb : b ∈ s.ps) : GoodB b := by
  obtain ⟨l, hl, hx⟩ := List.mem_flatten.mp hs
  obtain ⟨f, hf, rfl⟩ := List.mem_map.mp hl
  obtain ⟨h1, h2, h3⟩ := subB hx hb
  have g := h.gb f hf
  exact ⟨fun x hx => g.ok x (h1 x hx), by have := g.dp; omega, by have := g.ct; omega⟩
inductive EndR
  | fine
  | loop (x : Str)
  | heavy
def heavyS (fs : List Fun) (s : Stm) : Bool := isG s.hd && match s.ps with | b :: _ => decide (400 < wtB fs 13 b) | [] => false
noncomputable def endR (fs : List Fun) : EndR := match (namesF fs).find? (backB (callsF fs)) with
  | some x => .loop x
  | none => if ((namesF fs).any fun x => decide (400 < wtF fs 13 x)) = true ∨ ((allF fs).any (heavyS fs)) = true then .heavy else .fine
/-! ### come_to_an_end -/
theorem free_ok {b : List Stm} (h : GoodB b) {hd : Hd} {qs : List (List Stm)} (m : Stm.mk hd qs ∈ freeB b) : HdOk hd := by
  obtain ⟨z, hz, e⟩ := List.mem_map.mp m
  exact (h.ok (.mk hd qs) (by rw [← e, ← lsB_fst false]; exact List.mem_map_of_mem (List.mem_filter.mp hz).1)).1
theorem clK_len {R : Addr → Str × List Str → Prop} {ls : List Addr} {cs : Calls} (h : A2 R ls cs) : (clK cs ls).length = cs.length := by
  unfold clK
  rw [List.length_map, List.length_zip, h.len]; omega
theorem clK_keys {R : Addr → Str × List Str → Prop} {ls : List Addr} {cs : Calls} (h : A2 R ls cs) : (clK cs ls).map (·.1) = (cs.map (·.1)).map Sum.inr := by
  unfold clK
  have e : (cs.zip ls).map Prod.fst = cs := List.map_fst_zip (by rw [h.len]; omega)
  have : ((cs.zip ls).map fun x => ((Sum.inr x.1.1 : Key), V.ref x.2)).map (·.1) = ((cs.zip ls).map Prod.fst).map fun f => (Sum.inr f.1 : Key) := by
    rw [List.map_map, List.map_map]; rfl
  rw [this, e, List.map_map]; rfl
theorem nodup_take {α : Type} : ∀ {l : List α} {i : Nat} {x : α}, l.Nodup → l[i]? = some x → x ∉ l.take i
  | y :: r, 0, x, _, _ => by simp
  | y :: r, i + 1, x, h, e => by
    obtain ⟨h1, h2⟩ := List.nodup_cons.mp h
    intro m
    rw [List.take_succ_cons] at m
    rcases List.mem_cons.mp m with rfl | m
    · exact h1 (List.mem_of_getElem? e)
    · exact nodup_take (l := r) (i := i) h2 e m
theorem bodyOf_at : ∀ {fs : List Fun} {f : Fun}, (namesF fs).Nodup → f ∈ fs → bodyOf fs f.name = f.body
  | g :: r, f, h, m => by
    obtain ⟨h1, h2⟩ := List.nodup_cons.mp h
    unfold bodyOf
    rcases List.mem_cons.mp m with rfl | m
    · rw [List.find?_cons_of_pos (by simp)]; rfl
    · rw [List.find?_cons_of_neg (by
        have : g.name ≠ f.name := fun e => h1 (show g.name ∈ _ from e ▸ List.mem_map_of_mem (f := Fun.name) m)
        simpa using this)]
      exact bodyOf_at (fs := r) h2 m
structure EnI (a : Ad) (H : Hp) (L : LA) (z : Str) (fs : List Fun) : Prop where
  ob : H L.x = some (.ins a.Library L.dx (liF L z))
  rb : RbAt H L.bd fs
  pl : ∃ ts : List Addr, H L.pl = some (.lst (ts.map V.ref)) ∧ A2 (PairAt H) ts (pairsF fs)
theorem EnI.kp {a : Ad} {H H' : Hp} {L : LA} {z : Str} {fs : List Fun} {S : Addr → Prop} (I : EnI a H L z fs) (k : Kp S H H') (hS : ∀ b, S b → ∃ kvs, H b = some (.dK kvs)) (nb : ¬ S L.bd) : EnI a H' L z fs := by
  have tk : TupK H H' := fun b l e => k _ _ e fun s => by obtain ⟨_, q⟩ := hS b s; rw [q] at e; cases e
  obtain ⟨ps, h1, h2⟩ := I.rb.ex
  obtain ⟨ts, t1, t2⟩ := I.pl
  exact ⟨k _ _ I.ob (fun s => by obtain ⟨_, q⟩ := hS _ s; have := I.ob; rw [q] at this; cases this), ⟨ps, Rd.to h1 fun u e => k _ _ e nb, h2.imp fun _ _ r => r.tup tk⟩, ts, k _ _ t1 (fun s => by obtain ⟨_, q⟩ := hS _ s; rw [q] at t1; cases t1), t2.imp fun _ _ r => r.tup tk⟩
theorem EnI.same {a : Ad} {H H' : Hp} {L : LA} {z : Str} {fs : List Fun} (I : EnI a H L z fs) (s : Same H H') : EnI a H' L z fs :=
  I.kp (S := fun _ => False) (Kp.of_same s) (fun b h => h.elim) (fun h => h)
/-- the dict of bodies is locked -/
theorem EnI.lock {a : Ad} {H : Hp} {L : LA} {z : Str} {fs : List Fun} {kvs : List (Key × V)} {od : Obj} (I : EnI a H L z fs) (h : H L.bd = some (.dK kvs)) : EnI a (upd H L.bd (.frz od (.dK kvs))) L z fs := by
  obtain ⟨ps, h1, h2⟩ := I.rb.ex
  obtain ⟨ts, t1, t2⟩ := I.pl
  have tk : TupK H (upd H L.bd (.frz od (.dK kvs))) := (LK.dk (m := L.ml) h).1
  have e : kvs = bdK fs ps := by
    rcases h1 with e | ⟨_, e⟩
    · rw [h] at e; cases e; rfl
    · rw [h] at e; cases e
  exact ⟨upd_oth (fun q => by have := I.ob; rw [q, h] at this; cases this) I.ob, ⟨ps, .inr ⟨od, by rw [upd_same, e]⟩, h2.imp fun _ _ r => r.tup tk⟩, ts, upd_oth (fun q => by rw [q, h] at t1; cases t1) t1, t2.imp fun _ _ r => r.tup tk⟩
theorem EnI.unlock {a : Ad} {H : Hp} {L : LA} {z : Str} {fs : List Fun} {kvs : List (Key × V)} {od : Obj} (I : EnI a H L z fs) (h : H L.bd = some (.frz od (.dK kvs))) : EnI a (upd H L.bd (.dK kvs)) L z fs := by
  obtain ⟨ps, h1, h2⟩ := I.rb.ex
  obtain ⟨ts, t1, t2⟩ := I.pl
  have tk : TupK H (upd H L.bd (.dK kvs)) := fun b l e => upd_oth (fun q => by rw [q, h] at e; cases e) e
  have e : kvs = bdK fs ps := by
    rcases h1 with e | ⟨_, e⟩
    · rw [h] at e; cases e
    · rw [h] at e; cases e; rfl
  exact ⟨upd_oth (fun q => by have := I.ob; rw [q, h] at this; cases this) I.ob, ⟨ps, .inl (by rw [upd_same, e]), h2.imp fun _ _ r => r.tup tk⟩, ts, upd_oth (fun q => by rw [q, h] at t1; cases t1) t1, t2.imp fun _ _ r => r.tup tk⟩
theorem Same.unlock {H F : Hp} {d : Addr} {f u : HO} (k : Same (upd H d f) F) (h : H d = some u) : Same H (upd F d u) := fun b o e => by
  by_cases c : b = d
  · subst c
    rw [h] at e; cases e
    exact upd_same
  · exact upd_oth c (k _ _ (upd_oth c e))
theorem backB_no {cs : Calls} {x : Str} (h : backB cs x = false) : ¬ Rch cs x x := by
  classical
  unfold backB at h
  exact of_decide_eq_false h
theorem Kp.drop {x k : Addr} {H F : Hp} (h : Kp (fun b => b = x ∨ b = k) H F) (n : H k = Option.none) : Kp (fun b => b = x) H F := fun b o e nb => h b o e fun z => z.elim nb fun z => by rw [z, n] at e; cases e
theorem Kp.unlock {S : Addr → Prop} {H F : Hp} {d : Addr} {f u : HO} (k : Kp S (upd H d f) F) (h : H d = some u) : Kp S H (upd F d u) := fun b o e n => by
  by_cases c : b = d
  · subst c
    rw [h] at e; cases e
    exact upd_same
  · exact upd_oth c (k _ _ (upd_oth c e) n)
theorem Kp.lockd {S : Addr → Prop} {H F : Hp} {d : Addr} {f : HO} (k : Kp S (upd H d f) F) : Kp (fun b => b = d ∨ S b) H F := fun b o e n => k _ _ (upd_oth (fun q => n (.inl q)) e) fun s => n (.inr s)
def outEn (a : Ad) (L : LA) (H : Hp) (Q : VK) (E : XK) : EndR → Prop
  | .fine => ∀ H', Same H H' → Q .non H'
  | .loop x => ∀ H', Kp (fun b => b = L.bd) H H' → errQ a.Endless ef_Endless [.str x] H' E
  | .heavy => ∀ H', Kp (fun b => b = L.bd) H H' → errQ a.TooMany ef_TooMany [.str "weight"] H' E
def spCte (a : Ad) : Sp := fun vs H Q E => ∃ (_ : Unit) (L : LA) (z : Str) (lines : List Str) (fs : List Fun) (mk : List Mk), vs = [.ref L.x] ∧ LibAt a H L z lines fs mk ∧ fs.length ≤ 12 ∧ outEn a L H Q E (endR fs)
theorem ok_Library_come_to_an_end (T : Txt K mg a d) : FnOk P w K mg base (L2.CX P w) 50 a.Library_come_to_an_end d.Library_come_to_an_end ["self"] (spCte a) := by
  have G_free_statements : FnOk P w K mg base CX0 14 a.free_statements d.free_statements ["body"] spFree := ok_free_statements T
  have G_comes_back : FnOk P w K mg base CX0 1 a.comes_back d.comes_back ["name", "calls"] spCome := ok_comes_back T
  have G_weight_of : FnOk P w K mg base CX0 42 a.weight_of d.weight_of ["name", "bodies", "known"] (spWtOf 13) := ok_weight T 13
  have G_body_weight : FnOk P w K mg base CX0 43 a.body_weight d.body_weight ["body", "bodies", "known"] (spWtB 13) := ok_bodyw T 13 G_weight_of
  obtain ⟨u0, v_MOST_WEIGHT, r_MOST_WEIGHT⟩ := T.v_MOST_WEIGHT
  refine T.Library_come_to_an_end.okX sc_Library_come_to_an_end (fun vs H Q E h => ?_) (fun cdv A outer s H vs Q E hr h => ?_)
  · obtain ⟨_, _, _, _, _, _, rfl, _⟩ := h
    rfl
  · obtain ⟨_, L, z, lines, fs, mk, rfl, I, l12, out⟩ := h
    have c1 := T.k_Library
    have n1 := T.na_Library_pairs
    have n2 := T.na_Library_bodies
    refine ⟨_, (pss_cons (ps_par (i := 1) (j := 2) rfl sc_Library_come_to_an_end.nd rfl rfl (by decide) rfl rfl (pa_cons pe_dnewK (pa_cons pe_dnewK pa_nil)) (by rfl))
  (pss_cons (ps_lock (ps_for (passes_of rfl) rfl (pi_keys (pe_fld (pv 0) rfl)) (pg_name (i := 3) sc_Library_come_to_an_end.nd rfl (Or.inl rfl))
  (pss_cons (ps_set (i := 4) sc_Library_come_to_an_end.nd rfl (Or.inl rfl) (pe_call G_free_statements (hr.mono (by omega)) (by rfl) T.g_free_statements T.free_statements.kp T.b_free_statements .nil pass0 (pa_cons (pe_dget (hu_of hr) (pe_fld (pv 0) rfl) (pv 3) (fun _ _ => rfl)) pa_nil)))
  (pss_one (ps_dput (hu_of hr) (pv 1) (pv 3) (pe_lc (own := [("one", 7)]) rfl sc_Library_come_to_an_end.nd (pi_list (pv 4)) (blkOk_by (own := [("one", 7)]) (N := ["self", "calls", "known", "name", "free", "statement", "is_guarded", "one"]) (sc := defScope s_Library_come_to_an_end) (by decide +kernel)) (fun _ _ _ _ _ => (pg_name (i := 7) sc_Library_come_to_an_end.nd rfl (Or.inl rfl))) (fun _ _ _ _ _ => (pts_one (PW.pt (pw_and (pt_cmpR op_eq (pe_ix (ix_tupK (K := K) rfl) (pv 7) pe_int (fun _ _ => rfl)) pe_str (nomark _)) (pw_and1 (pt_cmp (pc_din (hu_of hr) (pe_ix (ix_tupK (K := K) rfl) (pv 7) pe_int (fun _ _ => rfl)) (pe_fldK (K := K) rfl (pv 0) rfl)))))))) (fun _ _ _ _ _ => (pe_ix (ix_tupK (K := K) rfl) (pv 7) pe_int (fun _ _ => rfl)))) rfl)))))
  (pss_cons (ps_lock (ps_for (passes_of rfl) rfl (pi_keys (pe_fld (pv 0) rfl)) (pg_name (i := 3) sc_Library_come_to_an_end.nd rfl (Or.inl rfl))
  (pss_one (ps_if (pt_val (pe_call G_comes_back (hr.mono (by omega)) (by rfl) T.g_comes_back T.comes_back.kp T.b_comes_back .nil pass0 (pa_cons (pv 3) (pa_cons (pv 1) pa_nil)))) (pss_one (ps_raise rfl (takes_of rfl rfl rfl rfl) (pmk_err T.e_Endless T.g_Endless T.n_super hr (pa_cons (pv 3) pa_nil)))) pss_nil))))
  (pss_cons (ps_lock (ps_for (passes_of rfl) rfl (pi_keys (pe_fld (pv 0) rfl)) (pg_name (i := 3) sc_Library_come_to_an_end.nd rfl (Or.inl rfl))
  (pss_one (ps_if (pt_cmpR op_gt (pe_call G_weight_of (hr.mono (by omega)) (by rfl) T.g_weight_of T.weight_of.kp T.b_weight_of .nil pass0 (pa_cons (pv 3) (pa_cons (pe_fld (pv 0) rfl) (pa_cons (pv 2) pa_nil)))) (pe_glob (v := .int 400) (by rfl) v_MOST_WEIGHT r_MOST_WEIGHT) (nomark _)) (pss_one (ps_raise rfl (takes_of rfl rfl rfl rfl) (pmk_err T.e_TooMany T.g_TooMany T.n_super hr (pa_cons pe_str pa_nil)))) pss_nil))))
  (pss_one (ps_for (passes_of rfl) rfl (pi_list (pe_fld (pv 0) rfl)) (pg_tup rfl (pgs_cons (pg_name (i := 5) sc_Library_come_to_an_end.nd rfl (Or.inl rfl)) (pgs_cons (pg_name (i := 6) sc_Library_come_to_an_end.nd rfl (Or.inl rfl)) pgs_nil)))
  (pss_one (ps_if (PW.pt (pw_and (pt_cmpR op_in_seq (pe_ix ix_tup (pv 5) pe_int (fun _ _ => rfl)) (pe_tup (pa_cons pe_str (pa_cons pe_str pa_nil))) (by rfl)) (pw_and1 (pt_cmpR op_gt (pe_call G_body_weight (hr.mono (by omega)) (by rfl) T.g_body_weight T.body_weight.kp T.b_body_weight .nil pass0 (pa_cons (pe_ix ix_tup (pv 5) pe_int (fun _ _ => rfl)) (pa_cons (pe_fld (pv 0) rfl) (pa_cons (pv 2) pa_nil)))) (pe_glob (v := .int 400) (by rfl) v_MOST_WEIGHT r_MOST_WEIGHT) (nomark _))))) (pss_one (ps_raise rfl (takes_of rfl rfl rfl rfl) (pmk_err T.e_TooMany T.g_TooMany T.n_super hr (pa_cons pe_str pa_nil)))) pss_nil)))))))), ?_⟩
    try dsimp only [cxOf]
    have lbo := I.ok.lb
    have B0 : EnI a H L z fs := ⟨I.ob, I.bd.rb, I.pl⟩
    obtain ⟨ps, hbd, hbs⟩ := I.bd.ex
    have lbs := hbs.len
    have l1 : List.lookup ("pairs" : Str) (liF L z) = some (.ref L.pl) := rfl
    have l2 : List.lookup ("bodies" : Str) (liF L z) = some (.ref L.bd) := rfl
    walk_at "rd"
    intro c hc
    have s1 := (Same.refl H).new (o := .dK []) hc
    have e1 := upd_same (H := H) (a := c) (o := .dK [])
    generalize upd H c (.dK []) = H1 at s1 e1 ⊢
    walk_at "rd"
    intro kd hkd
    have ncd : c ≠ kd := ne_of_none e1 hkd
    have nkd := new_none s1 hkd
    have s2 := s1.new (o := .dK []) hkd
    have ec2 := upd_old (o := .dK []) e1 hkd
    have ek2 := upd_same (H := H1) (a := kd) (o := .dK [])
    generalize upd H1 kd (.dK []) = H2 at s2 ec2 ek2 ⊢
    have hbd2 := s2 _ _ hbd
    have nbc : L.bd ≠ c := ne_of_none hbd hc
    have nbk : L.bd ≠ kd := ne_of_none hbd nkd
    walk_at "rd"
    refine ⟨True.intro, fun od => ?_⟩
    have B2 := B0.same s2
    have B3 := B2.lock (od := od) hbd2
    have ho3 := B3.ob
    have e3 := upd_same (H := H2) (a := L.bd) (o := .frz od (.dK (bdK fs ps)))
    have ec3 := upd_oth (o := .frz od (.dK (bdK fs ps))) (Ne.symm nbc) ec2
    have ek3 := upd_oth (o := .frz od (.dK (bdK fs ps))) (Ne.symm nbk) ek2
    have fin3 : ∀ F, Kp (fun b => b = c) (upd H2 L.bd (.frz od (.dK (bdK fs ps)))) F → Kp (fun b => b = c) H2 (upd F L.bd (.dK (bdK fs ps))) := fun F k => k.unlock hbd2
    generalize eH3 : upd H2 L.bd (.frz od (.dK (bdK fs ps))) = H3 at B3 ho3 e3 ec3 ek3 fin3 ⊢
    walk_at "rd"
    refine .inl ⟨_, e3, ?_⟩
    have lK : (bdK fs ps).length = fs.length := by unfold bdK; rw [List.length_map, List.length_zip, lbs]; omega
    have keyAt : ∀ i k v, (bdK fs ps)[i]? = some (k, v) → ∃ f : Fun, fs[i]? = some f ∧ k = Sum.inr f.name := fun i k v e => by
      have e := congrArg (Option.map Prod.fst) e
      rw [← List.getElem?_map, bdK_keys lbs, List.map_map, List.getElem?_map] at e
      cases q : fs[i]? with
      | none => rw [q] at e; cases e
      | some f => rw [q] at e; cases e; exact ⟨f, q, rfl⟩
    refine for_it walk_keys (fun i σ F => ∃ (_ : Unit) (ls : List Addr) (o3 o4 o5 o6 o7 : Option V), σ = [some (.ref L.x), some (.ref c), some (.ref kd), o3, o4, o5, o6, o7] ∧ Kp (fun b => b = c) H3 F ∧ F c = some (.dK (clK ((callsF fs).take i) ls)) ∧ A2 (fun l p => F l = some (.lst (p.2.map V.str))) ls ((callsF fs).take i)) ?_ ?_ ?_ ?_
    · exact ⟨(), [], none, none, none, none, none, rfl, Kp.refl, ec3, .nil⟩
    · rintro i σ F _ ⟨_, ls, o3, o4, o5, o6, o7, rfl, k3, _⟩
      exact k3 _ _ e3 nbc
    · rintro i x σ F F' li ⟨_, ls, o3, o4, o5, o6, o7, rfl, k3, ecF, A⟩ ⟨rfl, kk, v, hki, rfl⟩
      rw [lK] at li
      obtain ⟨f, hfi, rfl⟩ := keyAt _ _ _ hki
      have BF := B3.kp k3 (fun b h => ⟨[], by rw [h]; exact ec3⟩) nbc
      have fm : f ∈ fs := List.mem_of_getElem? hfi
      have hx : f.name ∈ namesF fs := List.mem_map_of_mem fm
      obtain ⟨psF, hrd, hbsF⟩ := BF.rb.ex
      have lbF := hbsF.len
      obtain ⟨p, us, v1, hp, hbat⟩ := bdK_get hbsF hx
      have gb : DGet F' L.bd (.str f.name) (some (.ref p)) := by
        have := DGet.r (k := Sum.inr f.name) hrd
        rw [v1] at this
        exact this
      have hgood : GoodB (bodyOf fs f.name) := by
        obtain ⟨f2, hf2, _, e⟩ := bodyOf_mem hx
        rw [← e]; exact lbo.gb f2 hf2
      have hoF := BF.ob
      have hci : (callsF fs)[i]? = some (f.name, callsB fs (bodyOf fs f.name)) := by
        unfold callsF
        rw [List.getElem?_map, hfi, bodyOf_at lbo.nn fm]; rfl
      have hnew : f.name ∉ ((callsF fs).take i).map (·.1) := by
        rw [List.map_take, callsF_keys]
        exact nodup_take lbo.nn (by unfold namesF; rw [List.getElem?_map, hfi]; rfl)
      generalize f.name = nm at hx v1 gb hgood hbat hci hnew
      rw [show kV (Sum.inr nm) = V.str nm from rfl]
      walk_at "rd"
      refine ⟨(), bodyOf fs nm, p, us, rfl, hp, hbat, hgood, fun F4 l ws s4 hl nl A4 => ?_⟩
      have lA4 := A4.len
      have hl4 := hl
      walk_at "rd"
      refine ⟨⟨_, SqL.of hl4⟩, fun D hD => ?_⟩
      have hrd4 : Rd F4 L.bd (.dK (bdK fs psF)) := Rd.to hrd fun u e => s4 _ _ e
      have ho4 := s4 _ _ hoF
      have lfr : (freeB (bodyOf fs nm)).length ≤ 100000 := Nat.le_trans (freeB_len _) hgood.ct
      refine lc_list (xs := ws) (fun i G => Same F4 G ∧ G D = some (.lst ((((freeB (bodyOf fs nm)).take i).filterMap (callee fs)).map V.str))) ?_ ?_ ?_ ?_
      · exact ⟨(Same.refl _).new hD, upd_same⟩
      · rintro i G _ ⟨s5, _⟩
        exact SqL.of (s5 _ _ hl)
      · rintro i v G hv ⟨s5, hG⟩
        obtain ⟨⟨h, qs⟩, hi, q, xs, rs, rfl, hq, hh, hps⟩ := A4.at hv
        obtain ⟨tx, rfl⟩ := hh.fst
        have hok := free_ok hgood (List.mem_of_getElem? hi)
        have a0 : ∀ (x : V) (t : List V), atI (x :: t) 0 = some x := fun x t => (atI_nat rfl : atI (x :: t) ((0 : Nat) : Int) = _)
        have a1 : ∀ (y x : V) (t : List V), atI (y :: x :: t) 1 = some x := fun y x t => (atI_nat rfl : atI (y :: x :: t) ((1 : Nat) : Int) = _)
        have b0 := a0 (.str (kdS h)) tx
        have hq5 := s5 _ _ hq
        have ho5 := s5 _ _ ho4
        have hrd5 : Rd G L.bd (.dK (bdK fs psF)) := Rd.to hrd4 fun u e => s5 _ _ e
        have et : ((freeB (bodyOf fs nm)).take (i + 1)).filterMap (callee fs) = ((freeB (bodyOf fs nm)).take i).filterMap (callee fs) ++ (callee fs (.mk h qs)).toList := by
          rw [List.take_add_one, hi, List.filterMap_append]
          cases e : callee fs (.mk h qs) with
          | none => simp [List.filterMap_cons, e]
          | some w => simp [List.filterMap_cons, e]
        have lz : (((freeB (bodyOf fs nm)).take i).filterMap (callee fs)).length ≤ 100000 := Nat.le_trans (List.length_filterMap_le _ _) (by rw [List.length_take]; omega)
        rw [et]
        have no : callee fs (.mk h qs) = none → Same F4 G ∧ G D = some (.lst (((((freeB (bodyOf fs nm)).take i).filterMap (callee fs)) ++ (callee fs (.mk h qs)).toList).map V.str)) := fun e => ⟨s5, by rw [e, Option.toList_none, List.append_nil]; exact hG⟩
        walk_at "rd"
        by_cases cc : kdS h = "call"
        · rw [decide_eq_true (show V.str (kdS h) = V.str "call" by rw [cc])]
          obtain ⟨w1, rfl⟩ := hok.one cc (by decide)
          obtain ⟨rfl, e⟩ := hh
          rw [e] at hq5
          have b1 := a1 (.str "call") (.str w1) []
          refine iteT ?_
          walk_at "rd"
          refine ⟨_, rfl, DGet.r (k := Sum.inr w1) hrd5, ?_⟩
          by_cases dd : w1 ∈ namesF fs
          · rw [valV_some (by rw [bdK_keys lbF]; exact inr_mem.mpr dd)]
            refine ⟨_, rfl, iteT ?_⟩
            walk_at "rd"
            refine ⟨by rw [List.length_map, sizeLine_eq]; omega, s5.frsh hD, ?_⟩
            rw [upd_same, show callee fs (.mk (.one "call" w1) qs) = some w1 from if_pos ⟨rfl, dd⟩, List.map_append]
            rfl
          · rw [valV_none (by rw [bdK_keys lbF]; exact fun z => dd (inr_mem.mp z))]
            refine ⟨_, rfl, iteF ?_⟩
            exact no (if_neg fun z => dd z.2)
        · rw [decide_eq_false (fun e => cc (V.str.inj e))]
          refine iteF ?_
          refine no ?_
          cases h with
          | one k' w1 => exact if_neg fun z => cc z.1
          | _ => rfl
      · rintro G ⟨s5, hG⟩
        rw [lA4, List.take_length] at hG
        have hc5 := s5 _ _ (s4 _ _ ecF)
        have kcx := clK_len A
        walk_at "rd"
        refine ⟨_, rfl, DPut.k (k := Sum.inr nm) hc5 (by rw [kcx, List.length_take, sizeLine_eq]; omega), ?_⟩
        rw [putK_new _ (valV_none (by rw [clK_keys A]; exact fun z => hnew (inr_mem.mp z)))]
        have gcb : ∀ u, G D = some u → D ≠ c := fun u e q => by rw [q] at hD; rw [s4 _ _ ecF] at hD; cases hD
        have kG : Kp (fun b => b = c) F' (upd G c (.dK (clK ((callsF fs).take i) ls ++ [(Sum.inr nm, .ref D)]))) := ((Kp.of_same s4).trans (Kp.of_same s5)).set rfl
        refine ⟨(), ls ++ [D], _, _, _, _, _, rfl, k3.trans kG, ?_, ?_⟩
        · rw [upd_same, List.take_add_one, hci, show clK ((callsF fs).take i) ls ++ [((Sum.inr nm : Key), V.ref D)] = clK ((callsF fs).take i ++ (some (nm, callsB fs (bodyOf fs nm))).toList) (ls ++ [D]) from by
            unfold clK
            rw [List.zip_append A.len.symm, List.map_append]; rfl]
        · rw [List.take_add_one, hci]
          exact (A.imp fun l p e => kG _ _ e fun q => by rw [q, ecF] at e; cases e).app (.cons (upd_oth (gcb _ hG) hG) .nil)
    · rintro σ F ⟨_, ls, o3, o4, o5, o6, o7, rfl, k3, ecF, A⟩
      rw [lK, show fs.length = (callsF fs).length by unfold callsF; rw [List.length_map], List.take_length] at ecF A
      refine ⟨k3 _ _ e3 nbc, ?_⟩
      have kk := fin3 F k3
      have S1 : Same H (upd F L.bd (.dK (bdK fs ps))) := kk.same s2 fun b e => by rw [e]; exact hc
      have eF := k3 _ _ e3 nbc
      have BG := (B3.kp k3 (fun b h => ⟨[], by rw [h]; exact ec3⟩) nbc).unlock eF
      have CG : CallsAt (upd F L.bd (.dK (bdK fs ps))) c (callsF fs) := ⟨ls, upd_oth (Ne.symm nbc) ecF, A.imp fun l p e => upd_oth (fun q => by rw [q, eF] at e; cases e) e⟩
      have ekG := upd_oth (o := .dK (bdK fs ps)) (Ne.symm nbk) (k3 _ _ ek3 (Ne.symm ncd))
      have hbG := upd_same (H := F) (a := L.bd) (o := .dK (bdK fs ps))
      generalize upd F L.bd (.dK (bdK fs ps)) = G at S1 BG CG ekG hbG ⊢
      clear fin3 ek3 ec3 e3 ho3 B3 ek2 ec2 e1 ecF A eF k3 kk
      walk_at "rd"
      refine ⟨True.intro, fun od => ?_⟩
      have B3 := BG.lock (od := od) hbG
      have ho3 := B3.ob
      have e3 := upd_same (H := G) (a := L.bd) (o := .frz od (.dK (bdK fs ps)))
      have k3 : Kp (fun b => b = L.bd) G (upd G L.bd (.frz od (.dK (bdK fs ps)))) := Kp.refl.set1
      have fin3 : ∀ F, Same (upd G L.bd (.frz od (.dK (bdK fs ps)))) F → Same G (upd F L.bd (.dK (bdK fs ps))) := fun F s => Same.unlock s hbG
      have C3 : CallsAt (upd G L.bd (.frz od (.dK (bdK fs ps)))) c (callsF fs) := by
        obtain ⟨ls, h1, h2⟩ := CG
        exact ⟨ls, upd_oth (Ne.symm nbc) h1, h2.imp fun l p e => upd_oth (fun q => by rw [q, hbG] at e; cases e) e⟩
      generalize upd G L.bd (.frz od (.dK (bdK fs ps))) = G3 at B3 ho3 e3 k3 fin3 C3 ⊢
      walk_at "rd"
      refine .inl ⟨_, e3, ?_⟩
      refine for_it walk_keys (fun i σ F => ∃ (_ : Unit) (o3 o4 o5 o6 o7 : Option V), σ = [some (.ref L.x), some (.ref c), some (.ref kd), o3, o4, o5, o6, o7] ∧ Same G3 F ∧ ∀ x ∈ (namesF fs).take i, backB (callsF fs) x = false) ?_ ?_ ?_ ?_
      · exact ⟨(), _, _, _, _, _, rfl, Same.refl _, fun x hx => absurd hx (by simp)⟩
      · rintro i σ F _ ⟨_, o3, o4, o5, o6, o7, rfl, k3, _⟩
        exact k3 _ _ e3
      · rintro i x σ F F' li ⟨_, o3, o4, o5, o6, o7, rfl, s5, hn⟩ ⟨rfl, kk, v, hki, rfl⟩
        rw [lK] at li
        obtain ⟨f, hfi, rfl⟩ := keyAt _ _ _ hki
        have hni : (namesF fs)[i]? = some f.name := by unfold namesF; rw [List.getElem?_map, hfi]; rfl
        have hx : f.name ∈ namesF fs := List.mem_of_getElem? hni
        rw [show kV (Sum.inr f.name) = V.str f.name from rfl]
        walk_at "rd"
        refine ⟨(), f.name, c, callsF fs, rfl, C3.same s5, clsOk lbo, by rw [callsF_keys]; exact hx, fun F5 s6 => ?_⟩
        walk_at "rd"
        refine ite2 (fun cb => ?_) (fun cb => ?_)
        · have e : endR fs = .loop f.name := by
            unfold endR
            rw [find_at hni cb hn]
          rw [e] at out
          walk_at "rd"
          exact out _ (((Kp.of_same S1).trans k3).trans (Kp.of_same (s5.trans s6)))
        · refine ⟨(), _, _, _, _, _, rfl, s5.trans s6, fun y hy => ?_⟩
          rw [List.take_add_one, hni] at hy
          rcases List.mem_append.mp hy with hy | hy
          · exact hn y hy
          · rw [List.mem_singleton.mp hy]
            simpa using cb
      · rintro σ F ⟨_, o3, o4, o5, o6, o7, rfl, s5, hn⟩
        rw [lK, show fs.length = (namesF fs).length by unfold namesF; rw [List.length_map], List.take_length] at hn
        refine ⟨s5 _ _ e3, ?_⟩
        have sG := fin3 F s5
        have S2 := S1.trans sG
        have BG2 := BG.same sG
        have ekG2 := sG _ _ ekG
        have hbG2 := sG _ _ hbG
        have ac : ∀ x ∈ namesF fs, Hb fs 13 x := Hb_all (fun x hx r => backB_no (hn x hx) r) l12
        have er : endR fs = if ((namesF fs).any fun x => decide (400 < wtF fs 13 x)) = true ∨ ((allF fs).any (heavyS fs)) = true then .heavy else .fine := by
          unfold endR
          rw [find_none' hn]
        rw [er] at out
        clear er hn
        generalize upd F L.bd (.dK (bdK fs ps)) = G4 at sG S2 BG2 ekG2 hbG2 ⊢
        clear fin3 e3 ho3 B3 C3 k3 s5 hbG ekG CG BG
        walk_at "rd"
        refine ⟨True.intro, fun od => ?_⟩
        have B3 := BG2.lock (od := od) hbG2
        have ho3 := B3.ob
        have e3 := upd_same (H := G4) (a := L.bd) (o := .frz od (.dK (bdK fs ps)))
        have k3 : Kp (fun b => b = L.bd) G4 (upd G4 L.bd (.frz od (.dK (bdK fs ps)))) := Kp.refl.set1
        have ek3 := upd_oth (o := .frz od (.dK (bdK fs ps))) (Ne.symm nbk) ekG2
        have fin3 : ∀ F, Kp (fun b => b = kd) (upd G4 L.bd (.frz od (.dK (bdK fs ps)))) F → Kp (fun b => b = kd) G4 (upd F L.bd (.dK (bdK fs ps))) := fun F k => k.unlock hbG2
        generalize upd G4 L.bd (.frz od (.dK (bdK fs ps))) = G5 at B3 ho3 e3 k3 ek3 fin3 ⊢
        have W0 : WtI G5 G5 L.bd kd fs := ⟨Kp.refl, B3.rb, ⟨[], ek3, List.nodup_nil, (fun x hx => nomatch hx)⟩, lbo, ac, nbk⟩
        walk_at "rd"
        refine .inl ⟨_, e3, ?_⟩
        refine for_it walk_keys (fun i σ F => ∃ (_ : Unit) (o3 o4 o5 o6 o7 : Option V), σ = [some (.ref L.x), some (.ref c), some (.ref kd), o3, o4, o5, o6, o7] ∧ WtI G5 F L.bd kd fs ∧ ∀ x ∈ (namesF fs).take i, decide (400 < wtF fs 13 x) = false) ?_ ?_ ?_ ?_
        · exact ⟨(), _, _, _, _, _, rfl, W0, fun x hx => absurd hx (by simp)⟩
        · rintro i σ F _ ⟨_, o3, o4, o5, o6, o7, rfl, Wi, _⟩
          exact Wi.k _ _ e3 nbk
        · rintro i x σ F F' li ⟨_, o3, o4, o5, o6, o7, rfl, Wi, hn⟩ ⟨rfl, kk, v, hki, rfl⟩
          rw [lK] at li
          obtain ⟨f, hfi, rfl⟩ := keyAt _ _ _ hki
          have hni : (namesF fs)[i]? = some f.name := by unfold namesF; rw [List.getElem?_map, hfi]; rfl
          have hx : f.name ∈ namesF fs := List.mem_of_getElem? hni
          rw [show kV (Sum.inr f.name) = V.str f.name from rfl]
          have BF := B3.kp Wi.k (fun b h => ⟨[], by rw [h]; exact ek3⟩) nbk
          have hoF := BF.ob
          walk_at "rd"
          refine ⟨(), f.name, L.bd, kd, fs, rfl, ⟨Kp.refl, Wi.lb, Wi.kn, lbo, ac, nbk⟩, hx, ac _ hx, fun F5 W5 => ?_⟩
          walk_at "rd"
          refine ite2 (fun cb => ?_) (fun cb => ?_)
          · have lt : 400 < wtF fs 13 f.name := by have := of_decide_eq_true cb; omega
            rw [if_pos (.inl (List.any_eq_true.mpr ⟨_, hx, decide_eq_true lt⟩))] at out
            walk_at "rd"
            refine out _ (Kp.drop (k := kd) ?_ nkd)
            exact (((Kp.of_same S2).trans (k3.mono fun b h => .inl h)).trans (Wi.k.mono fun b h => .inr h)).trans (W5.k.mono fun b h => .inr h)
          · refine ⟨(), _, _, _, _, _, rfl, Wi.trans W5, fun y hy => ?_⟩
            rw [List.take_add_one, hni] at hy
            rcases List.mem_append.mp hy with hy | hy
            · exact hn y hy
            · rw [List.mem_singleton.mp hy]
              exact decide_eq_false fun z => cb (decide_eq_true (by omega))
        · rintro σ F ⟨_, o3, o4, o5, o6, o7, rfl, Wi, hn⟩
          rw [lK, show fs.length = (namesF fs).length by unfold namesF; rw [List.length_map], List.take_length] at hn
          refine ⟨Wi.k _ _ e3 nbk, ?_⟩
          have kG := fin3 F Wi.k
          have S6 : Same H (upd F L.bd (.dK (bdK fs ps))) := kG.same S2 fun b e => by rw [e]; exact nkd
          have eF := Wi.k _ _ e3 nbk
          have kn6 : KnAt (upd F L.bd (.dK (bdK fs ps))) kd fs := by
            obtain ⟨ks, h1, h2⟩ := Wi.kn
            exact ⟨ks, upd_oth (Ne.symm nbk) h1, h2⟩
          have B6 := B0.same S6
          have an : ((namesF fs).any fun x => decide (400 < wtF fs 13 x)) = false := List.any_eq_false.mpr fun x hx => by rw [hn x hx]; simp
          generalize upd F L.bd (.dK (bdK fs ps)) = G6 at S6 kn6 B6 ⊢
          clear fin3 ek3 e3 ho3 B3 k3 kG eF W0
          have W6 : WtI G6 G6 L.bd kd fs := ⟨Kp.refl, B6.rb, kn6, lbo, ac, nbk⟩
          obtain ⟨ts, hpl, hts⟩ := I.pl
          have lts := hts.len
          have hoG := B6.ob
          walk_at "rd"
          refine ⟨⟨_, SqL.of (S6 _ _ hpl)⟩, ?_⟩
          refine for_list (xs := ts.map V.ref) (fun i σ F => ∃ (_ : Unit) (o3 o4 o5 o6 o7 : Option V), σ = [some (.ref L.x), some (.ref c), some (.ref kd), o3, o4, o5, o6, o7] ∧ WtI G6 F L.bd kd fs ∧ Same H F ∧ ∀ x ∈ (allF fs).take i, heavyS fs x = false) ?_ ?_ ?_ ?_
          · exact ⟨(), _, _, _, _, _, rfl, W6, S6, fun x hx => absurd hx (by simp)⟩
          · rintro i σ F _ ⟨_, o3, o4, o5, o6, o7, rfl, _, sF, _⟩
            exact SqL.of (sF _ _ hpl)
          · rintro i v σ F hv ⟨_, o3, o4, o5, o6, o7, rfl, Wi, sF, hn⟩
            obtain ⟨⟨h, qs⟩, g, t, q, xs, rs, rfl, hi, ht, hq, hh, hok, q', xs', rs', eq, hq', hh', hps⟩ := I.pair hts hv
            cases eq
            rw [hq] at hq'; cases hq'
            change HdAt H h rs' xs at hh'
            change HdOk h at hok
            have htF := sF _ _ ht
            have hqF := sF _ _ hq
            obtain ⟨tx, rfl⟩ := hh'.fst
            have a0 : ∀ (x : V) (t : List V), atI (x :: t) 0 = some x := fun x t => (atI_nat rfl : atI (x :: t) ((0 : Nat) : Int) = _)
            have a1 : ∀ (y x : V) (t : List V), atI (y :: x :: t) 1 = some x := fun y x t => (atI_nat rfl : atI (y :: x :: t) ((1 : Nat) : Int) = _)
            have b0 := a0 (.str (kdS h)) tx
            have et : (allF fs).take (i + 1) = (allF fs).take i ++ [.mk h qs] := by rw [List.take_add_one, hi]; rfl
            have no : ∀ F', WtI G6 F' L.bd kd fs → Same H F' → heavyS fs (.mk h qs) = false → ∀ o5 o6, ∃ (_ : Unit) (p3 p4 p5 p6 p7 : Option V), [some (.ref L.x), some (.ref c), some (.ref kd), o3, o4, o5, o6, o7] = [some (.ref L.x), some (.ref c), some (.ref kd), p3, p4, p5, p6, p7] ∧ WtI G6 F' L.bd kd fs ∧ Same H F' ∧ ∀ x ∈ (allF fs).take (i + 1), heavyS fs x = false := fun F' W' s' e o5 o6 =>
              ⟨(), _, _, _, _, _, rfl, W', s', fun y hy => by
                rw [et] at hy
                rcases List.mem_append.mp hy with hy | hy
                · exact hn y hy
                · rw [List.mem_singleton.mp hy]; exact e⟩
            walk_at "rd"
            intro p5 hp5
            have s5 := (Same.refl F).new (o := .tup [.str "maybe", .str "repeat"]) hp5
            have e5 := upd_same (H := F) (a := p5) (o := .tup [.str "maybe", .str "repeat"])
            generalize upd F p5 (.tup [.str "maybe", .str "repeat"]) = F5 at s5 e5 ⊢
            refine ⟨p5, _, rfl, .inr (SqT.of e5), rfl, rfl, _, rfl, ?_⟩
            rw [show (if false = true then !inV (V.str (kdS h)) [.str "maybe", .str "repeat"] else inV (V.str (kdS h)) [.str "maybe", .str "repeat"]) = decide (kdS h ∈ (["maybe", "repeat"] : List Str)) from inV_strL (l := ["maybe", "repeat"]), hok.gu]
            have W5 := Wi.same s5
            have s6 := sF.trans s5
            refine ite2 (fun cg => ?_) (fun cg => ?_)
            · cases h with
              | gua kw =>
                obtain ⟨r, rfl, e⟩ := hh'
                have hq5 := s6 _ _ hq
                rw [e] at hq5
                have b1 := a1 (.str kw) (.ref r) []
                cases qs with
                | nil => exact absurd (show [r] = [] from hps) (by simp)
                | cons b rest =>
                  obtain ⟨y, rt, us, e2, hy, hbu, _⟩ := hps
                  cases e2
                  have hgood := lbo.sub (List.mem_of_getElem? hi) (b := b) List.mem_cons_self
                  have ho5 := s6 _ _ I.ob
                  walk_at "rd"
                  refine ⟨(), b, r, us, L.bd, kd, fs, rfl, s6 _ _ hy, hbu.tup (TupK.of_same s6), hgood, ⟨Kp.refl, W5.lb, W5.kn, lbo, ac, nbk⟩, fun z hz => ac z (callsB_mem hz), fun F7 W7 => ?_⟩
                  have W8 := W5.trans W7
                  have s8 : Same H F7 := W7.k.same s6 fun b e => by rw [e]; exact nkd
                  walk_at "rd"
                  refine ite2 (fun cb => ?_) (fun cb => ?_)
                  · have lt : 400 < wtB fs 13 b := by have := of_decide_eq_true cb; omega
                    have hv : heavyS fs (.mk (.gua kw) (b :: rest)) = true := decide_eq_true lt
                    rw [if_pos (.inr (List.any_eq_true.mpr ⟨_, List.mem_of_getElem? hi, hv⟩))] at out
                    walk_at "rd"
                    exact out _ (Kp.of_same s8)
                  · exact no _ W8 s8 (decide_eq_false (p := 400 < wtB fs 13 b) fun z => cb (decide_eq_true (by omega))) _ _
              | _ => cases cg
            · exact no _ W5 s6 (by unfold heavyS; rw [show (Stm.mk h qs).hd = h from rfl, show isG h = false by simpa using cg]; rfl) _ _
          · rintro σ F ⟨_, o3, o4, o5, o6, o7, rfl, Wi, sF, hn⟩
            have ll : ts.length = (allF fs).length := by rw [lts, ← pairsF_fst, List.length_map]
            rw [List.length_map, ll, List.take_length] at hn
            have ah : ((allF fs).any (heavyS fs)) = false := List.any_eq_false.mpr fun x hx => by rw [hn x hx]; simp
            rw [if_neg (by rintro (z | z); rw [an] at z; cases z; rw [ah] at z; cases z)] at out
            walk_at "rd"
            exact out _ sF
/-! ### Library(text) -/
theorem Kp.drops {x : Addr} {S : Addr → Prop} {H F : Hp} (h : Kp (fun b => b = x ∨ S b) H F) (n : ∀ b, S b → H b = Option.none) : Kp (fun b => b = x) H F := fun b o e nb => h b o e fun z => z.elim nb fun z => by rw [n b z] at e; cases e
theorem rS_le (rows : List Row) : ∀ i, rS rows i ≤ rS rows rows.length := fun i => by
  unfold rS
  rw [List.take_length]
  have := congrArg (fun l => (l.map rowN).sum) (List.take_append_drop i rows)
  simp only [List.map_append, List.sum_append] at this
  omega
theorem allF_app (fs gs : List Fun) : allF (fs ++ gs) = allF fs ++ allF gs := by unfold allF; rw [List.map_append, List.flatten_append]
theorem allF_one (f : Fun) : allF [f] = allB f.body := by unfold allF; simp
structure FunOk (f : Fun) : Prop where
  ok : ∀ x ∈ allB f.body, SOk x
  dp : dpB f.body < 9
  nw : IsWord f.name
  ne : f.body ≠ []
theorem rdAll_good {rows : List Row} (hr : RowsOk rows) : ∀ k i mk fs0 fs j mk1, (∀ f ∈ fs0, FunOk f) → wP (allF fs0) ≤ rS rows i → rdAll rows k i mk fs0 = some (.ok fs j mk1) → (∀ f ∈ fs, FunOk f) ∧ wP (allF fs) ≤ rS rows j
  | 0, i, mk, fs0, fs, j, mk1, _, _, h => by rw [rdAll] at h; cases h
  | k + 1, i, mk, fs0, fs, j, mk1, h1, h2, h => by
    rw [rdAll] at h
    split at h
    · split at h
      · cases h
      · rename_i c
        have l2 : (wordsAt rows 0 i).length = 2 := Decidable.byContradiction fun e => c (.inl e)
        have hne : wordsAt rows 0 i ≠ [] := fun e => by rw [e] at l2; cases l2
        have hsu := rS_succ hne
        have iw := (wordsAt_ok hr (n := 0) (i := i)).1
        split at h
        · cases h
        · cases h
        · rename_i b j1 mk2 e
          obtain ⟨B, nb⟩ := (rd_good hr k).1 _ _ _ _ _ _ (by omega) e
          refine rdAll_good hr k _ _ _ _ _ _ ?_ ?_ h
          · intro f hf
            rcases List.mem_append.mp hf with hf | hf
            · exact h1 f hf
            · rw [List.mem_singleton.mp hf]
              refine ⟨B.ok, by have := B.dp; show dpB b < 9; omega, ?_, nb⟩
              show IsWord ((wordsAt rows 0 i).getD 1 "")
              rw [List.getD_eq_getElem?_getD, List.getElem?_eq_getElem (by omega)]
              exact iw _ (List.getElem_mem _)
          · rw [allF_app, allF_one, wP_app]
            have := B.wd
            show wP (allF fs0) + wP (allB b) ≤ _
            omega
    · cases h
      exact ⟨h1, h2⟩
theorem allB_le : ∀ {fs : List Fun} {f : Fun}, f ∈ fs → (allB f.body).length ≤ (allF fs).length
  | g :: r, f, h => by
    rw [show g :: r = [g] ++ r from rfl, allF_app, allF_one, List.length_append]
    rcases List.mem_cons.mp h with rfl | h
    · omega
    · have := allB_le h; omega
theorem libOk {rows : List Row} (hr : RowsOk rows) {k : Nat} {fs : List Fun} {j : Nat} {mk : List Mk} (h : rdAll rows k 0 [] [] = some (.ok fs j mk)) (hw : rS rows rows.length ≤ 4000) (nn : (fs.map (·.name)).Nodup) (lm : mk.length ≤ 100000) : LibOk fs mk ∧ ∀ f ∈ fs, FunOk f := by
  obtain ⟨h1, h2⟩ := rdAll_good hr k 0 [] [] fs j mk (fun f hf => nomatch hf) (Nat.zero_le _) h
  have hj := rS_le rows j
  have la := wP_len (allF fs)
  have lf : fs.length ≤ (allF fs).length := by
    have : ∀ gs : List Fun, (∀ f ∈ gs, FunOk f) → gs.length ≤ (allF gs).length := by
      intro gs
      induction gs with
      | nil => intro _; exact Nat.zero_le _
      | cons f r ih =>
        intro h
        have hf := (h f List.mem_cons_self).ne
        have := ih fun g hg => h g (List.mem_cons_of_mem _ hg)
        rw [show f :: r = [f] ++ r from rfl, allF_app, allF_one, List.length_append, List.length_append]
        have : 1 ≤ (allB f.body).length := by
          cases e : f.body with
          | nil => exact absurd e hf
          | cons s t =>
            cases s
            rw [allB, allS]; simp
        simp only [List.length_cons, List.length_nil]
        omega
    exact this fs h1
  refine ⟨⟨⟨nn, fun f hf => ⟨(h1 f hf).ok, (h1 f hf).dp, by have := allB_le hf; omega⟩, by omega⟩, by omega, lm, fun s hs => ?_⟩, h1⟩
  obtain ⟨l, hl, hx⟩ := List.mem_flatten.mp hs
  obtain ⟨f, hf, rfl⟩ := List.mem_map.mp hl
  exact (h1 f hf).ok s hx
def linesOf (z : Str) : List Str := Txt.split z "\n"
def rowsOf (z : Str) : List Row := (linesOf z).map rowOf
inductive LibR
  | bad (l : Nat)
  | many (w : Str)
  | loop (x : Str)
  | ok (fs : List Fun) (mk : List Mk)
noncomputable def libR (z : Str) (m : Nat) (r : Rs (List Fun)) : LibR :=
  if m < z.length then .many "characters" else match r with
  | .err l => .bad l
  | .ok fs _ mk => match boundV fs mk with
    | some w => .many w
    | none => match endR fs with
      | .fine => .ok fs mk
      | .loop x => .loop x
      | .heavy => .many "weight"
structure TextOk (z : Str) : Prop where
  ln : ∀ l ∈ linesOf z, LineOk l
  ll : (linesOf z).length ≤ 100000
  ws : rS (rowsOf z) (rowsOf z).length ≤ 4000
  sz : z.length + 2 ≤ sizeLine
def outL (a : Ad) (x : Addr) (z : Str) (H : Hp) (Q : VK) (E : XK) : LibR → Prop
  | .bad l => ∀ H', Kp (fun b => b = x) H H' → errQ a.BadLibrary ef_BadLibrary [.int (l : Int)] H' E
  | .many w => ∀ H', Kp (fun b => b = x) H H' → errQ a.TooMany ef_TooMany [.str w] H' E
  | .loop w => ∀ H', Kp (fun b => b = x) H H' → errQ a.Endless ef_Endless [.str w] H' E
  | .ok fs mk => ∀ H' L, LibAt a H' L z (linesOf z) fs mk → L.x = x → H L.ll = none ∧ H L.ml = none ∧ H L.pl = none → Kp (fun b => b = x) H H' → Q .non H'
def ArgL (a : Ad) (x : Addr) (m : Nat) (H : Hp) (Q : VK) (E : XK) (v : V) : Prop :=
  (∃ (z : Str) (k : Nat) (r : Rs (List Fun)), v = .str z ∧ z.length ≤ sizeLine ∧ (z.length ≤ m → TextOk z ∧ rdAll (rowsOf z) k 0 [] [] = some r) ∧ outL a x z H Q E (libR z m r)) ∨
  (Thing H v ∧ strB v = false ∧ ∀ H', Kp (fun b => b = x) H H' → errQ a.BadLibrary ef_BadLibrary [.int (-1)] H' E)
def spLibI (a : Ad) : Sp := fun vs H Q E => ∃ (_ : Unit) (x dx : Addr) (v : V) (m : Nat), vs = [.ref x, v, .int (m : Int)] ∧ H x = some (.ins a.Library dx []) ∧ ArgL a x m H Q E v
structure InS (a : Ad) (H G : Hp) (x dx ll : Addr) (L : RA) (z : Str) (fs : List Fun) (ps : List Addr) (j : Nat) (mk : List Mk) (fl : List (Str × V)) : Prop where
  ob : G x = some (.ins a.Library dx fl)
  li : G ll = some (.lst ((linesOf z).map V.str))
  rd : G L.x = some (.ins a.Reader L.dx (rdF L j))
  sd : G L.sd = some (.dK (stK fs))
  bd : G L.bd = some (.dK (bdK fs ps))
  bs : A2 (BodyAt G) ps fs
  ml : ∃ ms : List Addr, G L.ml = some (.lst (ms.map V.ref)) ∧ A2 (MkAt G) ms mk
  ne : L.x ≠ x
  k : Kp (fun b => b = x) H G
theorem InS.set {a : Ad} {H G : Hp} {x dx ll : Addr} {L : RA} {z : Str} {fs : List Fun} {ps : List Addr} {j : Nat} {mk : List Mk} {fl fl' : List (Str × V)} (B : InS a H G x dx ll L z fs ps j mk fl) : InS a H (upd G x (.ins a.Library dx fl')) x dx ll L z fs ps j mk fl' := by
  have n : ∀ {b u}, G b = some u → (∀ C d f, u ≠ .ins C d f) → b ≠ x := fun {b u} e h z => by rw [z, B.ob] at e; cases e; exact h _ _ _ rfl
  have tk : TupK G (upd G x (.ins a.Library dx fl')) := fun b l e => upd_oth (n e fun _ _ _ z => by cases z) e
  obtain ⟨ms, m1, m2⟩ := B.ml
  exact ⟨upd_same, upd_oth (n B.li fun _ _ _ z => by cases z) B.li, upd_oth B.ne B.rd, upd_oth (n B.sd fun _ _ _ z => by cases z) B.sd, upd_oth (n B.bd fun _ _ _ z => by cases z) B.bd, B.bs.imp fun _ _ r => r.tup tk, ⟨ms, upd_oth (n m1 fun _ _ _ z => by cases z) m1, m2.imp fun _ _ r => tk _ _ r⟩, B.ne, B.k.set1⟩
theorem InS.same {a : Ad} {H G G' : Hp} {x dx ll : Addr} {L : RA} {z : Str} {fs : List Fun} {ps : List Addr} {j : Nat} {mk : List Mk} {fl : List (Str × V)} (B : InS a H G x dx ll L z fs ps j mk fl) (s : Same G G') : InS a H G' x dx ll L z fs ps j mk fl := by
  obtain ⟨ms, m1, m2⟩ := B.ml
  exact ⟨s _ _ B.ob, s _ _ B.li, s _ _ B.rd, s _ _ B.sd, s _ _ B.bd, B.bs.imp fun _ _ r => r.tup (TupK.of_same s), ⟨ms, s _ _ m1, m2.imp fun _ _ r => s _ _ r⟩, B.ne, B.k.trans (Kp.of_same s)⟩
theorem pairsF_take {fs : List Fun} {i : Nat} {f : Fun} (h : fs[i]? = some f) : pairsF (fs.take (i + 1)) = pairsF (fs.take i) ++ lsB false f.body := by
  unfold pairsF
  rw [List.take_add_one, h, List.map_append, List.flatten_append]
  simp
theorem pairsF_le (fs : List Fun) (i : Nat) : (pairsF (fs.take i)).length ≤ (pairsF fs).length := by
  have := congrArg (fun l => (pairsF l).length) (List.take_append_drop i fs)
  simp only [pairsF, List.map_append, List.flatten_append, List.length_append] at this
  unfold pairsF
  omega
theorem str_isi {K : PySem.W.Frag} {H : Hp} {z : Str} : ∃ ty, TyX K H (.str z) ty ∧ PySem.W.kitOne K ty (.type "str") = some true := ⟨_, .base (.str z), kit_ty (show kitB "str" "str" = some true by decide +kernel)⟩
theorem ok_LibraryU_initU (T : Txt K mg a d) : FnOk P w K mg base (L2.CX P w) 51 a.LibraryU_initU d.LibraryU_initU ["self", "text", "longest"] (spLibI a) := by
  have G_ReaderU_initU : FnOk P w K mg base CX0 3 a.ReaderU_initU d.ReaderU_initU ["self", "lines"] (spRdI a) := ok_ReaderU_initU T
  have G_Reader_read_all : FnOk P w K mg base (L2.CX P w) 40 a.Reader_read_all d.Reader_read_all ["self"] (spAll a) := ok_Reader_read_all T
  have G_listed_statements : FnOk P w K mg base CX0 13 a.listed_statements d.listed_statements ["body", "is_guarded"] (spListed 9) := ok_listed T 9
  have G_Library_stay_in_bounds : FnOk P w K mg base (L2.CX P w) 3 a.Library_stay_in_bounds d.Library_stay_in_bounds ["self"] (spStay a) := ok_Library_stay_in_bounds T
  have G_Library_come_to_an_end : FnOk P w K mg base (L2.CX P w) 50 a.Library_come_to_an_end d.Library_come_to_an_end ["self"] (spCte a) := ok_Library_come_to_an_end T
  obtain ⟨_, vd1_ls, bd1_ls⟩ := bd1_ls0 T
  refine T.LibraryU_initU.ok (CX := L2.CX P w) sc_LibraryU_initU (fun vs H Q E h => ?_) (fun cdv A outer s H vs Q E hr h => ?_)
  · obtain ⟨_, x, dx, v, m, rfl, _⟩ := h
    rfl
  · obtain ⟨_, x, dx, v, m, rfl, hx, arg⟩ := h
    have c1 := T.k_Library
    have n1 := T.na_Library_text
    have n2 := T.na_Library_lines
    have n3 := T.na_Library_starts
    have n4 := T.na_Library_bodies
    have n5 := T.na_Library_marks
    have n6 := T.na_Library_pairs
    have c2 := T.k_Reader
    have n7 := T.na_Reader_starts
    have n8 := T.na_Reader_bodies
    have n9 := T.na_Reader_marks
    refine ⟨_, (pss_cons (ps_if (pt_not (pt_val (pe_callB call_isi (by rfl) T.n_isinstance (by decide +kernel) (pa_cons (pv 1) (pa_cons (pe_bltn (v := .ty "str") (u := .type "str") (by rfl) T.n_str (by decide +kernel) rfl) pa_nil))))) (pss_one (ps_raise rfl (takes_of rfl rfl rfl rfl) (pmk_err T.e_BadLibrary T.g_BadLibrary T.n_super hr (pa_cons (pe_un un_neg pe_int) pa_nil)))) pss_nil)
  (pss_cons (ps_if (pt_cmpR op_gt (pe_callB call_len_str (by rfl) T.n_len PySem.boot_len (pa_cons (pv 1) pa_nil)) (pv 2) (nomark _)) (pss_one (ps_raise rfl (takes_of rfl rfl rfl rfl) (pmk_err T.e_TooMany T.g_TooMany T.n_super hr (pa_cons pe_str pa_nil)))) pss_nil)
  (pss_cons (ps_fld (pv 0) (pv 1) rfl)
  (pss_cons (ps_fld (pv 0) (pe_split (pv 1) pe_str) rfl)
  (pss_cons (ps_set (i := 3) sc_LibraryU_initU.nd rfl (Or.inl rfl) (pe_make T.mk_Reader G_ReaderU_initU (hr.mono (by omega)) (by rfl) T.g_Reader T.b_ReaderU_initU .nil pass0 (pa_cons (pe_fld (pv 0) rfl) pa_nil)))
  (pss_cons (ps_expr (pe_meth0 (pv 3) T.k_Reader T.m_Reader_read_all G_Reader_read_all (hr.mono (by omega)) T.b_Reader_read_all .nil (passes_call (takes_of rfl rfl rfl rfl) (fun _ _ _ _ h => h))))
  (pss_cons (ps_fld (pv 0) (pe_fld (pv 3) rfl) rfl)
  (pss_cons (ps_fld (pv 0) (pe_fld (pv 3) rfl) rfl)
  (pss_cons (ps_fld (pv 0) (pe_fld (pv 3) rfl) rfl)
  (C8.pss_cut (ps_fld (pv 0) (pe_lst pa_nil) rfl)
  (pss_cons (ps_lock (ps_for (passes_of rfl) rfl (pi_keys (pe_fld (pv 0) rfl)) (pg_name (i := 4) sc_LibraryU_initU.nd rfl (Or.inl rfl))
  (pss_one (ps_fld (pv 0) (pe_op op_cat (pe_fld (pv 0) rfl) (pe_call G_listed_statements (hr.mono (by omega)) (by rfl) T.g_listed_statements T.listed_statements.kp bd1_ls vd1_ls pass0 (pa_cons (pe_dget (hu_of hr) (pe_fld (pv 0) rfl) (pv 4) (fun _ _ => rfl)) pa_nil))) rfl))))
  (pss_cons (ps_expr (pe_meth0 (pv 0) T.k_Library T.m_Library_stay_in_bounds G_Library_stay_in_bounds (hr.mono (by omega)) T.b_Library_stay_in_bounds .nil (passes_call (takes_of rfl rfl rfl rfl) (fun _ _ _ _ h => h))))
  (pss_one (ps_expr (pe_meth0 (pv 0) T.k_Library T.m_Library_come_to_an_end G_Library_come_to_an_end (hr.mono (by omega)) T.b_Library_come_to_an_end .nil (passes_call (takes_of rfl rfl rfl rfl) (fun _ _ _ _ h => h))))))))))))))))), ?_⟩
    try dsimp only [cxOf]
    rcases arg with ⟨z, kk, r, rfl, hs, hz, out⟩ | ⟨ht, hb, out⟩
    · obtain ⟨ty, h1, h2⟩ := str_isi (K := K) (H := H) (z := z)
      refine ⟨_, rfl, _, _, _, _, _, rfl, ClsV.ty _, h1, h2, _, rfl, ?_⟩
      refine iteF ?_
      walk_at "rd"
      refine ite2 (fun c0 => ?_) (fun c0 => ?_)
      · have lt : m < z.length := by have := of_decide_eq_true c0; omega
        rw [show libR z m r = .many "characters" from if_pos lt] at out
        walk_at "rd"
        exact out _ Kp.refl
      · have le : ¬ m < z.length := fun l => c0 (decide_eq_true (by omega))
        obtain ⟨tok, hrd⟩ := hz (by omega)
        unfold libR at out
        rw [if_neg le] at out
        have hsz := tok.sz
        walk_at "rd"
        rw [show putF "text" (V.str z) [] = ([("text", .str z)] : List (Str × V)) from rfl]
        have k1 : Kp (fun b => b = x) H (upd H x (.ins a.Library dx [("text", .str z)])) := Kp.refl.set1
        have x1 := upd_same (H := H) (a := x) (o := .ins a.Library dx [("text", .str z)])
        generalize upd H x (.ins a.Library dx [("text", .str z)]) = H1 at k1 x1 ⊢
        intro ll hll
        rw [show Txt.split z (Str.ofString "\n") = linesOf z from rfl]
        have k2 := k1.new (o := .lst ((linesOf z).map V.str)) hll
        have x2 := upd_old (o := .lst ((linesOf z).map V.str)) x1 hll
        have l2 := upd_same (H := H1) (a := ll) (o := .lst ((linesOf z).map V.str))
        have nlx : ll ≠ x := Ne.symm (ne_of_none x1 hll)
        have gll : H ll = none := k1.none nlx hll
        generalize upd H1 ll (.lst ((linesOf z).map V.str)) = H2 at k2 x2 l2 ⊢
        walk_at "rd"
        rw [show putF "lines" (V.ref ll) ([("text", .str z)] : List (Str × V)) = ([("text", .str z), ("lines", .ref ll)] : List (Str × V)) from rfl]
        have k3 := k2.set1 (o := .ins a.Library dx [("text", .str z), ("lines", .ref ll)])
        have x3 := upd_same (H := H2) (a := x) (o := .ins a.Library dx [("text", .str z), ("lines", .ref ll)])
        have l3 := upd_oth (o := .ins a.Library dx [("text", .str z), ("lines", .ref ll)]) nlx l2
        generalize upd H2 x (.ins a.Library dx [("text", .str z), ("lines", .ref ll)]) = H3 at k3 x3 l3 ⊢
        walk_at "rd"
        intro xr dxr hxr hdr ndr
        have nxr : xr ≠ x := Ne.symm (ne_of_none x3 hxr)
        have fxr : H xr = none := k3.none nxr hxr
        have k4 := (k3.new (o := .own xr) hdr).new (o := .ins a.Reader dxr []) (by rw [upd_ne (Ne.symm ndr)]; exact hxr)
        have x4 := upd_old (o := .ins a.Reader dxr []) (upd_old (o := .own xr) x3 hdr) (show (upd H3 dxr (.own xr)) xr = none by rw [upd_ne (Ne.symm ndr)]; exact hxr)
        have l4 := upd_old (o := .ins a.Reader dxr []) (upd_old (o := .own xr) l3 hdr) (show (upd H3 dxr (.own xr)) xr = none by rw [upd_ne (Ne.symm ndr)]; exact hxr)
        have r4 := upd_same (H := upd H3 dxr (.own xr)) (a := xr) (o := .ins a.Reader dxr [])
        generalize upd (upd H3 dxr (.own xr)) xr (.ins a.Reader dxr []) = H4 at k4 x4 l4 r4 ⊢
        refine ⟨xr, dxr, ll, linesOf z, rfl, r4, l4, tok.ln, tok.ll, fun H5 L N eL kL fml fsd fbd => ?_⟩
        have nml : L.ml ≠ x := fun e => by rw [e, x4] at fml; cases fml
        have nsd : L.sd ≠ x := fun e => by rw [e, x4] at fsd; cases fsd
        have nbd : L.bd ≠ x := fun e => by rw [e, x4] at fbd; cases fbd
        have gml := k4.none nml fml
        have gsd := k4.none nsd fsd
        have gbd := k4.none nbd fbd
        have k5 : Kp (fun b => b = x) H H5 := ((k4.mono fun b h => Or.inl h).trans (kL.mono fun b h => Or.inr h) : Kp (fun b => b = x ∨ b = xr) H H5).drop fxr
        have x5 := kL _ _ x4 (Ne.symm nxr)
        have l5 := kL _ _ l4 (fun e => by rw [e, r4] at l4; cases l4)
        refine ⟨rfl, ?_⟩
        subst eL
        have r5 := N.I.ob
        have hra : List.lookup ("read_all" : Str) (rdF L 0) = none := rfl
        walk_at "rd"
        refine ⟨L, rowsOf z, kk, r, rfl, N.I, N.sd, N.bd, N.nd, hrd, ?_⟩
        have toH : ∀ F, FrA L H5 F → Kp (fun b => b = x) H F := fun F f => Kp.drops (S := fun b => b = L.x ∨ b = L.ml ∨ b = L.sd ∨ b = L.bd) ((k5.mono fun b h => Or.inl h).trans (f.mono fun b h => Or.inr h)) fun b h => by
          rcases h with h | h | h | h
          · rw [h]; exact fxr
          · rw [h]; exact gml
          · rw [h]; exact gsd
          · rw [h]; exact gbd
        cases r with
        | err le => exact fun H' f => out H' (toH H' f)
        | ok fs j mk =>
        intro H6 ps B
        have k6 := toH H6 B.f
        have x6 := B.f _ _ x5 (by
          rintro (h | h | h | h)
          · exact nxr h.symm
          · exact nml h.symm
          · exact nsd h.symm
          · exact nbd h.symm)
        have l6 := B.f _ _ l5 (by
          rintro (h | h | h | h)
          · rw [h, r5] at l5; cases l5
          · obtain ⟨ms, hms, _⟩ := N.I.mk_
            exact ne_of_none l4 fml h
          · exact ne_of_none l4 fsd h
          · exact ne_of_none l4 fbd h)
        have J0 : InS a H H6 x dx ll L z fs ps j mk [("text", .str z), ("lines", .ref ll)] := ⟨x6, l6, B.I.ob, B.sd, B.bd, B.bs, B.I.mk_, nxr, k6⟩
        have hx1 := J0.ob
        have hr1 := J0.rd
        have f1 : List.lookup ("starts" : Str) (rdF L j) = some (.ref L.sd) := rfl
        have f2 : List.lookup ("bodies" : Str) (rdF L j) = some (.ref L.bd) := rfl
        have f3 : List.lookup ("marks" : Str) (rdF L j) = some (.ref L.ml) := rfl
        walk_at "rd"
        rw [upd_upd, upd_upd, show putF "marks" (V.ref L.ml) (putF "bodies" (V.ref L.bd) (putF "starts" (V.ref L.sd) ([("text", .str z), ("lines", .ref ll)] : List (Str × V)))) = ([("text", .str z), ("lines", .ref ll), ("starts", .ref L.sd), ("bodies", .ref L.bd), ("marks", .ref L.ml)] : List (Str × V)) from rfl]
        have J1 := J0.set (fl' := [("text", .str z), ("lines", .ref ll), ("starts", .ref L.sd), ("bodies", .ref L.bd), ("marks", .ref L.ml)])
        generalize upd H6 x (.ins a.Library dx [("text", .str z), ("lines", .ref ll), ("starts", .ref L.sd), ("bodies", .ref L.bd), ("marks", .ref L.ml)]) = H7 at J1 ⊢
        clear f1 f2 f3 hx1 hr1
        refine ⟨fun σ' G => ∃ (_ : Unit) (pl0 : Addr), σ' = [some (.ref x), some (.str z), some (.int (m : Int)), some (.ref L.x), none] ∧ InS a H G x dx ll L z fs ps j mk (liF ⟨x, dx, ll, L.sd, L.bd, L.ml, pl0⟩ z) ∧ G pl0 = some (.lst []) ∧ H pl0 = none, ?_, ?_⟩
        walk_at "rd"
        intro pl0 hpl0
        have J2 := J1.same ((Same.refl H7).new (o := .lst []) hpl0)
        have p2 := upd_same (H := H7) (a := pl0) (o := .lst [])
        have npx : pl0 ≠ x := Ne.symm (ne_of_none J1.ob hpl0)
        have gpl0 : H pl0 = none := J1.k.none npx hpl0
        generalize upd H7 pl0 (.lst []) = H8 at J2 p2 ⊢
        have hx2 := J2.ob
        walk_at "rd"
        rw [show putF "pairs" (V.ref pl0) ([("text", .str z), ("lines", .ref ll), ("starts", .ref L.sd), ("bodies", .ref L.bd), ("marks", .ref L.ml)] : List (Str × V)) = liF ⟨x, dx, ll, L.sd, L.bd, L.ml, pl0⟩ z from rfl]
        have J3 := J2.set (fl' := liF ⟨x, dx, ll, L.sd, L.bd, L.ml, pl0⟩ z)
        have p3 := upd_oth (o := .ins a.Library dx (liF ⟨x, dx, ll, L.sd, L.bd, L.ml, pl0⟩ z)) npx p2
        generalize upd H8 x (.ins a.Library dx (liF ⟨x, dx, ll, L.sd, L.bd, L.ml, pl0⟩ z)) = H9 at J3 p3 ⊢
        exact ⟨(), pl0, rfl, J3, p3, gpl0⟩
        rintro σ' H9 ⟨_, pl0, rfl, J3, p3, gpl0⟩
        have hbd3 := J3.bd
        have lkb : ∀ pl, List.lookup ("bodies" : Str) (liF ⟨x, dx, ll, L.sd, L.bd, L.ml, pl⟩ z) = some (.ref L.bd) := fun _ => rfl
        refine ⟨L.bd, .dK (bdK fs ps), hbd3, True.intro, fun od => ?_⟩
        have lrw : (rowsOf z).length ≤ 100000 := by unfold rowsOf; rw [List.length_map]; exact tok.ll
        have lmk1 := B.lm
        have lmk2 := B.I.le
        obtain ⟨lok, fok⟩ := libOk (rowsOk tok.ln tok.ll) hrd tok.ws B.nn (by omega)
        have lpn := lok.len
        have nbx : L.bd ≠ x := nbd
        have npb : pl0 ≠ L.bd := fun e => by rw [e, hbd3] at p3; cases p3
        have e10 := upd_same (H := H9) (a := L.bd) (o := .frz od (.dK (bdK fs ps)))
        have x10 := upd_oth (o := .frz od (.dK (bdK fs ps))) (Ne.symm nbx) J3.ob
        have p10 := upd_oth (o := .frz od (.dK (bdK fs ps))) npb p3
        have tk10 : TupK H9 (upd H9 L.bd (.frz od (.dK (bdK fs ps)))) := (LK.dk (m := L.ml) hbd3).1
        have bs10 := J3.bs.imp fun _ _ r => BodyAt.tup tk10 r
        have fin10 : ∀ F, Kp (fun b => b = x) (upd H9 L.bd (.frz od (.dK (bdK fs ps)))) F → Kp (fun b => b = x) H9 (upd F L.bd (.dK (bdK fs ps))) := fun F k => k.unlock hbd3
        have fr10 : ∀ b, (upd H9 L.bd (.frz od (.dK (bdK fs ps)))) b = none → H9 b = none := fun b h => by
          cases e : H9 b with
          | none => rfl
          | some o =>
            by_cases q : b = L.bd
            · rw [q, upd_same] at h; cases h
            · rw [upd_oth q e] at h; cases h
        generalize upd H9 L.bd (.frz od (.dK (bdK fs ps))) = H10 at e10 x10 p10 tk10 bs10 fin10 fr10 ⊢
        have lbs := bs10.len
        have lK : (bdK fs ps).length = fs.length := by unfold bdK; rw [List.length_map, List.length_zip, lbs]; omega
        have keyAt : ∀ i k v, (bdK fs ps)[i]? = some (k, v) → ∃ f : Fun, fs[i]? = some f ∧ k = Sum.inr f.name := fun i k v e => by
          have e := congrArg (Option.map Prod.fst) e
          rw [← List.getElem?_map, bdK_keys lbs, List.map_map, List.getElem?_map] at e
          cases q : fs[i]? with
          | none => rw [q] at e; cases e
          | some f => rw [q] at e; cases e; exact ⟨f, q, rfl⟩
        have lk1 := lkb pl0
        walk_at "rd"
        refine .inl ⟨_, e10, ?_⟩
        refine for_it walk_keys (fun i σ F => ∃ (_ : Unit) (pl : Addr) (ts : List Addr) (o4 : Option V), σ = [some (.ref x), some (.str z), some (.int (m : Int)), some (.ref L.x), o4] ∧ Kp (fun b => b = x) H10 F ∧ F x = some (.ins a.Library dx (liF ⟨x, dx, ll, L.sd, L.bd, L.ml, pl⟩ z)) ∧ F pl = some (.lst (ts.map V.ref)) ∧ A2 (PairAt F) ts (pairsF (fs.take i)) ∧ H pl = none) ?_ ?_ ?_ ?_
        · exact ⟨(), pl0, [], none, rfl, Kp.refl, x10, p10, .nil, gpl0⟩
        · rintro i σ F _ ⟨_, pl, ts, o4, rfl, kF, _⟩
          exact kF _ _ e10 nbx
        · rintro i y σ F F' li ⟨_, pl, ts, o4, rfl, kF, xF, pF, A, _⟩ ⟨rfl, kk, v, hki, rfl⟩
          rw [lK] at li
          obtain ⟨f, hfi, rfl⟩ := keyAt _ _ _ hki
          have fm : f ∈ fs := List.mem_of_getElem? hfi
          have tkF : TupK H10 F' := fun b l e => kF _ _ e fun q => by rw [q, x10] at e; cases e
          have bsF := bs10.imp fun _ _ r => BodyAt.tup tkF r
          obtain ⟨p, us, v1, hp, hbat⟩ := bdK_get bsF (x := f.name) (List.mem_map_of_mem fm)
          rw [bodyOf_at B.nn fm] at hbat
          have gb : DGet F' L.bd (.str f.name) (some (.ref p)) := by
            have := DGet.r (k := Sum.inr f.name) (.inr ⟨od, kF _ _ e10 nbx⟩ : Rd F' L.bd (.dK (bdK fs ps)))
            rw [v1] at this
            exact this
          rw [show kV (Sum.inr f.name) = V.str f.name from rfl]
          have lk2 := lkb pl
          have lk3 : List.lookup ("pairs" : Str) (liF ⟨x, dx, ll, L.sd, L.bd, L.ml, pl⟩ z) = some (.ref pl) := rfl
          walk_at "rd"
          obtain ⟨g1, g2, g3⟩ := (lok.lb.gb f fm).ls false
          refine ⟨(), f.body, false, p, us, rfl, hp, hbat, g1, g2, g3, fun H11 l ts2 s11 hl nl A2_ => ?_⟩
          have lts := A.len
          have lts2 := A2_.len
          have sum := pairsF_take hfi
          have ple := congrArg List.length sum
          rw [List.length_append] at ple
          have ple2 := pairsF_le fs (i + 1)
          have p11 := s11 _ _ pF
          have x11 := s11 _ _ xF
          have npl : pl ≠ x := fun e => by rw [e, xF] at pF; cases pF
          walk_at "rd"
          refine ⟨by rw [List.length_map, List.length_map, sizeLine_eq]; omega, fun q hq => ?_⟩
          have xq := upd_old (o := .lst (ts.map V.ref ++ ts2.map V.ref)) x11 hq
          have bq := upd_old (o := .lst (ts.map V.ref ++ ts2.map V.ref)) (s11 _ _ (kF _ _ e10 nbx)) hq
          have qq := upd_same (H := H11) (a := q) (o := .lst (ts.map V.ref ++ ts2.map V.ref))
          have nqx : q ≠ x := Ne.symm (ne_of_none x11 hq)
          have gq : H q = none := J3.k.none nqx (fr10 q (kF.none nqx (new_none s11 hq)))
          have s12 : Same F' (upd H11 q (.lst (ts.map V.ref ++ ts2.map V.ref))) := s11.new hq
          have sA : Same H11 (upd H11 q (.lst (ts.map V.ref ++ ts2.map V.ref))) := (Same.refl _).new hq
          generalize upd H11 q (.lst (ts.map V.ref ++ ts2.map V.ref)) = H12 at xq bq qq s12 sA ⊢
          walk_at "rd"
          rw [show putF "pairs" (V.ref q) (liF ⟨x, dx, ll, L.sd, L.bd, L.ml, pl⟩ z) = liF ⟨x, dx, ll, L.sd, L.bd, L.ml, q⟩ z from rfl]
          have tk13 : TupK H12 (upd H12 x (.ins a.Library dx (liF ⟨x, dx, ll, L.sd, L.bd, L.ml, q⟩ z))) := (LK.ins (m := L.ml) xq).1
          refine ⟨(), q, ts ++ ts2, _, rfl, (kF.trans (Kp.of_same s12)).set1, upd_same, ?_, ?_, gq⟩
          · rw [upd_oth nqx qq, List.map_append]
          · rw [sum]
            exact (A.imp fun _ _ r => (r.tup (TupK.of_same s12)).tup tk13).app (A2_.imp fun _ _ r => (r.tup (TupK.of_same sA)).tup tk13)
        · rintro σ F ⟨_, pl, ts, o4, rfl, kF, xF, pF, A, gpl⟩
          rw [lK, List.take_length] at A
          refine ⟨kF _ _ e10 nbx, ?_⟩
          have kG := fin10 F kF
          have eF := kF _ _ e10 nbx
          have tkG : TupK F (upd F L.bd (.dK (bdK fs ps))) := fun b l e => upd_oth (fun q => by rw [q, eF] at e; cases e) e
          have tkA : TupK H10 (upd F L.bd (.dK (bdK fs ps))) := fun b l e => tkG _ _ (kF _ _ e fun q => by rw [q, x10] at e; cases e)
          have npx2 : pl ≠ L.bd := fun q => by rw [q, eF] at pF; cases pF
          have xG := upd_oth (o := .dK (bdK fs ps)) (Ne.symm nbx) xF
          have pG := upd_oth (o := .dK (bdK fs ps)) npx2 pF
          have bG := upd_same (H := F) (a := L.bd) (o := .dK (bdK fs ps))
          have AG := A.imp fun _ _ r => PairAt.tup tkG r
          have bsG := bs10.imp fun _ _ r => BodyAt.tup tkA r
          have nlb : ll ≠ x := nlx
          have liG := kG _ _ J3.li nlx
          have nsd2 : L.sd ≠ x := nsd
          have sdG := kG _ _ J3.sd nsd
          have mlG : ∃ ms : List Addr, (upd F L.bd (.dK (bdK fs ps))) L.ml = some (.lst (ms.map V.ref)) ∧ A2 (MkAt (upd F L.bd (.dK (bdK fs ps)))) ms mk := by
            obtain ⟨ms, m1, m2⟩ := J3.ml
            exact ⟨ms, kG _ _ m1 nml, m2.imp fun _ _ r => kG _ _ r fun q => by rw [q, J3.ob] at r; cases r⟩
          have kH := J3.k.trans kG
          generalize upd F L.bd (.dK (bdK fs ps)) = G at kG xG pG bG AG bsG liG sdG mlG kH ⊢
          have I : LibAt a G ⟨x, dx, ll, L.sd, L.bd, L.ml, pl⟩ z (linesOf z) fs mk := ⟨xG, liG, sdG, ⟨ps, bG, bsG⟩, mlG, ⟨ts, pG, AG⟩, lok⟩
          have lk1 : List.lookup ("stay_in_bounds" : Str) (liF ⟨x, dx, ll, L.sd, L.bd, L.ml, pl⟩ z) = none := rfl
          have lk2 : List.lookup ("come_to_an_end" : Str) (liF ⟨x, dx, ll, L.sd, L.bd, L.ml, pl⟩ z) = none := rfl
          have kb : ∀ {F}, Kp (fun b => b = L.bd) G F → Kp (fun b => b = x) H F := fun k => Kp.drop ((kH.mono fun b h => .inl h).trans (k.mono fun b h => .inr h)) gbd
          replace out : outL a x z H Q E (match boundV fs mk with | some w => LibR.many w | none => match endR fs with | .fine => LibR.ok fs mk | .loop x => LibR.loop x | .heavy => LibR.many "weight") := out
          cases hb : boundV fs mk with
          | some w1 =>
            rw [hb] at out
            walk_at "rd"
            refine ⟨(), ⟨x, dx, ll, L.sd, L.bd, L.ml, pl⟩, z, linesOf z, fs, mk, rfl, I, ?_⟩
            rw [hb]
            exact fun H' s => out H' (kH.trans (Kp.of_same s))
          | none =>
            rw [hb] at out
            have l12 : fs.length ≤ 12 := by
              unfold boundV at hb
              have := List.find?_eq_none.mp (Option.map_eq_none_iff.mp hb) ("functions", 12, fs.length) List.mem_cons_self
              simpa using this
            walk_at "rd"
            refine ⟨(), ⟨x, dx, ll, L.sd, L.bd, L.ml, pl⟩, z, linesOf z, fs, mk, rfl, I, ?_⟩
            rw [hb]
            intro G1 s1
            have I1 := I.same s1
            have x1 := I1.ob
            walk_at "rd"
            refine ⟨(), ⟨x, dx, ll, L.sd, L.bd, L.ml, pl⟩, z, linesOf z, fs, mk, rfl, I1, l12, ?_⟩
            cases he : endR fs with
            | fine =>
              rw [he] at out
              intro G2 s2
              exact out G2 _ (I1.same s2) rfl ⟨gll, gml, gpl⟩ (kH.trans (Kp.of_same (s1.trans s2)))
            | loop w1 =>
              rw [he] at out
              exact fun G2 k2 => out G2 (kb ((Kp.of_same s1).trans k2))
            | heavy =>
              rw [he] at out
              exact fun G2 k2 => out G2 (kb ((Kp.of_same s1).trans k2))
    · obtain ⟨ty, h1, h2⟩ := ht.isi (K := K)
      rw [hb] at h2
      refine ⟨_, rfl, _, _, _, _, _, rfl, ClsV.ty _, h1, h2, _, rfl, ?_⟩
      refine iteT ?_
      walk_at "rd"
      exact out _ Kp.refl
/-! ### the rows of a body, and what reading them gives -/
def isBk : Hd → Nat | .blk _ _ _ => 1 | _ => 0
def setN (c : Nat) : Hd → Hd
  | .blk _ m ks => .blk c m ks
  | h => h
def hdrs : Hd → List (List Str)
  | .sim w => [[w]]
  | .one k w => [[k, w]]
  | .blk _ m ks => [("block" : Str) :: m :: (if ks = [] then [] else ("keep" : Str) :: ks)]
  | .gua k => [[k]]
  | .tr ws fin => [("try" : Str)] :: (ws.map (fun w => ("except" : Str) :: w.getD []) ++ (if fin = true then [[("finally" : Str)]] else []))
def topR (n : Nat) : List (List Str) → List Row
  | [] => []
  | h :: _ => [some (n, h)]
mutual
def rowsS (n : Nat) : Stm → List Row
  | .mk h ps => rowsP n (hdrs h) ps
def rowsP (n : Nat) (hs : List (List Str)) : List (List Stm) → List Row
  | [] => hs.map fun h => some (n, h)
  | b :: ps => topR n hs ++ (rowsB (n + 1) b ++ rowsP n hs.tail ps)
def rowsB (n : Nat) : List Stm → List Row
  | [] => []
  | s :: r => rowsS n s ++ rowsB n r
end
mutual
def numS (c : Nat) : Stm → Stm
  | .mk h ps => .mk (setN c h) (numP (c + isBk h) ps)
def numP (c : Nat) : List (List Stm) → List (List Stm)
  | [] => []
  | b :: ps => numB c b :: numP (c + nbB b) ps
def numB (c : Nat) : List Stm → List Stm
  | [] => []
  | s :: r => numS c s :: numB (c + nbS s) r
def nbS : Stm → Nat
  | .mk h ps => isBk h + nbP ps
def nbP : List (List Stm) → Nat
  | [] => 0
  | b :: ps => nbB b + nbP ps
def nbB : List Stm → Nat
  | [] => 0
  | s :: r => nbS s + nbB r
end
mutual
def lnS : Stm → Nat
  | .mk _ ps => max 1 (lnP ps)
def lnP : List (List Stm) → Nat
  | [] => 0
  | b :: ps => 1 + lnB b + lnP ps
def lnB : List Stm → Nat
  | [] => 0
  | s :: r => lnS s + lnB r
end
def mkH (i : Nat) : Hd → List Mk
  | .blk _ m _ => [(i, m)]
  | _ => []
mutual
def mksS (i : Nat) : Stm → List Mk
  | .mk h ps => mkH i h ++ mksP i ps
def mksP (i : Nat) : List (List Stm) → List Mk
  | [] => []
  | b :: ps => mksB (i + 1) b ++ mksP (i + 1 + lnB b) ps
def mksB (i : Nat) : List Stm → List Mk
  | [] => []
  | s :: r => mksS i s ++ mksB (i + lnS s) r
end
structure TryW (ws : List (Option (List Str))) (fin : Bool) : Prop where
  ne : ws = [] → fin = true
  ba : ∀ i, ws[i]? = some none → i + 1 = ws.length
  wd : ∀ l, some l ∈ ws → l ≠ [] ∧ ∀ w ∈ l, IsWord w
/-- what stands at nesting n with k parts -/
def HdW (n : Nat) (k : Nat) : Hd → Prop
  | .sim w => w ∈ (["pass", "doom"] : List Str) ∧ k = 0
  | .one q w => q ∈ (["write", "raise", "call"] : List Str) ∧ IsWord w ∧ k = 0
  | .blk _ m ks => modeS m = true ∧ (∀ w ∈ ks, IsWord w) ∧ k = 1 ∧ n < 8
  | .gua q => q ∈ (["maybe", "repeat"] : List Str) ∧ k = 1 ∧ n < 8
  | .tr ws fin => TryW ws fin ∧ k = 1 + ws.length + fin.toNat ∧ n < 8
mutual
def wfS (n : Nat) : Stm → Prop
  | .mk h ps => HdW n ps.length h ∧ wfP (n + 1) ps
def wfP (n : Nat) : List (List Stm) → Prop
  | [] => True
  | b :: ps => (b ≠ [] ∧ wfB n b) ∧ wfP n ps
def wfB (n : Nat) : List Stm → Prop
  | [] => True
  | s :: r => wfS n s ∧ wfB n r
end
theorem nbS_mk (h : Hd) (ps : List (List Stm)) : nbS (.mk h ps) = isBk h + nbP ps := by rw [nbS]
theorem mksP_len : ∀ (ps : List (List Stm)), (∀ b ∈ ps, ∀ i, (mksB i b).length = nbB b) → ∀ i, (mksP i ps).length = nbP ps
  | [], _, i => by rw [mksP, nbP]; rfl
  | b :: r, h, i => by rw [mksP, nbP, List.length_append, h b List.mem_cons_self, mksP_len r fun b hb => h b (List.mem_cons_of_mem _ hb)]
theorem mkH_len (i : Nat) (h : Hd) : (mkH i h).length = isBk h := by cases h <;> rfl
mutual
theorem mksS_len : ∀ (s : Stm) (i : Nat), (mksS i s).length = nbS s
  | .mk h ps, i => by rw [mksS, nbS, List.length_append, mkH_len, mksP_ln ps]
theorem mksP_ln : ∀ (ps : List (List Stm)) (i : Nat), (mksP i ps).length = nbP ps
  | [], i => by rw [mksP, nbP]; rfl
  | b :: r, i => by rw [mksP, nbP, List.length_append, mksB_len b, mksP_ln r]
theorem mksB_len : ∀ (b : List Stm) (i : Nat), (mksB i b).length = nbB b
  | [], i => by rw [mksB, nbB]; rfl
  | s :: r, i => by rw [mksB, nbB, List.length_append, mksS_len s, mksB_len r]
end
theorem wordsAt_drop (rows : List Row) (n i : Nat) : wordsAt rows n i = wordsAt (rows.drop i) n 0 := by
  unfold wordsAt
  rw [List.getElem?_drop, Nat.add_zero]
theorem wordsAt_hd (n m : Nat) (ws : List Str) (r : List Row) : wordsAt (some (m, ws) :: r) n 0 = if m = n then ws else [] := rfl
theorem wordsAt_nil (n : Nat) : wordsAt [] n 0 = [] := rfl
/-- what follows a body of nesting n -/
def EndB (n : Nat) (rest : List Row) : Prop := ∀ m, n ≤ m → wordsAt rest m 0 = []
def EndS (n : Nat) (rest : List Row) : Prop := EndB (n + 1) rest ∧ (wordsAt rest n 0 = [] ∨ stops (wordsAt rest n 0) = false)
theorem EndB.s {n : Nat} {rest : List Row} (h : EndB n rest) : EndS n rest := ⟨fun m l => h m (by omega), .inl (h n (Nat.le_refl _))⟩
theorem EndB.hd {n m : Nat} {ws : List Str} {r : List Row} (h : m < n) : EndB n (some (m, ws) :: r) := fun k l => by rw [wordsAt_hd, if_neg (by omega)]
theorem EndB.nil {n : Nat} : EndB n [] := fun _ _ => rfl
theorem stops_hd {w : Str} {ws : List Str} (h : w ∉ (["except", "finally"] : List Str)) : stops (w :: ws) = false := decide_eq_false h
theorem EndS.hd {n : Nat} {w : Str} {ws : List Str} {r : List Row} (h : w ∉ (["except", "finally"] : List Str)) : EndS n (some (n, w :: ws) :: r) :=
  ⟨EndB.hd (Nat.lt_succ_self n), .inr (by rw [wordsAt_hd, if_pos rfl]; exact stops_hd h)⟩
theorem HdW.hdrs {n k : Nat} : ∀ {h : Hd}, HdW n k h → ∃ w ws r, hdrs h = (w :: ws) :: r ∧ w ∉ (["except", "finally"] : List Str)
  | .sim w, h => ⟨w, [], [], rfl, by rcases in2 h.1 with rfl | rfl <;> decide +kernel⟩
  | .one k w, h => ⟨k, [w], [], rfl, by rcases in3 h.1 with rfl | rfl | rfl <;> decide +kernel⟩
  | .blk _ m ks, h => ⟨"block", _, [], rfl, by decide +kernel⟩
  | .gua k, h => ⟨k, [], [], rfl, by rcases inG h.1 with rfl | rfl <;> decide +kernel⟩
  | .tr ws fin, h => ⟨"try", [], _, rfl, by decide +kernel⟩
theorem rowsS_hd {n : Nat} : ∀ {s : Stm}, wfS n s → ∃ w ws r, rowsS n s = some (n, w :: ws) :: r ∧ w ∉ (["except", "finally"] : List Str)
  | .mk h ps, hw => by
    rw [wfS] at hw
    obtain ⟨w, ws, r, e, nw⟩ := hw.1.hdrs
    cases ps with
    | nil => exact ⟨w, ws, _, by rw [rowsS, rowsP, e]; rfl, nw⟩
    | cons b ps => exact ⟨w, ws, _, by rw [rowsS, rowsP, e]; rfl, nw⟩
theorem drop_app {rows a b : List Row} {i : Nat} (h : rows.drop i = a ++ b) : rows.drop (i + a.length) = b := by
  rw [← List.drop_drop, h, List.drop_left]
theorem hdrs_one {n k : Nat} {h : Hd} (hw : HdW n k h) (hk : k = 0) : (hdrs h).length = 1 := by
  cases h with
  | sim w => rfl
  | one q w => rfl
  | blk => exact absurd hw.2.2.1 (by omega)
  | gua => exact absurd hw.2.1 (by omega)
  | tr => exact absurd hw.2.1 (by omega)
theorem hdrs_len {n k : Nat} {h : Hd} (hw : HdW n k h) (hk : k ≠ 0) : (hdrs h).length = k := by
  cases h with
  | sim w => exact absurd hw.2 hk
  | one q w => exact absurd hw.2.2 hk
  | blk => exact hw.2.2.1.symm
  | gua => exact hw.2.1.symm
  | tr ws fin =>
    have e := hw.2.1
    rw [e]
    cases fin <;> simp [hdrs] <;> omega
mutual
theorem rowsS_len (n m : Nat) : ∀ s : Stm, wfS n s → (rowsS m s).length = lnS s
  | .mk h [], hw => by
    rw [wfS] at hw
    rw [rowsS, rowsP, lnS, lnP, List.length_map, hdrs_one hw.1 rfl]; rfl
  | .mk h (b :: ps), hw => by
    rw [wfS] at hw
    have l := hdrs_len hw.1 (by simp)
    have := rowsP_len (n + 1) m (hdrs h) (b :: ps) hw.2 l
    rw [rowsS, lnS, this, lnP]; omega
theorem rowsP_len (n m : Nat) : ∀ (hs : List (List Str)) (ps : List (List Stm)), wfP n ps → hs.length = ps.length → (rowsP m hs ps).length = lnP ps
  | [], [], _, _ => by rw [rowsP, lnP]; rfl
  | h :: hs, [], _, e => by cases e
  | [], b :: ps, _, e => by cases e
  | h :: hs, b :: ps, hw, e => by
    rw [wfP] at hw
    rw [rowsP, lnP, topR, List.length_append, List.length_append, rowsB_len n (m + 1) b hw.1.2, List.tail_cons, rowsP_len n m hs ps hw.2 (by simpa using e)]
    simp; omega
theorem rowsB_len (n m : Nat) : ∀ b : List Stm, wfB n b → (rowsB m b).length = lnB b
  | [], _ => by rw [rowsB, lnB]; rfl
  | s :: r, hw => by
    rw [wfB] at hw
    rw [rowsB, lnB, List.length_append, rowsS_len n m s hw.1, rowsB_len n m r hw.2]
end
def Rds {α : Type} (f : Nat → Option α) (r : α) : Prop := ∃ K, ∀ k, K ≤ k → f k = some r
theorem Rds.succ {α : Type} {f : Nat → Option α} {r : α} (h : ∃ K, ∀ k, K ≤ k → f (k + 1) = some r) : Rds f r := by
  obtain ⟨K, h⟩ := h
  exact ⟨K + 1, fun k l => by cases k with | zero => omega | succ k => exact h k (by omega)⟩
section
variable {rows : List Row} {n i j : Nat} {mk mk1 : List Mk}
theorem Rds.two {α β : Type} {f : Nat → Option α} {g : Nat → Option β} {r : α} {q : β} (h1 : Rds f r) (h2 : Rds g q) {p : Nat → Prop} (h : ∀ k, f k = some r → g k = some q → p k) : ∃ K, ∀ k, K ≤ k → p k := by
  obtain ⟨K1, h1⟩ := h1
  obtain ⟨K2, h2⟩ := h2
  exact ⟨max K1 K2, fun k l => h k (h1 k (by omega)) (h2 k (by omega))⟩
theorem Rds.one {α : Type} {f : Nat → Option α} {r : α} (h1 : Rds f r) {p : Nat → Prop} (h : ∀ k, f k = some r → p k) : ∃ K, ∀ k, K ≤ k → p k := by
  obtain ⟨K1, h1⟩ := h1
  exact ⟨K1, fun k l => h k (h1 k l)⟩
theorem rS_sim {w : Str} (h : wordsAt rows n i = [w]) (hw : w ∈ (["pass", "doom"] : List Str)) : Rds (fun k => rdS rows k n i mk) (.ok (.mk (.sim w) []) (i + 1) mk) :=
  Rds.succ ⟨0, fun k _ => by
    show rdS rows (k + 1) n i mk = _
    rw [rdS, h, show fstW [w] = w from rfl, if_pos hw, if_pos (show [w].length = 1 from rfl)]⟩
theorem rS_one {q w : Str} (h : wordsAt rows n i = [q, w]) (hw : q ∈ (["write", "raise", "call"] : List Str)) : Rds (fun k => rdS rows k n i mk) (.ok (.mk (.one q w) []) (i + 1) mk) :=
  Rds.succ ⟨0, fun k _ => by
    show rdS rows (k + 1) n i mk = _
    rw [rdS, h, show fstW [q, w] = q from rfl, if_neg (by rcases in3 hw with rfl | rfl | rfl <;> decide +kernel), if_pos hw, if_pos (show [q, w].length = 2 from rfl)]
    rfl⟩
theorem rS_gua {q : Str} {b : List Stm} (h : wordsAt rows n i = [q]) (hw : q ∈ (["maybe", "repeat"] : List Str)) (hn : n < 8) (hb : Rds (fun k => rdB rows k (n + 1) (i + 1) mk) (.ok b j mk1)) : Rds (fun k => rdS rows k n i mk) (.ok (.mk (.gua q) [b]) j mk1) :=
  Rds.succ (hb.one fun k e => by
    show rdS rows (k + 1) n i mk = _
    have e : rdB rows k (n + 1) (i + 1) mk = _ := e
    rw [rdS, h, show fstW [q] = q from rfl, if_neg (by rcases inG hw with rfl | rfl <;> decide +kernel), if_neg (by rcases inG hw with rfl | rfl <;> decide +kernel), if_neg (by
      rintro (c | c)
      · revert c; rcases inG hw with rfl | rfl <;> decide +kernel
      · omega), if_neg (by rcases inG hw with rfl | rfl <;> decide +kernel), if_neg (by simp), if_neg (by rcases inG hw with rfl | rfl <;> decide +kernel), e])
theorem rS_try {s : Stm} (h : wordsAt rows n i = [("try" : Str)]) (hn : n < 8) (hb : Rds (fun k => rdT rows k n (i + 1) mk) (.ok s j mk1)) : Rds (fun k => rdS rows k n i mk) (.ok s j mk1) :=
  Rds.succ (hb.one fun k e => by
    show rdS rows (k + 1) n i mk = _
    have e : rdT rows k n (i + 1) mk = _ := e
    rw [rdS, h, show fstW [("try" : Str)] = ("try" : Str) from rfl, if_neg (by decide +kernel), if_neg (by decide +kernel), if_neg (by
      rintro (c | c)
      · revert c; decide +kernel
      · omega), if_neg (by decide +kernel), if_neg (by simp), if_pos rfl, e])
theorem rS_blk {m : Str} {ks : List Str} {b : List Stm} (h : wordsAt rows n i = (("block" : Str) :: m :: (if ks = [] then [] else ("keep" : Str) :: ks))) (hm : modeS m = true) (hn : n < 8) (hb : Rds (fun k => rdB rows k (n + 1) (i + 1) (mk ++ [(i, m)])) (.ok b j mk1)) : Rds (fun k => rdS rows k n i mk) (.ok (.mk (.blk mk.length m ks) [b]) j mk1) :=
  Rds.succ (hb.one fun k e => by
    show rdS rows (k + 1) n i mk = _
    have e : rdB rows k (n + 1) (i + 1) (mk ++ [(i, m)]) = _ := e
    have l1 : (wordsAt rows n i).length = if ks = [] then 2 else 3 + ks.length := by
      rw [h]
      split
      · rfl
      · show ks.length + 3 = _; omega
    have g1 : (wordsAt rows n i).getD 1 "" = m := by rw [h]; rfl
    have f0 : fstW (wordsAt rows n i) = ("block" : Str) := by rw [h]; rfl
    have d3 : (wordsAt rows n i).drop 3 = ks := by
      rw [h]
      split
      · rename_i c; rw [c]; rfl
      · rfl
    have kn : ks ≠ [] → 1 ≤ ks.length := fun c => by cases ks with | nil => exact absurd rfl c | cons => simp
    rw [rdS, f0, if_neg (by decide +kernel), if_neg (by decide +kernel), if_neg (by
      rintro (c | c)
      · revert c; decide +kernel
      · omega), if_pos rfl, g1, d3, l1, if_neg (by
        rintro (c | c | c)
        · split at c <;> omega
        · rw [hm] at c; cases c
        · split at c
          · omega
          · rename_i q; have := kn q; omega), if_neg (by
        rintro ⟨c1, c2⟩
        split at c1
        · omega
        · rename_i q
          refine c2 ?_
          rw [h, if_neg q]; rfl), e])
theorem rT_ok {b : List Stm} {r : Rs Stm} (hb : Rds (fun k => rdB rows k (n + 1) i mk) (.ok b j mk1)) (hh : Rds (fun k => rdH rows k n j mk1 b [] [] true) r) : Rds (fun k => rdT rows k n i mk) r :=
  Rds.succ (hb.two hh fun k e1 e2 => by
    show rdT rows (k + 1) n i mk = _
    have e1 : rdB rows k (n + 1) i mk = _ := e1
    have e2 : rdH rows k n j mk1 b [] [] true = _ := e2
    rw [rdT, e1]
    exact e2)
theorem rH_more {b c : List Stm} {hw : List (Option (List Str))} {hb : List (List Stm)} {l : List Str} {r : Rs Stm} (h : wordsAt rows n i = ("except" : Str) :: l) (hc : Rds (fun k => rdB rows k (n + 1) (i + 1) mk) (.ok c j mk1))
    (hr : Rds (fun k => rdH rows k n j mk1 b (hw ++ [if l = [] then none else some l]) (hb ++ [c]) (decide (l ≠ []))) r) : Rds (fun k => rdH rows k n i mk b hw hb true) r :=
  Rds.succ (hc.two hr fun k e1 e2 => by
    show rdH rows (k + 1) n i mk b hw hb true = _
    have e1 : rdB rows k (n + 1) (i + 1) mk = _ := e1
    have e2 : rdH rows k n j mk1 b (hw ++ [if l = [] then none else some l]) (hb ++ [c]) (decide (l ≠ [])) = _ := e2
    rw [rdH, h, if_pos ⟨rfl, rfl⟩, show List.drop 1 (("except" : Str) :: l) = l from rfl, e1]
    exact e2)
theorem rH_fin {b c : List Stm} {hw : List (Option (List Str))} {hb : List (List Stm)} {op : Bool} (h : wordsAt rows n i = [("finally" : Str)]) (hc : Rds (fun k => rdB rows k (n + 1) (i + 1) mk) (.ok c j mk1)) : Rds (fun k => rdH rows k n i mk b hw hb op) (.ok (.mk (.tr hw true) (b :: hb ++ [c])) j mk1) :=
  Rds.succ (hc.one fun k e1 => by
    show rdH rows (k + 1) n i mk b hw hb op = _
    have e1 : rdB rows k (n + 1) (i + 1) mk = _ := e1
    rw [rdH, h, if_neg (by
      rintro ⟨_, c⟩
      revert c; decide +kernel), if_pos rfl, e1])
theorem rH_end {b : List Stm} {hw : List (Option (List Str))} {hb : List (List Stm)} {op : Bool} (h : wordsAt rows n i = [] ∨ stops (wordsAt rows n i) = false) (hn : hw ≠ []) : Rds (fun k => rdH rows k n i mk b hw hb op) (.ok (.mk (.tr hw false) (b :: hb)) i mk) :=
  Rds.succ ⟨0, fun k _ => by
    show rdH rows (k + 1) n i mk b hw hb op = _
    have no : ∀ w ws, wordsAt rows n i = w :: ws → w ∉ (["except", "finally"] : List Str) := fun w ws e => by
      rcases h with h | h
      · rw [h] at e; cases e
      · rw [e] at h; exact of_decide_eq_false h
    rw [rdH, if_neg (by
      rintro ⟨_, c⟩
      cases e : wordsAt rows n i with
      | nil => rw [e] at c; cases c
      | cons w ws =>
        rw [e] at c
        have : w = "except" := by injection c
        exact no w ws e (by rw [this]; decide +kernel)), if_neg (fun c => no _ _ c (by decide +kernel)), if_neg hn]⟩
theorem rL_end {acc : List Stm} (h : wordsAt rows n i = [] ∨ stops (wordsAt rows n i) = true) (hn : acc ≠ []) : Rds (fun k => rdL rows k n i mk acc) (.ok acc i mk) :=
  Rds.succ ⟨0, fun k _ => by
    show rdL rows (k + 1) n i mk acc = _
    rw [rdL, if_pos (by
      rcases h with h | h
      · rw [h]; rfl
      · exact h), if_neg (by cases acc with | nil => exact absurd rfl hn | cons => simp)]⟩
theorem rL_more {acc : List Stm} {s : Stm} {r : Rs (List Stm)} (h : stops (wordsAt rows n i) = false) (hs : Rds (fun k => rdS rows k n i mk) (.ok s j mk1)) (hr : Rds (fun k => rdL rows k n j mk1 (acc ++ [s])) r) : Rds (fun k => rdL rows k n i mk acc) r :=
  Rds.succ (hs.two hr fun k e1 e2 => by
    show rdL rows (k + 1) n i mk acc = _
    have e1 : rdS rows k n i mk = _ := e1
    have e2 : rdL rows k n j mk1 (acc ++ [s]) = _ := e2
    rw [rdL, h, if_neg (by simp), e1]
    exact e2)
theorem rB_of {b : List Stm} (h : Rds (fun k => rdL rows k n i mk []) (.ok b j mk1)) : Rds (fun k => rdB rows k n i mk) (.ok b j mk1) :=
  Rds.succ (h.one fun k e => by
    show rdB rows (k + 1) n i mk = _
    rw [rdB]
    exact e)
theorem wat {ws : List Str} {r : List Row} (h : rows.drop i = some (n, ws) :: r) : wordsAt rows n i = ws := by rw [wordsAt_drop, h, wordsAt_hd, if_pos rfl]
theorem watE (h : EndS n (rows.drop i)) : wordsAt rows n i = [] ∨ stops (wordsAt rows n i) = false := by rw [wordsAt_drop]; exact h.2
theorem drop_s {r : Row} {t : List Row} (h : rows.drop i = r :: t) : rows.drop (i + 1) = t := by rw [← List.drop_drop, h]; rfl
end
theorem EndB.app {n : Nat} {rest : List Row} : ∀ {b : List Stm}, wfB n b → EndB n rest → EndS n (rowsB n b ++ rest)
  | [], _, h => h.s
  | s :: r, hw, h => by
    rw [wfB] at hw
    obtain ⟨w, ws, t, e, nw⟩ := rowsS_hd hw.1
    rw [rowsB, e]
    exact EndS.hd nw
mutual
theorem readS (rows : List Row) : ∀ (s : Stm) (n i : Nat) (mk : List Mk) (rest : List Row), wfS n s → rows.drop i = rowsS n s ++ rest → EndS n rest →
    Rds (fun k => rdS rows k n i mk) (.ok (numS mk.length s) (i + lnS s) (mk ++ mksS i s))
  | .mk (.sim w) [], n, i, mk, rest, hw, hd, _ => by
    rw [wfS] at hw
    rw [rowsS, rowsP] at hd
    rw [numS, numP, lnS, lnP, mksS, mksP]
    have := rS_sim (mk := mk) (wat hd) hw.1.1
    simpa [setN, mkH] using this
  | .mk (.one q w) [], n, i, mk, rest, hw, hd, _ => by
    rw [wfS] at hw
    rw [rowsS, rowsP] at hd
    rw [numS, numP, lnS, lnP, mksS, mksP]
    have := rS_one (mk := mk) (wat hd) hw.1.1
    simpa [setN, mkH] using this
  | .mk (.blk nb m ks) [b], n, i, mk, rest, hw, hd, he => by
    rw [wfS, wfP] at hw
    rw [rowsS, rowsP, rowsP] at hd
    simp only [hdrs, topR, List.tail_cons, List.map_nil, List.append_nil, List.singleton_append, List.cons_append] at hd
    have hd1 := drop_s hd
    have h0 := readB rows b (n + 1) (i + 1) (mk ++ [(i, m)]) [] rest hw.2.1.2 hd1 (he.1) (by simpa using hw.2.1.1)
    have := rS_blk (ks := ks) (mk := mk) (wat hd) hw.1.1 hw.1.2.2.2 (rB_of h0)
    rw [numS, numP, numP, lnS, lnP, lnP, mksS, mksP, mksP]
    simp only [List.nil_append, List.length_append, List.length_singleton, List.append_assoc] at this
    simp only [setN, mkH, isBk, List.append_nil, Nat.add_zero]
    rw [show max 1 (1 + lnB b) = 1 + lnB b by omega, ← Nat.add_assoc]
    exact this
  | .mk (.gua q) [b], n, i, mk, rest, hw, hd, he => by
    rw [wfS, wfP] at hw
    rw [rowsS, rowsP, rowsP] at hd
    simp only [hdrs, topR, List.tail_cons, List.map_nil, List.append_nil, List.singleton_append, List.cons_append] at hd
    have hd1 := drop_s hd
    have h0 := readB rows b (n + 1) (i + 1) mk [] rest hw.2.1.2 hd1 (he.1) (by simpa using hw.2.1.1)
    have := rS_gua (mk := mk) (wat hd) hw.1.1 hw.1.2.2 (rB_of h0)
    rw [numS, numP, numP, lnS, lnP, lnP, mksS, mksP, mksP]
    simp only [List.nil_append] at this
    simp only [setN, mkH, isBk, List.append_nil, Nat.add_zero, List.nil_append]
    rw [show max 1 (1 + lnB b) = 1 + lnB b by omega, ← Nat.add_assoc]
    exact this
  | .mk (.tr ws fin) (b :: ps), n, i, mk, rest, hw, hd, he => by
    rw [wfS, wfP] at hw
    obtain ⟨⟨tw, hk, hn⟩, hb, hp⟩ := hw
    rw [rowsS, rowsP] at hd
    simp only [hdrs, topR, List.tail_cons, List.singleton_append, List.cons_append, List.append_assoc] at hd
    have hd1 := drop_s hd
    have lk : ps.length = ws.length + fin.toNat := by simp only [List.length_cons] at hk; omega
    have l1 : (rowsB (n + 1) b).length = lnB b := rowsB_len (n + 1) (n + 1) b hb.2
    have hd2 := drop_app (a := rowsB (n + 1) b) hd1
    rw [l1] at hd2
    have e1 : EndB (n + 1) (rowsP n (ws.map (fun w => ("except" : Str) :: w.getD []) ++ (if fin = true then [[("finally" : Str)]] else [])) ps ++ rest) := by
      cases ws with
      | nil =>
        have := tw.ne rfl
        subst this
        cases ps with
        | nil => cases lk
        | cons c ps => rw [rowsP]; exact EndB.hd (Nat.lt_succ_self n)
      | cons w ws =>
        cases ps with
        | nil => simp at lk; omega
        | cons c ps => rw [rowsP]; exact EndB.hd (Nat.lt_succ_self n)
    have h0 := readB rows b (n + 1) (i + 1) mk [] _ hb.2 hd1 e1 (by simpa using hb.1)
    have hh := readP rows ps n (i + 1 + lnB b) (mk ++ mksB (i + 1) b) rest ws fin (numB mk.length b) [] [] true hp hd2 he lk tw.ba (fun l hl => (tw.wd l hl).1) (fun e => .inr (tw.ne e)) (fun _ => rfl)
    have := rS_try (mk := mk) (wat hd) hn (rT_ok (rB_of h0) hh)
    rw [numS, numP, lnS, lnP, mksS, mksP]
    simp only [List.nil_append, List.length_append, mksB_len, List.append_assoc, List.cons_append] at this
    simp only [setN, mkH, isBk, Nat.add_zero, List.nil_append]
    rw [show max 1 (1 + lnB b + lnP ps) = 1 + lnB b + lnP ps by omega, show i + (1 + lnB b + lnP ps) = i + 1 + lnB b + lnP ps by omega]
    exact this
  | .mk (.sim _) (_ :: _), _, _, _, _, hw, _, _ => by rw [wfS] at hw; cases hw.1.2
  | .mk (.one _ _) (_ :: _), _, _, _, _, hw, _, _ => by rw [wfS] at hw; cases hw.1.2.2
  | .mk (.blk _ _ _) [], _, _, _, _, hw, _, _ => by rw [wfS] at hw; cases hw.1.2.2.1
  | .mk (.blk _ _ _) (_ :: _ :: _), _, _, _, _, hw, _, _ => by rw [wfS] at hw; have := hw.1.2.2.1; simp at this
  | .mk (.gua _) [], _, _, _, _, hw, _, _ => by rw [wfS] at hw; cases hw.1.2.1
  | .mk (.gua _) (_ :: _ :: _), _, _, _, _, hw, _, _ => by rw [wfS] at hw; have := hw.1.2.1; simp at this
  | .mk (.tr _ _) [], _, _, _, _, hw, _, _ => by rw [wfS] at hw; have := hw.1.2.1; simp at this; omega
theorem readP (rows : List Row) : ∀ (ps : List (List Stm)) (n i : Nat) (mk : List Mk) (rest : List Row) (ws : List (Option (List Str))) (fin : Bool) (b : List Stm) (hw : List (Option (List Str))) (hb : List (List Stm)) (op : Bool),
    wfP (n + 1) ps → rows.drop i = rowsP n (ws.map (fun w => ("except" : Str) :: w.getD []) ++ (if fin = true then [[("finally" : Str)]] else [])) ps ++ rest → EndS n rest → ps.length = ws.length + fin.toNat →
    (∀ i, ws[i]? = some none → i + 1 = ws.length) → (∀ l, some l ∈ ws → l ≠ []) → (ws = [] → hw ≠ [] ∨ fin = true) → (ws ≠ [] → op = true) →
    Rds (fun k => rdH rows k n i mk b hw hb op) (.ok (.mk (.tr (hw ++ ws) fin) (b :: (hb ++ numP mk.length ps))) (i + lnP ps) (mk ++ mksP i ps))
  | [], n, i, mk, rest, ws, fin, b, hw, hb, op, _, hd, he, hl, _, _, hf, _ => by
    cases ws with
    | cons => simp only [List.length_nil, List.length_cons] at hl; omega
    | nil =>
    cases fin with
    | true => cases hl
    | false =>
      rw [rowsP] at hd
      have hd : rows.drop i = rest := hd
      rw [numP, lnP, mksP, List.append_nil, List.append_nil, List.append_nil, Nat.add_zero]
      exact rH_end (watE (hd ▸ he)) ((hf rfl).resolve_right (by simp))
  | c :: ps, n, i, mk, rest, ws, fin, b, hw, hb, op, hp, hd, he, hl, hba, hne, hf, hop => by
    rw [wfP] at hp
    rw [rowsP] at hd
    have lc : (rowsB (n + 1) c).length = lnB c := rowsB_len (n + 1) (n + 1) c hp.1.2
    cases ws with
    | nil =>
      cases fin with
      | false => simp at hl
      | true =>
      have : ps = [] := by
        cases ps with
        | nil => rfl
        | cons => simp at hl
      subst this
      rw [rowsP] at hd
      simp only [topR, List.map_nil, List.nil_append, if_true, List.tail_cons, List.append_nil, List.singleton_append, List.cons_append] at hd
      have h0 := readB rows c (n + 1) (i + 1) mk [] rest hp.1.2 (drop_s hd) he.1 (by simpa using hp.1.1)
      have := rH_fin (mk := mk) (b := b) (hw := hw) (hb := hb) (op := op) (wat hd) (rB_of h0)
      rw [numP, numP, lnP, lnP, mksP, mksP]
      simp only [List.nil_append, List.append_nil, Nat.add_zero] at this ⊢
      rw [← Nat.add_assoc]
      exact this
    | cons w ws =>
      have op1 := hop (by simp)
      subst op1
      simp only [topR, List.map_cons, List.cons_append, List.tail_cons, List.nil_append, List.append_assoc] at hd
      have hd1 := drop_s hd
      have hd2 := drop_app hd1
      rw [lc] at hd2
      have lk : ps.length = ws.length + fin.toNat := by simp only [List.length_cons] at hl; omega
      have e1 : EndB (n + 1) (rowsP n (ws.map (fun w => ("except" : Str) :: w.getD []) ++ (if fin = true then [[("finally" : Str)]] else [])) ps ++ rest) := by
        cases ps with
        | nil =>
          have : ws = [] := by
            cases ws with
            | nil => rfl
            | cons => simp at lk; omega
          subst this
          have : fin = false := by cases fin with | true => cases lk | false => rfl
          subst this
          rw [rowsP]
          exact he.1
        | cons d ps =>
          cases ws with
          | nil =>
            cases fin with
            | false => simp at lk
            | true => rw [rowsP]; exact EndB.hd (Nat.lt_succ_self n)
          | cons w' ws' => rw [rowsP]; exact EndB.hd (Nat.lt_succ_self n)
      have h0 := readB rows c (n + 1) (i + 1) mk [] _ hp.1.2 hd1 e1 (by simpa using hp.1.1)
      have hg : (if w.getD [] = [] then none else some (w.getD [])) = w := by
        cases w with
        | none => rfl
        | some l => exact if_neg (hne l List.mem_cons_self)
      have hh := readP rows ps n (i + 1 + lnB c) (mk ++ mksB (i + 1) c) rest ws fin b (hw ++ [w]) (hb ++ [numB mk.length c]) (decide (w.getD [] ≠ [])) hp.2 hd2 he lk (fun i h => by
          have := hba (i + 1) h
          simp only [List.length_cons] at this
          omega) (fun l h => hne l (List.mem_cons_of_mem _ h)) (fun _ => .inl (by simp)) (fun h => by
          cases w with
          | none => have := hba 0 rfl; simp only [List.length_cons] at this; exact absurd (List.length_eq_zero_iff.mp (by omega)) h
          | some l => exact decide_eq_true (hne l List.mem_cons_self))
      have := rH_more (mk := mk) (hw := hw) (hb := hb) (wat hd) (rB_of h0) (r := _) (by rw [hg]; exact hh)
      rw [numP, lnP, mksP]
      simp only [List.length_append, mksB_len, List.append_assoc, List.cons_append, List.nil_append] at this
      rw [show i + (1 + lnB c + lnP ps) = i + 1 + lnB c + lnP ps by omega]
      exact this
theorem readB (rows : List Row) : ∀ (b : List Stm) (n i : Nat) (mk : List Mk) (acc : List Stm) (rest : List Row), wfB n b → rows.drop i = rowsB n b ++ rest → EndB n rest → acc ++ b ≠ [] →
    Rds (fun k => rdL rows k n i mk acc) (.ok (acc ++ numB mk.length b) (i + lnB b) (mk ++ mksB i b))
  | [], n, i, mk, acc, rest, _, hd, he, hn => by
    rw [rowsB] at hd
    have hd : rows.drop i = rest := hd
    rw [numB, lnB, mksB, List.append_nil, List.append_nil, Nat.add_zero]
    exact rL_end (.inl (by rw [wordsAt_drop, hd]; exact he n (Nat.le_refl _))) (by simpa using hn)
  | s :: r, n, i, mk, acc, rest, hw, hd, he, hn => by
    rw [wfB] at hw
    rw [rowsB, List.append_assoc] at hd
    have ls := rowsS_len n n s hw.1
    have h0 := readS rows s n i mk _ hw.1 hd (he.app hw.2)
    have hd2 := drop_app hd
    rw [ls] at hd2
    have h1 := readB rows r n (i + lnS s) (mk ++ mksS i s) (acc ++ [numS mk.length s]) rest hw.2 hd2 he (by simp)
    obtain ⟨w, ws, t, e, nw⟩ := rowsS_hd hw.1
    have := rL_more (by
      rw [e] at hd
      rw [wat (ws := w :: ws) (by rw [hd]; rfl)]
      exact stops_hd nw) h0 h1
    rw [numB, lnB, mksB]
    simp only [List.length_append, mksS_len, List.append_assoc, List.cons_append, List.nil_append] at this
    rw [show i + (lnS s + lnB r) = i + lnS s + lnB r by omega]
    exact this
end
abbrev FT := Str × List Stm
def rowsF (gs : List FT) : List Row := (gs.map fun g => some (0, [("function" : Str), g.1]) :: rowsB 1 g.2).flatten
def funsF : Nat → Nat → List FT → List Fun
  | _, _, [] => []
  | i, c, g :: r => ⟨g.1, i, numB c g.2⟩ :: funsF (i + 1 + lnB g.2) (c + nbB g.2) r
def mksF : Nat → List FT → List Mk
  | _, [] => []
  | i, g :: r => mksB (i + 1) g.2 ++ mksF (i + 1 + lnB g.2) r
structure FTOk (g : FT) : Prop where
  nm : IsWord g.1
  ne : g.2 ≠ []
  wf : wfB 1 g.2
theorem readF (rows : List Row) : ∀ (gs : List FT) (i : Nat) (mk : List Mk) (fs : List Fun), (∀ g ∈ gs, FTOk g) → rows.drop i = rowsF gs → (gs.map (·.1)).Nodup → (∀ g ∈ gs, g.1 ∉ fs.map (·.name)) → i ≤ rows.length →
    Rds (fun k => rdAll rows k i mk fs) (.ok (fs ++ funsF i mk.length gs) rows.length (mk ++ mksF i gs))
  | [], i, mk, fs, _, hd, _, _, hi => by
    have : rows.length ≤ i := List.drop_eq_nil_iff.mp hd
    have e : i = rows.length := by omega
    rw [funsF, mksF, List.append_nil, List.append_nil]
    exact Rds.succ ⟨0, fun k _ => by
      show rdAll rows (k + 1) i mk fs = _
      rw [rdAll, if_neg (by omega), e]⟩
  | g :: r, i, mk, fs, ho, hd, hn, hf, hi => by
    have hd : rows.drop i = some (0, [("function" : Str), g.1]) :: (rowsB 1 g.2 ++ rowsF r) := hd
    have o := ho g List.mem_cons_self
    have hd1 := drop_s hd
    have hd2 := drop_app hd1
    rw [rowsB_len 1 1 g.2 o.wf] at hd2
    have he : EndB 1 (rowsF r) := by
      cases r with
      | nil => exact EndB.nil
      | cons h t => exact EndB.hd (Nat.zero_lt_succ 0)
    have h0 := readB rows g.2 1 (i + 1) mk [] _ o.wf hd1 he (by simpa using o.ne)
    have li : i < rows.length := by
      have : (rows.drop i).length ≠ 0 := by rw [hd]; simp
      rw [List.length_drop] at this; omega
    have ll : i + 1 + lnB g.2 ≤ rows.length := by
      have := congrArg List.length hd1
      rw [List.length_drop, List.length_append, rowsB_len 1 1 g.2 o.wf] at this
      omega
    rw [List.map_cons, List.nodup_cons] at hn
    have h1 := readF rows r (i + 1 + lnB g.2) (mk ++ mksB (i + 1) g.2) (fs ++ [⟨g.1, i, numB mk.length g.2⟩]) (fun g hg => ho g (List.mem_cons_of_mem _ hg)) hd2 hn.2 (fun h hh => by
      rw [List.map_append, List.mem_append]
      rintro (c | c)
      · exact hf h (List.mem_cons_of_mem _ hh) c
      · have c : h.1 = g.1 := List.mem_singleton.mp c
        exact hn.1 (Eq.mp (congrArg (fun q => q ∈ r.map (·.1)) c) (List.mem_map_of_mem (f := fun x : FT => x.1) hh))) ll
    have wa := wat hd
    refine Rds.succ ((rB_of h0).two h1 fun k e1 e2 => ?_)
    show rdAll rows (k + 1) i mk fs = _
    have e1 : rdB rows k 1 (i + 1) mk = _ := e1
    have e2 : rdAll rows k (i + 1 + lnB g.2) (mk ++ mksB (i + 1) g.2) (fs ++ [⟨g.1, i, numB mk.length g.2⟩]) = _ := e2
    rw [rdAll, if_pos li, wa, if_neg (by
      rintro (c | c | c)
      · exact c rfl
      · exact c rfl
      · exact hf g List.mem_cons_self c), e1]
    show rdAll rows k (i + 1 + lnB g.2) (mk ++ mksB (i + 1) g.2) (fs ++ [⟨g.1, i, [] ++ numB mk.length g.2⟩]) = _
    rw [List.nil_append, e2, funsF, mksF]
    simp only [List.length_append, mksB_len, List.append_assoc, List.cons_append, List.nil_append]
/-! ### texts: lines put together, and split again -/
def joinC (c : Nat) : List (List Nat) → List Nat
  | [] => []
  | [x] => x
  | x :: r => x ++ c :: joinC c r
def cps (z : Str) : List Nat := z.cps.toList
theorem cps_app (a b : Str) : cps (a ++ b) = cps a ++ cps b := by unfold cps; rw [Str.cps_append, Array.toList_append]
theorem cps_inj {a b : Str} (h : cps a = cps b) : a = b := Str.ext' (Array.toList_inj.mp h)
theorem cps_len (z : Str) : (cps z).length = z.length := len_toList z
theorem join_cps (c : Nat) : ∀ ls : List Str, cps (Str.join ⟨#[c]⟩ ls) = joinC c (ls.map cps)
  | [] => rfl
  | [x] => rfl
  | x :: y :: r => by
    show cps (x ++ ⟨#[c]⟩ ++ Str.join ⟨#[c]⟩ (y :: r)) = cps x ++ c :: joinC c ((y :: r).map cps)
    rw [cps_app, cps_app, join_cps c (y :: r), List.append_assoc]; rfl
theorem join_S (s : Str) (ls : List Str) : Txt.join s ls = Str.join s ls := StrLaws.glued_eq_join s ls
theorem free_cut {c : Nat} : ∀ {x y s t : List Nat}, c ∉ x → c ∉ y → x ++ s = y ++ t → (s = [] ∨ ∃ s', s = c :: s') → (t = [] ∨ ∃ t', t = c :: t') → x = y ∧ s = t
  | [], [], s, t, _, _, h, _, _ => ⟨rfl, h⟩
  | [], b :: y, s, t, _, hy, h, hs, _ => by
    rcases hs with rfl | ⟨s', rfl⟩
    · cases h
    · injection h with h1 h2
      exact absurd List.mem_cons_self (h1 ▸ hy)
  | a :: x, [], s, t, hx, _, h, _, ht => by
    rcases ht with rfl | ⟨t', rfl⟩
    · cases h
    · injection h with h1 h2
      exact absurd List.mem_cons_self (h1 ▸ hx)
  | a :: x, b :: y, s, t, hx, hy, h, hs, ht => by
    injection h with h1 h2
    obtain ⟨e1, e2⟩ := free_cut (fun h => hx (List.mem_cons_of_mem _ h)) (fun h => hy (List.mem_cons_of_mem _ h)) h2 hs ht
    exact ⟨by rw [h1, e1], e2⟩
theorem joinC_inj {c : Nat} : ∀ {xs ys : List (List Nat)}, xs ≠ [] → ys ≠ [] → (∀ x ∈ xs, c ∉ x) → (∀ y ∈ ys, c ∉ y) → joinC c xs = joinC c ys → xs = ys
  | [], _, h, _, _, _, _ => absurd rfl h
  | _ :: _, [], _, h, _, _, _ => absurd rfl h
  | [x], [y], _, _, _, _, h => by
    have h : x = y := h
    rw [h]
  | [x], y :: z :: r, _, _, hx, hy, h => by
    have h : x = y ++ c :: joinC c (z :: r) := h
    exact absurd (by rw [h]; simp) (hx x List.mem_cons_self)
  | y :: z :: r, [x], _, _, hx, hy, h => by
    have h : y ++ c :: joinC c (z :: r) = x := h
    exact absurd (by rw [← h]; simp) (hy x List.mem_cons_self)
  | x :: x' :: r, y :: y' :: q, _, _, hx, hy, h => by
    have h : x ++ c :: joinC c (x' :: r) = y ++ c :: joinC c (y' :: q) := h
    obtain ⟨e1, e2⟩ := free_cut (hx x List.mem_cons_self) (hy y List.mem_cons_self) h (.inr ⟨_, rfl⟩) (.inr ⟨_, rfl⟩)
    injection e2 with _ e2
    rw [e1, joinC_inj (List.cons_ne_nil _ _) (List.cons_ne_nil _ _) (fun z hz => hx z (List.mem_cons_of_mem _ hz)) (fun z hz => hy z (List.mem_cons_of_mem _ hz)) e2]
theorem split_of_join {c : Nat} {ls : List Str} (hn : ls ≠ []) (hf : ∀ l ∈ ls, c ∉ cps l) : Txt.split (Str.join ⟨#[c]⟩ ls) ⟨#[c]⟩ = ls := by
  have e := StrLaws.join_split (Str.join ⟨#[c]⟩ ls) ⟨#[c]⟩
  have f := StrLaws.split_free (Str.join ⟨#[c]⟩ ls) c
  have n := PyProof.Rows.split_pos (Str.join ⟨#[c]⟩ ls) ⟨#[c]⟩
  generalize Txt.split (Str.join ⟨#[c]⟩ ls) ⟨#[c]⟩ = ms at e f n
  have e2 := congrArg cps e
  rw [join_cps, join_cps] at e2
  have := joinC_inj (by
    intro h
    rw [List.map_eq_nil_iff.mp h] at n
    exact absurd n (by decide)) (by simpa using hn) (by
      intro x hx
      obtain ⟨l, hl, rfl⟩ := List.mem_map.mp hx
      exact f l hl) (by
      intro x hx
      obtain ⟨l, hl, rfl⟩ := List.mem_map.mp hx
      exact hf l hl) e2
  exact (List.map_inj_right fun a b h => cps_inj h).mp this
theorem sp_eq : (Str.ofString " ") = ⟨#[32]⟩ := by decide +kernel
theorem nl_eq : (Str.ofString "\n") = ⟨#[10]⟩ := by decide +kernel
def spc (n : Nat) : Str := ⟨(List.replicate n 32).toArray⟩
theorem spc_cps (n : Nat) : cps (spc n) = List.replicate n 32 := rfl
/-- a line: its nesting and its words -/
def lineS (n : Nat) (ws : List Str) : Str := spc (2 * n) ++ Str.join " " ws
theorem lineS_cps (n : Nat) (ws : List Str) : cps (lineS n ws) = List.replicate (2 * n) 32 ++ joinC 32 (ws.map cps) := by
  show cps (spc (2 * n) ++ Str.join (Str.ofString " ") ws) = _
  rw [cps_app, sp_eq, join_cps, spc_cps]
theorem drop_sp (n : Nat) (l : List Nat) (h : ∀ c, l.head? = some c → c ≠ 32) : ((List.replicate n 32 ++ l).takeWhile fun c => (#[32] : Array Nat).contains c).length = n := by
  have e : (fun c => (#[32] : Array Nat).contains c) = fun c => decide (c = 32) := by
    funext c
    simp
  rw [e]
  induction n with
  | zero =>
    rw [List.replicate_zero, List.nil_append]
    cases l with
    | nil => rfl
    | cons c r => rw [List.takeWhile_cons, decide_eq_false (h c rfl)]; rfl
  | succ n ih =>
    rw [List.replicate_succ, List.cons_append, List.takeWhile_cons, decide_eq_true rfl, if_pos rfl, List.length_cons, ih]
theorem lstrip_spc (n : Nat) (z : Str) (h : ∀ c, (cps z).head? = some c → c ≠ 32) : Txt.lstripChars (spc n ++ z) (Str.ofString " ") = z := by
  rw [sp_eq]
  unfold Txt.lstripChars
  rw [PyProof.Rows.stripBy_eq]
  refine cps_inj ?_
  have e : stripLo (#[32] : Array Nat).contains true (spc n ++ z) = n := by
    unfold stripLo
    rw [if_pos rfl, show (spc n ++ z).cps.toList = List.replicate n 32 ++ cps z by rw [← spc_cps, ← cps_app]; rfl]
    exact drop_sp n _ h
  show cps (Builtin.Str.strSub _ (stripLo (#[32] : Array Nat).contains true (spc n ++ z)) (stripHi (#[32] : Array Nat).contains false (spc n ++ z) (stripLo (#[32] : Array Nat).contains true (spc n ++ z)))) = cps z
  rw [e]
  unfold cps
  rw [StrLaws.strSub_toList]
  show ((cps (spc n ++ z)).drop n).take ((spc n ++ z).length - n) = cps z
  rw [cps_app, spc_cps, List.drop_left' (by simp)]
  refine List.take_of_length_le ?_
  rw [← cps_len, cps_app, spc_cps]
  simp
theorem word_head {w : Str} (h : IsWord w) : ∀ {r : List Nat} {c : Nat}, (cps w ++ r).head? = some c → c ≠ 32 := fun {r c} e => by
  have lo := h.lo
  unfold cps at e
  cases q : w.cps.toList with
  | nil => rw [q] at lo; exact absurd lo (by decide)
  | cons a t =>
    rw [q] at e
    cases e
    have := h.al c (by rw [q]; exact List.mem_cons_self)
    omega
theorem join_head {ws : List Str} (hw : ∀ w ∈ ws, IsWord w) : ∀ c, (cps (Str.join " " ws)).head? = some c → c ≠ 32 := by
  intro c
  show (cps (Str.join (Str.ofString " ") ws)).head? = some c → _
  rw [sp_eq, join_cps]
  match ws, hw with
  | [], _ => intro e; cases e
  | [x], hw => exact fun e => word_head (r := []) (hw x List.mem_cons_self) (by rw [List.append_nil]; exact e)
  | x :: y :: r, hw => exact fun e => word_head (hw x List.mem_cons_self) e
theorem word_no {w : Str} (h : IsWord w) {c : Nat} (hc : c < 97) : c ∉ cps w := fun m => by have := h.al c m; omega
theorem rowOf_line {n : Nat} {ws : List Str} (hn : ws ≠ []) (hw : ∀ w ∈ ws, IsWord w) : rowOf (lineS n ws) = some (n, ws) := by
  have e1 : bareS (lineS n ws) = Str.join " " ws := lstrip_spc _ _ (join_head hw)
  have e2 : wordsN (lineS n ws) = ws := by
    unfold wordsN
    rw [e1]
    show Txt.split (Str.join (Str.ofString " ") ws) (Str.ofString " ") = ws
    rw [sp_eq]
    exact split_of_join hn fun l hl => word_no (hw l hl) (by decide)
  have e3 : spacesN (lineS n ws) = 2 * n := by
    unfold spacesN
    rw [e1]
    unfold lineS
    rw [Str.length_append, show (spc (2 * n)).length = 2 * n by rw [← cps_len, spc_cps, List.length_replicate]]
    omega
  unfold rowOf
  rw [e2, e3, if_neg (by
    rintro (c | c)
    · omega
    · rw [List.all_eq_true.mpr fun w hx => (hw w hx).ok] at c; cases c), show 2 * n / 2 = n by omega]
structure RowG (r : Row) : Prop where
  ex : ∃ n ws, r = some (n, ws) ∧ n ≤ 8 ∧ ws ≠ [] ∧ ∀ w ∈ ws, IsWord w
def lineR : Row → Str
  | some (n, ws) => lineS n ws
  | none => ""
theorem RowG.of {r : Row} (h : RowG r) : rowOf (lineR r) = r := by
  obtain ⟨n, ws, rfl, h1, h2, h3⟩ := h.ex
  exact rowOf_line h2 h3
theorem joinC_mem {c x : Nat} : ∀ {ls : List (List Nat)}, x ∈ joinC c ls → x = c ∨ ∃ l ∈ ls, x ∈ l
  | [], h => nomatch h
  | [l], h => .inr ⟨l, List.mem_cons_self, h⟩
  | l :: m :: r, h => by
    have h : x ∈ l ++ c :: joinC c (m :: r) := h
    rcases List.mem_append.mp h with h | h
    · exact .inr ⟨l, List.mem_cons_self, h⟩
    · rcases List.mem_cons.mp h with h | h
      · exact .inl h
      · rcases joinC_mem h with h | ⟨q, h1, h2⟩
        · exact .inl h
        · exact .inr ⟨q, List.mem_cons_of_mem _ h1, h2⟩
theorem line_signs {n : Nat} {ws : List Str} (hw : ∀ w ∈ ws, IsWord w) : ∀ c ∈ cps (lineS n ws), c = 32 ∨ (97 ≤ c ∧ c ≤ 122) := by
  intro c hc
  rw [lineS_cps] at hc
  rcases List.mem_append.mp hc with h | h
  · exact .inl (List.eq_of_mem_replicate h)
  · rcases joinC_mem h with h | ⟨l, h1, h2⟩
    · exact .inl h
    · obtain ⟨w, h3, rfl⟩ := List.mem_map.mp h1
      exact .inr ((hw w h3).al c h2)
theorem RowG.no {r : Row} (h : RowG r) : 10 ∉ cps (lineR r) := by
  obtain ⟨n, ws, rfl, h1, h2, h3⟩ := h.ex
  intro c
  rcases line_signs h3 10 c with h | h <;> omega
theorem RowG.asc {r : Row} (h : RowG r) : asc (lineR r) := by
  obtain ⟨n, ws, rfl, h1, h2, h3⟩ := h.ex
  intro c hc
  rcases line_signs h3 c hc with h | h <;> omega
theorem joinC_len (c : Nat) : ∀ {ls : List (List Nat)}, ls ≠ [] → (joinC c ls).length + 1 = (ls.map fun l => l.length + 1).sum
  | [], h => absurd rfl h
  | [l], _ => by simp [joinC]
  | l :: m :: r, _ => by
    have := joinC_len c (ls := m :: r) (List.cons_ne_nil _ _)
    show (l ++ c :: joinC c (m :: r)).length + 1 = _
    rw [List.length_append, List.length_cons, List.map_cons, List.sum_cons]
    omega
/-- the text of rows -/
def textR (rows : List Row) : Str := Str.join "\n" (rows.map lineR)
theorem textR_lines {rows : List Row} (hn : rows ≠ []) (hg : ∀ r ∈ rows, RowG r) : linesOf (textR rows) = rows.map lineR := by
  show Txt.split (Str.join (Str.ofString "\n") _) (Str.ofString "\n") = _
  rw [nl_eq]
  refine split_of_join (by simpa using hn) fun l hl => ?_
  obtain ⟨r, hr, rfl⟩ := List.mem_map.mp hl
  exact (hg r hr).no
theorem textR_rows {rows : List Row} (hn : rows ≠ []) (hg : ∀ r ∈ rows, RowG r) : rowsOf (textR rows) = rows := by
  unfold rowsOf
  rw [textR_lines hn hg, List.map_map]
  refine (List.map_congr_left fun r hr => ?_).trans (List.map_id _)
  exact (hg r hr).of
theorem textR_len {rows : List Row} (hn : rows ≠ []) : (textR rows).length + 1 = (rows.map fun r => (lineR r).length + 1).sum := by
  show (Str.join (Str.ofString "\n") _).length + 1 = _
  rw [nl_eq, ← cps_len, join_cps, joinC_len 10 (by simpa using hn), List.map_map, List.map_map]
  refine congrArg List.sum (List.map_congr_left fun r _ => ?_)
  show (cps (lineR r)).length + 1 = _
  rw [cps_len]
theorem line_len {n : Nat} {ws : List Str} (hn : ws ≠ []) : (lineS n ws).length + 1 = 2 * n + (ws.map fun w => w.length + 1).sum := by
  rw [← cps_len, lineS_cps, List.length_append, List.length_replicate, Nat.add_assoc, joinC_len 32 (by simpa using hn), List.map_map]
  refine congrArg (2 * n + ·) (congrArg List.sum (List.map_congr_left fun r _ => ?_))
  show (cps r).length + 1 = _
  rw [cps_len]
theorem sum_two : ∀ {ws : List Str}, (∀ w ∈ ws, IsWord w) → 2 * ws.length ≤ (ws.map fun w => w.length + 1).sum
  | [], _ => Nat.zero_le _
  | w :: r, h => by
    have := sum_two fun x hx => h x (List.mem_cons_of_mem _ hx)
    have l := (h w List.mem_cons_self).lo
    rw [len_toList] at l
    rw [List.map_cons, List.sum_cons, List.length_cons]
    omega
theorem RowG.two {r : Row} (h : RowG r) : 2 * rowN r ≤ (lineR r).length + 1 := by
  obtain ⟨n, ws, rfl, h1, h2, h3⟩ := h.ex
  have := sum_two h3
  have e : (lineR (some (n, ws))).length + 1 = _ := line_len h2
  rw [e]
  show 2 * ws.length ≤ _
  omega
theorem sum_rows : ∀ {rows : List Row}, (∀ r ∈ rows, RowG r) → 2 * (rows.map rowN).sum ≤ (rows.map fun r => (lineR r).length + 1).sum
  | [], _ => Nat.zero_le _
  | r :: t, h => by
    have := sum_rows fun x hx => h x (List.mem_cons_of_mem _ hx)
    have l := (h r List.mem_cons_self).two
    rw [List.map_cons, List.sum_cons, List.map_cons, List.sum_cons]
    omega
theorem le_sum {x : Nat} : ∀ {l : List Nat}, x ∈ l → x ≤ l.sum
  | y :: r, h => by
    rw [List.sum_cons]
    rcases List.mem_cons.mp h with rfl | h
    · omega
    · have := le_sum h; omega
theorem textR_ok {rows : List Row} (hn : rows ≠ []) (hg : ∀ r ∈ rows, RowG r) (hl : (textR rows).length ≤ 7000) : TextOk (textR rows) := by
  have el := textR_len hn
  have each : ∀ r ∈ rows, (lineR r).length + 1 ≤ (rows.map fun r => (lineR r).length + 1).sum := fun r hr => le_sum (List.mem_map_of_mem (f := fun r => (lineR r).length + 1) hr)
  have cnt : rows.length ≤ (rows.map fun r => (lineR r).length + 1).sum := by
    clear el each hn hg hl
    induction rows with
    | nil => exact Nat.zero_le _
    | cons r t ih =>
      rw [List.map_cons, List.sum_cons, List.length_cons]
      omega
  refine ⟨fun l hl2 => ?_, ?_, ?_, ?_⟩
  · rw [textR_lines hn hg] at hl2
    obtain ⟨r, hr, rfl⟩ := List.mem_map.mp hl2
    have := each r hr
    have g := hg r hr
    obtain ⟨n, ws, rfl, h1, h2, h3⟩ := g.ex
    have e1 : bareS (lineS n ws) = Str.join " " ws := lstrip_spc _ _ (join_head h3)
    have e2 : wordsN (lineS n ws) = ws := by
      unfold wordsN
      rw [e1]
      show Txt.split (Str.join (Str.ofString " ") ws) (Str.ofString " ") = ws
      rw [sp_eq]
      exact split_of_join h2 fun l hl => word_no (h3 l hl) (by decide)
    have tw := g.two
    have tw : 2 * ws.length ≤ _ := tw
    show LineOk (lineS n ws)
    change (lineS n ws).length + 1 ≤ _ at this
    refine ⟨by omega, ?_, ?_, ?_⟩
    · rw [e1]; unfold lineS; rw [Str.length_append]; omega
    · rw [e2]; change 2 * ws.length ≤ (lineS n ws).length + 1 at tw; omega
    · intro w hw
      rw [e2] at hw
      have i := h3 w hw
      refine ⟨?_, word_asc i⟩
      have := i.hi
      rw [len_toList] at this
      omega
  · rw [textR_lines hn hg, List.length_map]; omega
  · rw [textR_rows hn hg]
    unfold rS
    rw [List.take_length]
    have := sum_rows hg
    omega
  · rw [sizeLine_eq]; omega
theorem textR_le {rows : List Row} {L : Nat} (hn : rows ≠ []) (h : ∀ r ∈ rows, (lineR r).length ≤ L) : (textR rows).length ≤ rows.length * (L + 1) := by
  have el := textR_len hn
  have : ∀ rs : List Row, (∀ r ∈ rs, (lineR r).length ≤ L) → (rs.map fun r => (lineR r).length + 1).sum ≤ rs.length * (L + 1) := by
    intro rs
    induction rs with
    | nil => intro _; simp
    | cons r t ih =>
      intro h
      have := ih fun x hx => h x (List.mem_cons_of_mem _ hx)
      have l := h r List.mem_cons_self
      rw [List.map_cons, List.sum_cons, List.length_cons, Nat.add_mul]
      omega
  have := this rows h
  omega
/-! ### facts of a library's functions, whatever their blocks are numbered -/
theorem word_lit {w : Str} (h : wordS w = true) : IsWord w := wordS_of h
theorem mode_word {m : Str} (h : modeS m = true) : IsWord m := by
  have h := of_decide_eq_true h
  simp only [List.mem_cons, List.not_mem_nil, or_false] at h
  rcases h with rfl | rfl | rfl | rfl | rfl | rfl | rfl | rfl <;> exact word_lit (by decide +kernel)
theorem two_word {w : Str} (h : w ∈ (["pass", "doom"] : List Str)) : IsWord w := by
  rcases in2 h with rfl | rfl <;> exact word_lit (by decide +kernel)
theorem three_word {w : Str} (h : w ∈ (["write", "raise", "call"] : List Str)) : IsWord w := by
  rcases in3 h with rfl | rfl | rfl <;> exact word_lit (by decide +kernel)
theorem gua_word {w : Str} (h : w ∈ (["maybe", "repeat"] : List Str)) : IsWord w := by
  rcases inG h with rfl | rfl <;> exact word_lit (by decide +kernel)
theorem wd_block : IsWord (Str.ofString "block") := word_lit (by decide +kernel)
theorem wd_keep : IsWord (Str.ofString "keep") := word_lit (by decide +kernel)
theorem wd_try : IsWord (Str.ofString "try") := word_lit (by decide +kernel)
theorem wd_except : IsWord (Str.ofString "except") := word_lit (by decide +kernel)
theorem wd_finally : IsWord (Str.ofString "finally") := word_lit (by decide +kernel)
theorem wd_function : IsWord (Str.ofString "function") := word_lit (by decide +kernel)
theorem hdrs_good {n k : Nat} : ∀ {h : Hd}, HdW n k h → ∀ x ∈ hdrs h, x ≠ [] ∧ ∀ w ∈ x, IsWord w
  | .sim w, h, x, hx => by
    rw [List.mem_singleton.mp hx]
    exact ⟨by simp, fun v hv => by rw [List.mem_singleton.mp hv]; exact two_word h.1⟩
  | .one q w, h, x, hx => by
    rw [List.mem_singleton.mp hx]
    refine ⟨by simp, fun v hv => ?_⟩
    rcases List.mem_cons.mp hv with rfl | hv
    · exact three_word h.1
    · rw [List.mem_singleton.mp hv]; exact h.2.1
  | .blk _ m ks, h, x, hx => by
    rw [List.mem_singleton.mp hx]
    refine ⟨by simp, fun v hv => ?_⟩
    rcases List.mem_cons.mp hv with rfl | hv
    · exact wd_block
    rcases List.mem_cons.mp hv with rfl | hv
    · exact mode_word h.1
    · split at hv
      · cases hv
      · rcases List.mem_cons.mp hv with rfl | hv
        · exact wd_keep
        · exact h.2.1 v hv
  | .gua q, h, x, hx => by
    rw [List.mem_singleton.mp hx]
    exact ⟨by simp, fun v hv => by rw [List.mem_singleton.mp hv]; exact gua_word h.1⟩
  | .tr ws fin, h, x, hx => by
    rcases List.mem_cons.mp hx with rfl | hx
    · exact ⟨by simp, fun v hv => by rw [List.mem_singleton.mp hv]; exact wd_try⟩
    rcases List.mem_append.mp hx with hx | hx
    · obtain ⟨o, ho, rfl⟩ := List.mem_map.mp hx
      refine ⟨by simp, fun v hv => ?_⟩
      rcases List.mem_cons.mp hv with rfl | hv
      · exact wd_except
      · cases o with
        | none => cases hv
        | some l => exact (h.1.wd l ho).2 v hv
    · split at hx
      · rw [List.mem_singleton.mp hx]
        exact ⟨by simp, fun v hv => by rw [List.mem_singleton.mp hv]; exact wd_finally⟩
      · cases hx
theorem HdW.deep {n k : Nat} : ∀ {h : Hd}, HdW n k h → k ≠ 0 → n < 8
  | .sim _, h, c => absurd h.2 c
  | .one _ _, h, c => absurd h.2.2 c
  | .blk _ _ _, h, _ => h.2.2.2
  | .gua _, h, _ => h.2.2
  | .tr _ _, h, _ => h.2.2
mutual
theorem rowsS_good : ∀ (s : Stm) (n : Nat), n ≤ 8 → wfS n s → ∀ r ∈ rowsS n s, RowG r
  | .mk h ps, n, hn, hw, r, hr => by
    rw [wfS] at hw
    rw [rowsS] at hr
    exact rowsP_good ps n (hdrs h) hn (fun c => hw.1.deep (by simpa using c)) (hdrs_good hw.1) hw.2 r hr
theorem rowsP_good : ∀ (ps : List (List Stm)) (n : Nat) (hs : List (List Str)), n ≤ 8 → (ps ≠ [] → n < 8) → (∀ x ∈ hs, x ≠ [] ∧ ∀ w ∈ x, IsWord w) → wfP (n + 1) ps → ∀ r ∈ rowsP n hs ps, RowG r
  | [], n, hs, hn, _, hh, _, r, hr => by
    rw [rowsP] at hr
    obtain ⟨x, hx, rfl⟩ := List.mem_map.mp hr
    exact ⟨n, x, rfl, hn, (hh x hx).1, (hh x hx).2⟩
  | b :: ps, n, hs, hn, hd, hh, hw, r, hr => by
    rw [wfP] at hw
    rw [rowsP] at hr
    have lt := hd (by simp)
    rcases List.mem_append.mp hr with hr | hr
    · cases hs with
      | nil => cases hr
      | cons x t =>
        rw [List.mem_singleton.mp hr]
        exact ⟨n, x, rfl, hn, (hh x List.mem_cons_self).1, (hh x List.mem_cons_self).2⟩
    rcases List.mem_append.mp hr with hr | hr
    · exact rowsB_good b (n + 1) (by omega) hw.1.2 r hr
    · exact rowsP_good ps n hs.tail hn (fun _ => lt) (fun x hx => hh x (List.mem_of_mem_tail hx)) hw.2 r hr
theorem rowsB_good : ∀ (b : List Stm) (n : Nat), n ≤ 8 → wfB n b → ∀ r ∈ rowsB n b, RowG r
  | [], n, _, _, r, hr => by rw [rowsB] at hr; cases hr
  | s :: t, n, hn, hw, r, hr => by
    rw [wfB] at hw
    rw [rowsB] at hr
    rcases List.mem_append.mp hr with hr | hr
    · exact rowsS_good s n hn hw.1 r hr
    · exact rowsB_good t n hn hw.2 r hr
end
theorem rowsF_good {gs : List FT} (h : ∀ g ∈ gs, FTOk g) : ∀ r ∈ rowsF gs, RowG r := by
  intro r hr
  obtain ⟨l, hl, hr⟩ := List.mem_flatten.mp hr
  obtain ⟨g, hg, rfl⟩ := List.mem_map.mp hl
  have o := h g hg
  rcases List.mem_cons.mp hr with rfl | hr
  · refine ⟨0, _, rfl, by omega, by simp, fun w hw => ?_⟩
    rcases List.mem_cons.mp hw with rfl | hw
    · exact wd_function
    · rw [List.mem_singleton.mp hw]; exact o.nm
  · exact rowsB_good g.2 1 (by omega) o.wf r hr
/-- the same statement, numbered -/
def NumS (x y : Stm) : Prop := ∃ c, x = numS c y
def NumP (x y : Stm × Bool) : Prop := NumS x.1 y.1 ∧ x.2 = y.2
theorem isG_setN (c : Nat) : ∀ h : Hd, isG (setN c h) = isG h
  | .sim _ | .one _ _ | .blk _ _ _ | .gua _ | .tr _ _ => rfl
mutual
theorem lsS_num (g : Bool) : ∀ (s : Stm) (c : Nat), A2 NumP (lsS g (numS c s)) (lsS g s)
  | .mk h ps, c => by
    rw [numS, lsS, lsS, isG_setN]
    exact .cons ⟨⟨c, by rw [numS]⟩, rfl⟩ (lsP_num (g || isG h) ps (c + isBk h))
theorem lsP_num (g : Bool) : ∀ (ps : List (List Stm)) (c : Nat), A2 NumP (lsP g (numP c ps)) (lsP g ps)
  | [], c => by rw [numP, lsP]; exact .nil
  | b :: r, c => by
    rw [numP, lsP, lsP]
    exact (lsB_num g b c).app (lsP_num g r _)
theorem lsB_num (g : Bool) : ∀ (b : List Stm) (c : Nat), A2 NumP (lsB g (numB c b)) (lsB g b)
  | [], c => by rw [numB, lsB]; exact .nil
  | s :: r, c => by
    rw [numB, lsB, lsB]
    exact (lsS_num g s c).app (lsB_num g r _)
end
theorem A2.map2 {α β γ δ : Type} {R : α → β → Prop} {S : γ → δ → Prop} {f : α → γ} {f' : β → δ} (h : ∀ x y, R x y → S (f x) (f' y)) : ∀ {xs : List α} {ys : List β}, A2 R xs ys → A2 S (xs.map f) (ys.map f')
  | _, _, .nil => .nil
  | _, _, .cons a r => .cons (h _ _ a) (A2.map2 h r)
theorem allB_num (b : List Stm) (c : Nat) : A2 NumS (allB (numB c b)) (allB b) := by
  rw [← lsB_fst false, ← lsB_fst false]
  exact A2.map2 (fun _ _ h => h.1) (lsB_num false b c)
theorem freeB_num (b : List Stm) (c : Nat) : A2 NumS (freeB (numB c b)) (freeB b) := by
  unfold freeB
  exact A2.map2 (fun _ _ h => h.1) (A2.filt (fun x y h => by rw [h.2]) (lsB_num false b c))
theorem A2.filterMap_eq {α β γ : Type} {R : α → β → Prop} {f : α → Option γ} {f' : β → Option γ} (h : ∀ x y, R x y → f x = f' y) : ∀ {xs : List α} {ys : List β}, A2 R xs ys → xs.filterMap f = ys.filterMap f'
  | _, _, .nil => rfl
  | _, _, .cons a r => by rw [List.filterMap_cons, List.filterMap_cons, h _ _ a, A2.filterMap_eq h r]
theorem A2.map_eq {α β γ : Type} {R : α → β → Prop} {f : α → γ} {f' : β → γ} (h : ∀ x y, R x y → f x = f' y) : ∀ {xs : List α} {ys : List β}, A2 R xs ys → xs.map f = ys.map f'
  | _, _, .nil => rfl
  | _, _, .cons a r => by rw [List.map_cons, List.map_cons, h _ _ a, A2.map_eq h r]
theorem numS_hd (c : Nat) (s : Stm) : (numS c s).hd = setN c s.hd := by
  cases s
  rw [numS]; rfl
theorem nameOf_num (k : Str) {x y : Stm} (h : NumS x y) : nameOf k x = nameOf k y := by
  obtain ⟨c, rfl⟩ := h
  unfold nameOf
  rw [numS_hd]
  cases y.hd <;> rfl
theorem wordsH_num {x y : Stm} (h : NumS x y) : wordsH x.hd = wordsH y.hd := by
  obtain ⟨c, rfl⟩ := h
  rw [numS_hd]
  cases y.hd <;> rfl
theorem callee_num (fs : List Fun) {x y : Stm} (h : NumS x y) : callee fs x = callee fs y := by
  obtain ⟨c, rfl⟩ := h
  unfold callee
  rw [numS_hd]
  cases y.hd <;> rfl
theorem callsB_num (fs : List Fun) (b : List Stm) (c : Nat) : callsB fs (numB c b) = callsB fs b := A2.filterMap_eq (fun _ _ h => callee_num fs h) (freeB_num b c)
theorem wtB_num (fs : List Fun) (n : Nat) (b : List Stm) (c : Nat) : wtB fs n (numB c b) = wtB fs n b := by
  unfold wtB
  exact congrArg List.sum (A2.map_eq (fun x y h => by rw [callee_num fs h]) (freeB_num b c))
theorem numS_ps (c : Nat) (s : Stm) : (numS c s).ps = numP (c + isBk s.hd) s.ps := by
  cases s
  rw [numS]; rfl
theorem heavyS_num (fs : List Fun) {x y : Stm} (h : NumS x y) : heavyS fs x = heavyS fs y := by
  obtain ⟨c, rfl⟩ := h
  unfold heavyS
  rw [numS_hd, isG_setN, numS_ps]
  cases y.ps with
  | nil => rw [numP]
  | cons b r => rw [numP]; simp only [wtB_num]
theorem funsF_names : ∀ (gs : List FT) (i c : Nat), namesF (funsF i c gs) = gs.map (·.1)
  | [], _, _ => by rw [funsF]; rfl
  | g :: r, i, c => by
    rw [funsF]
    show g.1 :: namesF (funsF _ _ r) = _
    rw [funsF_names r]; rfl
theorem funsF_len (gs : List FT) (i c : Nat) : (funsF i c gs).length = gs.length := by
  have := congrArg List.length (funsF_names gs i c)
  unfold namesF at this
  rwa [List.length_map, List.length_map] at this
def allT (gs : List FT) : List Stm := (gs.map fun g => allB g.2).flatten
theorem allF_num : ∀ (gs : List FT) (i c : Nat), A2 NumS (allF (funsF i c gs)) (allT gs)
  | [], _, _ => by rw [funsF]; exact .nil
  | g :: r, i, c => by
    rw [funsF, show ∀ f : Fun, ∀ t, f :: t = [f] ++ t from fun _ _ => rfl, allF_app, allF_one]
    exact (allB_num g.2 c).app (allF_num r _ _)
def recT (gs : List FT) : List Str := (allT gs).filterMap (nameOf "write")
def errT (gs : List FT) : List Str := (["doomed", "missing", "present", "refused", "waits"] : List Str) ++ ((allT gs).map fun s => wordsH s.hd).flatten
def unkT (gs : List FT) : List Str := ((allT gs).filterMap (nameOf "call")).filter fun w => !decide (w ∈ gs.map (·.1))
theorem recN_T (gs : List FT) (i c : Nat) : recN (funsF i c gs) = recT gs := A2.filterMap_eq (fun _ _ h => nameOf_num _ h) (allF_num gs i c)
theorem errN_T (gs : List FT) (i c : Nat) : errN (funsF i c gs) = errT gs := by
  unfold errN errT
  rw [A2.map_eq (fun _ _ h => wordsH_num h) (allF_num gs i c)]
theorem unkN_T (gs : List FT) (i c : Nat) : unkN (funsF i c gs) = unkT gs := by
  unfold unkN unkT
  rw [A2.filterMap_eq (fun _ _ h => nameOf_num _ h) (allF_num gs i c), funsF_names]
theorem pairsF_T (gs : List FT) (i c : Nat) : (pairsF (funsF i c gs)).length = (allT gs).length := by
  have := (allF_num gs i c).len
  rw [← this, ← pairsF_fst, List.length_map]
def bodyT (gs : List FT) (w : Str) : List Stm := ((gs.find? fun g => decide (g.1 = w)).map (·.2)).getD []
theorem bodyOf_T : ∀ (gs : List FT) (i c : Nat) (w : Str), ∃ c', bodyOf (funsF i c gs) w = numB c' (bodyT gs w)
  | [], _, _, w => ⟨0, by rw [funsF]; unfold bodyOf bodyT; rw [numB.eq_def]; rfl⟩
  | g :: r, i, c, w => by
    rw [funsF]
    by_cases e : g.1 = w
    · refine ⟨c, ?_⟩
      unfold bodyOf bodyT
      rw [List.find?_cons, List.find?_cons]
      dsimp only
      rw [decide_eq_true e]
      rfl
    · obtain ⟨c', h⟩ := bodyOf_T r (i + 1 + lnB g.2) (c + nbB g.2) w
      refine ⟨c', ?_⟩
      unfold bodyOf bodyT at *
      rw [List.find?_cons, List.find?_cons]
      dsimp only
      rw [decide_eq_false e]
      exact h
/-- callee, by names alone -/
def calleeN (ns : List Str) (s : Stm) : Option Str := match s.hd with
  | .one k w => if k = "call" ∧ w ∈ ns then some w else none
  | _ => none
theorem callee_T (gs : List FT) (i c : Nat) (s : Stm) : callee (funsF i c gs) s = calleeN (gs.map (·.1)) s := by
  unfold callee calleeN
  rw [funsF_names] <;> rfl
def callsN (ns : List Str) (b : List Stm) : List Str := (freeB b).filterMap (calleeN ns)
theorem callsB_T (gs : List FT) (i c : Nat) (b : List Stm) : callsB (funsF i c gs) b = callsN (gs.map (·.1)) b := by
  unfold callsB callsN
  exact congrArg (fun f => (freeB b).filterMap f) (funext fun s => callee_T gs i c s)
def callsT (gs : List FT) : Calls := gs.map fun g => (g.1, callsN (gs.map (·.1)) g.2)
theorem callsF_T (gs : List FT) (i c : Nat) : callsF (funsF i c gs) = callsT gs := by
  have : ∀ (fs : List Fun) (hs : List FT) (i c : Nat), (funsF i c hs).map (fun f => (f.name, callsB fs f.body)) = hs.map fun g => (g.1, callsB fs g.2) := by
    intro fs hs
    induction hs with
    | nil => intro i c; rw [funsF]; rfl
    | cons g r ih =>
      intro i c
      rw [funsF, List.map_cons, List.map_cons, ih, callsB_num]
  unfold callsF callsT
  rw [this]
  exact List.map_congr_left fun g _ => by rw [callsB_T]
theorem ok_law_draw (T : Txt K mg a d) : FnOk P w K mg base CX0 1 a.law_draw d.law_draw ["_law_pool_here", "_law_many"] spDraw := by
  refine T.law_draw.ok sc_law_draw (fun vs H Q E h => ?_) (fun cdv A outer s H vs Q E hr h => ?_)
  · obtain ⟨p, m, c, o, rfl, _⟩ := h
    rfl
  · obtain ⟨p, m, c, o, rfl, hp, ⟨x, y, n, rfl, hx, hy, hy2, hn, hn2⟩, hm, hm2, hc, k⟩ := h
    have hw : ∀ i : Int, CDivW i m := fun i => wide_div (b := 200) hm (by omega) (by decide) (by decide)
    have e1 : (b2 : Int) → 0 ≤ b2 → b2 < 2 ^ 62 → CPow (b2 + 48611 * (n + 1)) 3 := fun b2 h1 h2 => ⟨by decide, by decide, by omega⟩
    have e2 : (b2 : Int) → 0 ≤ b2 → b2 < 2 ^ 62 → CPow (b2 + 104729 * (n + 1)) 3 := fun b2 h1 h2 => ⟨by decide, by decide, by omega⟩
    have e3 : ∀ i j : Int, -1000000 < i → i < 1000000 → CMul i j := fun i j h1 h2 => .inl ⟨by omega, by omega⟩
    refine ⟨_, (pss_cons (ps_if (pt_cmpR op_gt (pe_ix ix_list (pv 0) pe_int (fun _ _ => rfl)) pe_int (nomark _)) (pss_cons (ps_set (i := 2) sc_law_draw.nd rfl (Or.inl rfl) (pe_op op_mod (pe_callTy call_int1 (by rfl) T.n_int (by decide +kernel) (pa_cons (pe_ix ix_list (pv 0) pe_int (fun _ _ => rfl)) pa_nil)) (pv 1)))
  (pss_cons (ps_asg (pe_op op_fdivW (pe_ix ix_list (pv 0) pe_int (fun _ _ => rfl)) (pv 1)) (pg_sub (pv 0) pe_int set_list))
  (pss_one (ps_ret (pv 2))))) pss_nil)
  (pss_cons (ps_set (i := 3) sc_law_draw.nd rfl (Or.inl rfl) (pe_op op_add (pe_ix ix_list (pv 0) pe_int (fun _ _ => rfl)) pe_int))
  (pss_cons (ps_asg (pv 3) (pg_sub (pv 0) pe_int set_list))
  (pss_cons (ps_set (i := 4) sc_law_draw.nd rfl (Or.inl rfl) (pe_op op_mod (pe_callTy call_int1 (by rfl) T.n_int (by decide +kernel) (pa_cons (pe_op op_add (pe_op op_pow (pe_op op_add (pe_ix ix_list (pv 0) pe_int (fun _ _ => rfl)) (pe_op op_mul pe_int (pv 3))) pe_int) (pe_op op_mul pe_int (pv 3))) pa_nil)) pe_int))
  (pss_cons (ps_set (i := 4) sc_law_draw.nd rfl (Or.inl rfl) (pe_op op_mod (pe_callTy call_int1 (by rfl) T.n_int (by decide +kernel) (pa_cons (pe_op op_pow (pe_op op_add (pv 4) (pe_op op_mul pe_int (pv 3))) pe_int) pa_nil)) pe_int))
  (pss_one (ps_ret (pe_op op_mod (pe_callTy call_int1 (by rfl) T.n_int (by decide +kernel) (pa_cons (pe_op op_fdivW (pv 4) pe_int) pa_nil)) (pv 1))))))))), ?_⟩
    dsimp only [cxOf]
    walk_at "rd"
    refine ite2 (fun c0 => ?_) (fun c0 => ?_)
    · have c1 : 0 < x := of_decide_eq_true c0
      walk_at "rd"
      refine And.intro (hw _) ?_
      walk_at "rd"
      refine k _ _ (Int.emod_nonneg _ (by omega)) (Int.emod_lt_of_pos _ hm) ⟨_, _, _, rfl, Int.ediv_nonneg (by omega) (by omega), hy, hy2, hn, by omega⟩
    · walk_at "rd"
      refine And.intro (e1 _ hy hy2) ?_
      walk_at "rd"
      refine And.intro (e2 _ (Int.emod_nonneg _ (by decide)) (Int.lt_trans (Int.emod_lt_of_pos _ (by decide)) (by decide))) ?_
      walk_at "rd"
      refine k _ _ (Int.emod_nonneg _ (by omega)) (Int.emod_lt_of_pos _ hm) ⟨_, _, _, rfl, hx, hy, hy2, by omega, by omega⟩
theorem ok_law_pool (T : Txt K mg a d) : FnOk P w K mg base CX0 1 a.law_pool d.law_pool ["_law_script", "_law_at"] (spPool K) := by
  refine T.law_pool.ok sc_law_pool (fun vs H Q E h => ?_) (fun cdv A outer s H vs Q E hr h => ?_)
  · obtain ⟨p, ns, i, rfl, _⟩ := h
    rfl
  · obtain ⟨p, ns, i, rfl, hS, hi, k⟩ := h
    have e3 : ∀ i j : Int, -1000000 < i → i < 1000000 → CMul i j := fun i j h1 h2 => .inl ⟨by omega, by omega⟩
    have e4 : ∀ i j : Int, -1000000 < j → j < 1000000 → CMul i j := fun i j h1 h2 => .inr ⟨by omega, by omega⟩
    refine ⟨_, (pss_cons (ps_set (i := 2) sc_law_pool.nd rfl (Or.inl rfl) (pe_ifExp (pt_cmpR op_lt (pv 1) (pe_callB call_len_seq (by rfl) T.n_len PySem.boot_len (pa_cons (pv 0) pa_nil)) (nomark _)) (pe_ix ix_list (pv 0) (pv 1) (fun _ _ => rfl)) pe_int))
  (pss_cons (ps_set (i := 3) sc_law_pool.nd rfl (Or.inl rfl) (pe_callB call_abs (by rfl) T.n_abs (by decide +kernel) (pa_cons (pv 2) pa_nil)))
  (pss_cons (ps_set (i := 4) sc_law_pool.nd rfl (Or.inl rfl) (pe_op op_mod (pe_callTy call_int1 (by rfl) T.n_int (by decide +kernel) (pa_cons (pe_op op_add (pe_op op_add (pe_op op_mul (pv 3) pe_int) (pe_op op_mul pe_int (pv 1))) (pe_callTy call_int1 (by rfl) T.n_int (by decide +kernel) (pa_cons (pe_cmpR op_lt (pv 2) pe_int (nomark _)) pa_nil))) pa_nil)) pe_int))
  (pss_one (ps_ret (pe_lst (pa_cons (pe_ifExp (pt_cmpR op_ge (pv 3) (pe_op op_pow pe_int pe_int) (nomark _)) (pv 3) pe_int) (pa_cons (pe_op op_add (pv 4) pe_int) (pa_cons pe_int pa_nil))))))))), ?_⟩
    dsimp only [cxOf]
    walk_at "rd"
    refine ite2 (fun c0 => ?_) (fun c0 => ?_)
    · have c1 : (i : Int) < ((ns.map V.int).length : Int) := of_decide_eq_true c0
      rw [List.length_map] at c1
      have c2 : i < ns.length := by omega
      have hz : (ns.map V.int)[i]? = some (.int ns[i]) := by
        rw [List.getElem?_map, List.getElem?_eq_getElem c2]; rfl
      walk_at "rd"
      refine And.intro (atI_nat hz) ?_
      walk_at "rd"
      refine ite2 (fun c2 => ?_) (fun c2 => ?_)
      all_goals
        walk_at "rd"
        intro q hq
        exact k q _ hq ⟨_, _, _, rfl, (by first | (split <;> omega) | decide), Int.add_nonneg (Int.emod_nonneg _ (by decide)) (by decide), Int.lt_trans (Int.add_lt_add_right (Int.emod_lt_of_pos _ (by decide)) _) (by decide), Int.le_refl 0, Int.le_refl 0⟩
    · walk_at "rd"
      intro q hq
      exact k q _ hq ⟨_, _, _, rfl, Int.le_refl 0, Int.add_nonneg (Int.emod_nonneg _ (by decide)) (by decide), Int.lt_trans (Int.add_lt_add_right (Int.emod_lt_of_pos _ (by decide)) _) (by decide), Int.le_refl 0, Int.le_refl 0⟩
theorem ok_law_word (T : Txt K mg a d) : FnOk P w K mg base CX0 2 a.law_word d.law_word ["_law_pool_here"] spWord := by
  have G_law_draw : FnOk P w K mg base CX0 1 a.law_draw d.law_draw ["_law_pool_here", "_law_many"] spDraw := ok_law_draw T
  refine T.law_word.ok sc_law_word (fun vs H Q E h => ?_) (fun cdv A outer s H vs Q E hr h => ?_)
  · obtain ⟨p, c, o, rfl, _⟩ := h
    rfl
  · obtain ⟨p, c, o, rfl, hp, hc, hb, k⟩ := h
    refine ⟨_, (pss_cons (ps_set (i := 1) sc_law_word.nd rfl (Or.inr rfl) pe_str)
  (pss_one (ps_ret (pe_join pe_str (pe_lc (own := [("_law_k", 2)]) (tt := tYes) rfl sc_law_word.nd (pi_range1 (by rfl) T.n_range (pa_cons (pe_op op_add pe_int (pe_call G_law_draw (hr.mono (by omega)) (by rfl) T.g_law_draw T.law_draw.kp T.b_law_draw .nil pass0 (pa_cons (pv 0) (pa_cons pe_int pa_nil)))) pa_nil)) (blkOk_by (own := [("_law_k", 2)]) (N := ["_law_pool_here", "_law_letters", "_law_k"]) (sc := defScope s_law_word) (by decide +kernel)) (fun _ _ _ _ _ => (pg_name (i := 2) sc_law_word.nd rfl (Or.inl rfl))) (fun _ _ _ _ _ => pts_nil) (fun _ _ _ _ _ => (pe_ix ix_str (pv 1) (pe_call G_law_draw (hr.mono (by omega)) (by rfl) T.g_law_draw T.law_draw.kp T.b_law_draw .nil pass0 (pa_cons (pv 0) (pa_cons pe_int pa_nil))) (fun _ _ => rfl)))))))), ?_⟩
    dsimp only [cxOf]
    walk_at "rd"
    intro r o1 r0 r1 h1
    walk_at "rd"
    intro D hD
    refine lc_letters (c := c + 1) hD upd_same h1 (by omega) (by omega) rfl rfl (by decide) (by decide) fun H' cs o2 e1 e2 e3 e4 e5 e6 => ?_
    refine ⟨_, _, cs.map chr1, rfl, rfl, Or.inl (SqL.of e6), ?_, ?_⟩
    · rw [sum_chr, e1]
      have : (Str.ofString "").length = 0 := by decide +kernel
      rw [this]; omega
    · rw [join_chr]
      refine k _ o2 _ ⟨?_, ?_, e2⟩ (e5.mono (by omega)) e4 (Kp.refl.set1.trans e3)
      · show 1 ≤ cs.length
        omega
      · show cs.length ≤ 8
        omega
/-! ### words that are all different -/
def stepD (S : List Str) (t : Nat) (w : Str) : Str := if w ∈ S then (if 7 < w.length then ⟨((cps w).drop 1 ++ [97 + t % 26]).toArray⟩ else w ++ "a") else w
def itD (S : List Str) : Nat → Str → Str
  | 0, w => w
  | t + 1, w => stepD S t (itD S t w)
theorem isW {w : Str} (h1 : 1 ≤ w.length) (h2 : w.length ≤ 8) (h3 : ∀ c ∈ cps w, 97 ≤ c ∧ c ≤ 122) : IsWord w := ⟨by rw [len_toList]; exact h1, by rw [len_toList]; exact h2, h3⟩
theorem IsWord.len {w : Str} (h : IsWord w) : 1 ≤ w.length ∧ w.length ≤ 8 := by
  have h1 := h.lo
  have h2 := h.hi
  rw [len_toList] at h1 h2
  exact ⟨h1, h2⟩
theorem a_cps : cps (Str.ofString "a") = [97] := by decide +kernel
theorem str_len (l : List Nat) : (⟨l.toArray⟩ : Str).length = l.length := by simp [Str.length]
/-! ### rules within a try: the text's K by name -/
section
open PySem PySem.Spec PyProof.Rows
variable {X : Cx} {K : PySem.W.Frag}
def rJoinK (K : PySem.W.Frag) : V → List V → Hp → VK → Prop := fun x xs H Q => ∃ a p, ∃ ys : List Str, x = .str a ∧ xs = [.ref p] ∧ (SqL K H p (ys.map V.str) ∨ SqT K H p (ys.map V.str)) ∧ (ys.map (·.length)).sum + ys.length * a.length ≤ 16777216 ∧ Q (.str (Txt.join a ys)) H
theorem pe_joinK {apos pos : Pos} {o e : Expr} {to te : TE} (hK : X.K = K) (ho : PE X o to) (he : PE X e te) (hs : starEach [e] X.env = [(false, eval e X.env)] := by rfl) (hbase : attributeBase o "join" X.env (eval o X.env) = eval o X.env := by rfl) (hline : (apos.endLine == pos.line) = true := by rfl) :
    PE X (.Call (.Attribute o "join" apos) [e] [] pos) (tM1 (rJoinK K) to te) := by
  subst hK
  exact pe_join ho he hs hbase hline
theorem cr_sortLSK (hK : X.K = K) : CallR X (.builtin "sorted") (fun vs H Q => ∃ (a : Addr) (xs : List Str), vs = [V.ref a] ∧ SqL K H a (xs.map V.str) ∧ ∀ p, H p = none → Q (.ref p) (upd H p (.lst ((sortT xs).map V.str)))) := hK ▸ cr_sortLS
end
/-! ### library laws: what is common (grown in k23) -/
theorem p_in : (Str.ofString "pass") ∈ (["pass", "doom"] : List Str) := by decide +kernel
theorem d_in : (Str.ofString "doom") ∈ (["pass", "doom"] : List Str) := by decide +kernel
theorem c_in : (Str.ofString "call") ∈ (["write", "raise", "call"] : List Str) := by decide +kernel
theorem r_in : (Str.ofString "raise") ∈ (["write", "raise", "call"] : List Str) := by decide +kernel
theorem m_in : (Str.ofString "maybe") ∈ (["maybe", "repeat"] : List Str) := by decide +kernel
theorem rp_in : (Str.ofString "repeat") ∈ (["maybe", "repeat"] : List Str) := by decide +kernel
theorem wfB_one {n : Nat} {s : Stm} (h : wfS n s) : wfB n [s] := by rw [wfB, wfB]; exact ⟨h, trivial⟩
theorem wfS_leaf {n : Nat} {h : Hd} (w : HdW n 0 h) : wfS n (.mk h []) := by rw [wfS, wfP]; exact ⟨w, trivial⟩
theorem wfS_1 {n : Nat} {h : Hd} {b : List Stm} (w : HdW n 1 h) (hb : wfB (n + 1) b) (ne : b ≠ []) : wfS n (.mk h [b]) := by rw [wfS, wfP, wfP]; exact ⟨w, ⟨ne, hb⟩, trivial⟩
theorem nbB_app : ∀ b c : List Stm, nbB (b ++ c) = nbB b + nbB c
  | [], c => by rw [List.nil_append, nbB.eq_1]; omega
  | s :: r, c => by rw [List.cons_append, nbB, nbB, nbB_app r c]; omega
theorem rowsB_app (n : Nat) : ∀ b c : List Stm, rowsB n (b ++ c) = rowsB n b ++ rowsB n c
  | [], c => by rw [List.nil_append, rowsB.eq_1]; rfl
  | s :: r, c => by rw [List.cons_append, rowsB, rowsB, rowsB_app n r c, List.append_assoc]
theorem wfB_app {n : Nat} : ∀ {b c : List Stm}, wfB n b → wfB n c → wfB n (b ++ c)
  | [], c, _, h => h
  | s :: r, c, h, h2 => by
    rw [wfB] at h
    rw [List.cons_append, wfB]
    exact ⟨h.1, wfB_app h.2 h2⟩
theorem callsN_app (ns : List Str) (b c : List Stm) : callsN ns (b ++ c) = callsN ns b ++ callsN ns c := by
  unfold callsN freeB
  rw [lsB_app, List.filter_append, List.map_append, List.filterMap_append]
theorem freeB_app (b c : List Stm) : freeB (b ++ c) = freeB b ++ freeB c := by
  unfold freeB
  rw [lsB_app, List.filter_append, List.map_append]
theorem sum_le {l : List Nat} {m : Nat} (h : ∀ x ∈ l, x ≤ m) : l.sum ≤ l.length * m := by
  induction l with
  | nil => simp
  | cons x r ih =>
    have := ih fun y hy => h y (List.mem_cons_of_mem _ hy)
    have := h x List.mem_cons_self
    rw [List.sum_cons, List.length_cons, Nat.add_mul]
    omega
theorem getD_nm {names : List Str} {k : Nat} (h : k < names.length) : names.getD k "" ∈ names := by
  rw [List.getD_eq_getElem?_getD, List.getElem?_eq_getElem h]
  exact List.getElem_mem h
theorem wtB_le {fs : List Fun} {n M : Nat} {b : List Stm} (h : ∀ y ∈ callsB fs b, wtF fs n y ≤ M) : wtB fs n b ≤ (freeB b).length + (callsB fs b).length * M := by
  unfold wtB callsB at *
  generalize freeB b = l at h ⊢
  induction l with
  | nil => simp
  | cons s r ih =>
    rw [List.map_cons, List.sum_cons, List.filterMap_cons, List.length_cons]
    cases e : callee fs s with
    | none =>
      rw [List.filterMap_cons, e] at h
      have := ih h
      simp only
      omega
    | some y =>
      rw [List.filterMap_cons, e] at h
      have := ih fun z hz => h z (List.mem_cons_of_mem _ hz)
      have h1 := h y List.mem_cons_self
      simp only [List.length_cons, Nat.add_mul]
      omega
theorem mksF_len : ∀ (gs : List FT) (i : Nat), (mksF i gs).length = (gs.map fun g => nbB g.2).sum
  | [], _ => rfl
  | g :: r, i => by rw [mksF, List.length_append, mksB_len, mksF_len r, List.map_cons, List.sum_cons]
theorem allT_len (gs : List FT) : (allT gs).length = (gs.map fun g => (allB g.2).length).sum := by
  unfold allT
  rw [List.length_flatten, List.map_map]; rfl
def rowW : Row → Nat
  | some (_, ws) => ws.length
  | none => 0
theorem line_le {r : Row} {k : Nat} (g : RowG r) (h : rowW r ≤ k) : (lineR r).length ≤ 16 + 9 * k := by
  obtain ⟨n, ws, rfl, h1, h2, h3⟩ := g.ex
  have e : (lineR (some (n, ws))).length + 1 = _ := line_len h2
  have : ∀ l : List Str, (∀ w ∈ l, IsWord w) → (l.map fun w => w.length + 1).sum ≤ 9 * l.length := by
    intro l
    induction l with
    | nil => intro _; simp
    | cons w r ih =>
      intro h
      have := ih fun x hx => h x (List.mem_cons_of_mem _ hx)
      have := (h w List.mem_cons_self).len
      rw [List.map_cons, List.sum_cons, List.length_cons]
      omega
  have := this ws h3
  have : 9 * ws.length ≤ 9 * k := Nat.mul_le_mul_left 9 h
  omega
theorem rowsF_ne {gs : List FT} (h : gs ≠ []) : rowsF gs ≠ [] := by
  cases gs with
  | nil => exact absurd rfl h
  | cons g r => simp [rowsF]
theorem back_iff {cs : Calls} {x : Str} : backB cs x = true ↔ Rch cs x x := by
  unfold backB
  exact @decide_eq_true_iff (Rch cs x x) (Classical.propDecidable _)
theorem find_congr {α : Type} {p q : α → Bool} : ∀ {l : List α}, (∀ x ∈ l, p x = q x) → l.find? p = l.find? q
  | [], _ => rfl
  | x :: r, h => by rw [List.find?_cons, List.find?_cons, h x List.mem_cons_self, find_congr fun y hy => h y (List.mem_cons_of_mem _ hy)]
theorem textR_join {rows : List Row} (h : rows ≠ []) : ((rows.map lineR).map fun x => x.length).sum + (rows.map lineR).length * (Str.ofString "\n").length = (textR rows).length + 1 := by
  rw [textR_len h, show (Str.ofString "\n").length = 1 by decide +kernel, List.map_map, List.length_map, Nat.mul_one]
  clear h
  induction rows with
  | nil => rfl
  | cons r t ih =>
    simp only [List.map_cons, List.sum_cons, List.length_cons, Function.comp] at ih ⊢
    omega
theorem rowsF_snoc (gs : List FT) (g : FT) : rowsF (gs ++ [g]) = rowsF gs ++ (some (0, [Str.ofString "function", g.1]) :: rowsB 1 g.2) := by
  unfold rowsF
  rw [List.map_append, List.flatten_append]
  simp
theorem fun_line (x : Str) : Str.ofString "function " ++ x = lineS 0 ["function", x] := by
  refine cps_inj ?_
  rw [lineS_cps, cps_app]
  show _ = cps (Str.ofString "function") ++ 32 :: cps x
  rw [show cps (Str.ofString "function ") = cps (Str.ofString "function") ++ [32] by decide +kernel]
  simp
theorem ne_strsD {K : PySem.W.Frag} {H : Hp} {a b : Addr} {xs ys : List Str} {Q : VK} (h1 : H a = some (.lst (xs.map V.str))) (h2 : H b = some (.lst (ys.map V.str))) (ax : ∀ z ∈ xs, asc z) (ay : ∀ z ∈ ys, asc z) (q : Q (.bl (!decide (xs = ys))) H) : rNeD K (.ref a) (.ref b) H Q :=
  ⟨_, _, .lst (SqL.of h1) (dp_strs _), .lst (SqL.of h2) (dp_strs _), shaped_strs ax, shaped_strs ay, by
    rw [show PyData.eqv (.list (xs.map PyData.str)) (.list (ys.map PyData.str)) = decide (xs = ys) from eqv_strsL xs ys]
    exact q⟩
theorem bd1_li0 (T : Txt K mg a d) : ∃ ds, Vals [V.int 6000] ds ∧ Binds K d.LibraryU_initU ["self", "text", "longest"] ds :=
  T.LibraryU_initU.binds1 (ps := ["self", "text", "longest"]) 2 0 (by simp) rfl (fun D kV doc pm an cdv ct us its hu hi => match us, hu, its, hi with | [_, _], _, [_], _ => ⟨_, rfl, rfl⟩)
theorem PoolO.tupk {F : Hp} {p : Addr} {o o' : HO} {c : Nat} (h : PoolO o c) (e : F p = some o) : TupK F (upd F p o') := by
  obtain ⟨x, y, z, rfl, _⟩ := h
  exact TupK.set e
theorem call_line {n : Nat} {s x : Str} (h : s = spc (2 * n)) : s ++ (Str.ofString "call " ++ x) = lineS n ["call", x] := by
  refine cps_inj ?_
  rw [lineS_cps, cps_app, cps_app, h, spc_cps]
  show _ = List.replicate (2 * n) 32 ++ (cps (Str.ofString "call") ++ 32 :: cps x)
  rw [show cps (Str.ofString "call ") = cps (Str.ofString "call") ++ [32] by decide +kernel]
  simp
abbrev linesB (n : Nat) (b : List Stm) : List Str := (rowsB n b).map lineR
abbrev strsR (rows : List Row) : List V := (rows.map lineR).map V.str
theorem inV_int (i : Int) (l : List Int) : inV (.int i) (l.map V.int) = decide (i ∈ l) := by
  unfold inV
  rw [List.any_map, Bool.eq_iff_iff, decide_eq_true_eq, List.any_eq_true]
  constructor
  · rintro ⟨y, hy, e⟩
    have e : eqV (.int y) (.int i) = true := e
    have : y = i := by simpa [eqV] using e
    exact this ▸ hy
  · intro h
    exact ⟨i, h, by simp [eqV]⟩
theorem flat_ints {l : List Int} : (l.map V.int).all flatV = true := by
  rw [List.all_map, List.all_eq_true]
  intro x _
  rfl
/-! ### a library stays where other lists change -/
theorem LibAt.kp {a : Ad} {S : Addr → Prop} {G G' : Hp} {L : LA} {z : Str} {lines : List Str} {fs : List Fun} {mk : List Mk} (I : LibAt a G L z lines fs mk) (k : Kp S G G') (h4 : ∀ b, S b → ∃ xs, G b = some (.lst xs)) (h1 : ¬ S L.ll) (h2 : ¬ S L.ml) (h3 : ¬ S L.pl) : LibAt a G' L z lines fs mk := by
  have nl : ∀ {b u}, G b = some u → (∀ xs, u ≠ .lst xs) → G' b = some u := fun {b u} e n => k b u e fun s => by
    obtain ⟨xs, h⟩ := h4 b s
    rw [h] at e
    cases e
    exact n _ rfl
  have tk : TupK G G' := fun b l e => nl e fun xs z => by cases z
  obtain ⟨ms, m1, m2⟩ := I.ml
  obtain ⟨ts, t1, t2⟩ := I.pl
  obtain ⟨ps, b1, b2⟩ := I.bd.ex
  exact ⟨nl I.ob (fun _ z => by cases z), k _ _ I.li h1, nl I.sd (fun _ z => by cases z), ⟨ps, nl b1 (fun _ z => by cases z), b2.imp fun _ _ r => BodyAt.tup tk r⟩, ⟨ms, k _ _ m1 h2, m2.imp fun _ _ r => tk _ _ r⟩, ⟨ts, k _ _ t1 h3, t2.imp fun _ _ r => PairAt.tup tk r⟩, I.ok⟩
structure LibS (S : Addr → Prop) (L : LA) : Prop where
  l : ¬ S L.ll
  m : ¬ S L.ml
  p : ¬ S L.pl
theorem LibAt.kpS {a : Ad} {S : Addr → Prop} {G G' : Hp} {L : LA} {z : Str} {lines : List Str} {fs : List Fun} {mk : List Mk} (I : LibAt a G L z lines fs mk) (k : Kp S G G') (h4 : ∀ b, S b → ∃ xs, G b = some (.lst xs)) (h : LibS S L) : LibAt a G' L z lines fs mk := I.kp k h4 h.l h.m h.p
section
open PySem PySem.Spec PyProof.Rows
variable {X : Cx} {K : PySem.W.Frag}
theorem cr_isiK (hK : X.K = K) : CallR X (.builtin "isinstance") (rIsi K) := hK ▸ call_isi
end
/-! ### bodies that the laws draw: what is in them, and how many -/
structure Wds where
  R : List Str
  E : List Str
  N : List Str
def gH (W : Wds) (C : List Str) : Hd → Prop
  | .sim _ => True
  | .one k w => (k = "write" → w ∈ W.R) ∧ (k = "raise" → w ∈ W.E) ∧ (k = "call" → w ∈ C)
  | .blk _ _ ks => (∀ w ∈ ks, w ∈ W.E) ∧ ks.length ≤ 2
  | .gua _ => True
  | .tr ws _ => ∀ l, some l ∈ ws → (∀ w ∈ l, w ∈ W.E) ∧ l.length ≤ 2
mutual
def gS (W : Wds) (C : List Str) : Stm → Prop
  | .mk h ps => gH W C h ∧ gP W (if isG h = true then C ++ W.N else C) ps
def gP (W : Wds) (C : List Str) : List (List Stm) → Prop
  | [] => True
  | b :: r => gB W C b ∧ gP W C r
def gB (W : Wds) (C : List Str) : List Stm → Prop
  | [] => True
  | s :: r => gS W C s ∧ gB W C r
end
theorem gB_app {W : Wds} {C : List Str} : ∀ {b c : List Stm}, gB W C b → gB W C c → gB W C (b ++ c)
  | [], c, _, h => h
  | s :: r, c, h, h2 => by
    rw [gB] at h
    rw [List.cons_append, gB]
    exact ⟨h.1, gB_app h.2 h2⟩
theorem gP_app {W : Wds} {C : List Str} : ∀ {b c : List (List Stm)}, gP W C b → gP W C c → gP W C (b ++ c)
  | [], c, _, h => h
  | s :: r, c, h, h2 => by
    rw [gP] at h
    rw [List.cons_append, gP]
    exact ⟨h.1, gP_app h.2 h2⟩
/-- what each statement has -/
structure StG (W : Wds) (C : List Str) (s : Stm) : Prop where
  wr : ∀ w, nameOf "write" s = some w → w ∈ W.R
  cl : ∀ w, nameOf "call" s = some w → w ∈ C ∨ w ∈ W.N
  wd : ∀ w ∈ wordsH s.hd, w ∈ W.E
theorem gH_st {W : Wds} {C : List Str} {h : Hd} {ps : List (List Stm)} (g : gH W C h) : StG W C (.mk h ps) := by
  cases h with
  | sim w => exact ⟨fun w h => (nomatch h), fun w h => (nomatch h), fun w h => (nomatch h)⟩
  | one k w =>
    refine ⟨fun x h => ?_, fun x h => ?_, fun x h => ?_⟩
    · rw [nameOf_one] at h
      split at h
      · rename_i e; cases h; exact g.1 e
      · cases h
    · rw [nameOf_one] at h
      split at h
      · rename_i e; cases h; exact .inl (g.2.2 e)
      · cases h
    · have h : x ∈ (if k = "raise" then [w] else []) := h
      split at h
      · rename_i e; rw [List.mem_singleton.mp h]; exact g.2.1 e
      · cases h
  | blk n m ks => exact ⟨fun w h => (nomatch h), fun w h => (nomatch h), fun w h => g.1 w h⟩
  | gua k => exact ⟨fun w h => (nomatch h), fun w h => (nomatch h), fun w h => (nomatch h)⟩
  | tr ws fin =>
    refine ⟨fun w h => (nomatch h), fun w h => (nomatch h), fun w h => ?_⟩
    obtain ⟨l, hl, hw⟩ := List.mem_flatten.mp h
    obtain ⟨o, ho, rfl⟩ := List.mem_map.mp hl
    cases o with
    | none => cases hw
    | some l => exact (g l ho).1 w hw
theorem StG.mono {W : Wds} {C D : List Str} {s : Stm} (h : StG W C s) (hc : ∀ w ∈ C, w ∈ D ∨ w ∈ W.N) : StG W D s := ⟨h.wr, fun w e => (h.cl w e).elim (hc w) .inr, h.wd⟩
mutual
theorem gS_all {W : Wds} : ∀ (s : Stm) (C : List Str), gS W C s → ∀ t ∈ allS s, StG W C t
  | .mk h ps, C, g, t, ht => by
    rw [gS] at g
    rw [allS] at ht
    rcases List.mem_cons.mp ht with rfl | ht
    · exact gH_st g.1
    · refine (gP_all ps _ g.2 t ht).mono fun w hw => ?_
      split at hw
      · exact List.mem_append.mp hw
      · exact .inl hw
theorem gP_all {W : Wds} : ∀ (ps : List (List Stm)) (C : List Str), gP W C ps → ∀ t ∈ allP ps, StG W C t
  | [], C, _, t, ht => by rw [allP] at ht; cases ht
  | b :: r, C, g, t, ht => by
    rw [gP] at g
    rw [allP] at ht
    rcases List.mem_append.mp ht with ht | ht
    · exact gB_all b C g.1 t ht
    · exact gP_all r C g.2 t ht
theorem gB_all {W : Wds} : ∀ (b : List Stm) (C : List Str), gB W C b → ∀ t ∈ allB b, StG W C t
  | [], C, _, t, ht => by rw [allB] at ht; cases ht
  | s :: r, C, g, t, ht => by
    rw [gB] at g
    rw [allB] at ht
    rcases List.mem_append.mp ht with ht | ht
    · exact gS_all s C g.1 t ht
    · exact gB_all r C g.2 t ht
end
mutual
theorem gS_free {W : Wds} {C : List Str} : ∀ (s : Stm), gS W C s → ∀ x ∈ lsS false s, x.2 = false → ∀ w, nameOf "call" x.1 = some w → w ∈ C
  | .mk h ps, g, x, hx, hf, w, hw => by
    rw [gS] at g
    rw [lsS] at hx
    rcases List.mem_cons.mp hx with rfl | hx
    · cases h with
      | one k v =>
        rw [nameOf_one] at hw
        split at hw
        · rename_i e; cases hw; exact g.1.2.2 e
        · cases hw
      | _ => cases hw
    · cases e : isG h with
      | false =>
        rw [e] at hx
        rw [e, if_neg (by simp)] at g
        exact gP_free ps g.2 x hx hf w hw
      | true =>
        rw [e] at hx
        exact absurd hf (by rw [lsP_g ps x hx]; simp)
theorem gP_free {W : Wds} {C : List Str} : ∀ (ps : List (List Stm)), gP W C ps → ∀ x ∈ lsP false ps, x.2 = false → ∀ w, nameOf "call" x.1 = some w → w ∈ C
  | [], _, x, hx, _, _, _ => by rw [lsP] at hx; cases hx
  | b :: r, g, x, hx, hf, w, hw => by
    rw [gP] at g
    rw [lsP] at hx
    rcases List.mem_append.mp hx with hx | hx
    · exact gB_free b g.1 x hx hf w hw
    · exact gP_free r g.2 x hx hf w hw
theorem gB_free {W : Wds} {C : List Str} : ∀ (b : List Stm), gB W C b → ∀ x ∈ lsB false b, x.2 = false → ∀ w, nameOf "call" x.1 = some w → w ∈ C
  | [], _, x, hx, _, _, _ => by rw [lsB] at hx; cases hx
  | s :: r, g, x, hx, hf, w, hw => by
    rw [gB] at g
    rw [lsB] at hx
    rcases List.mem_append.mp hx with hx | hx
    · exact gS_free s g.1 x hx hf w hw
    · exact gB_free r g.2 x hx hf w hw
theorem lsS_g : ∀ (s : Stm), ∀ x ∈ lsS true s, x.2 = true
  | .mk h ps, x, hx => by
    rw [lsS] at hx
    rcases List.mem_cons.mp hx with rfl | hx
    · rfl
    · exact lsP_g ps x hx
theorem lsP_g : ∀ (ps : List (List Stm)), ∀ x ∈ lsP true ps, x.2 = true
  | [], x, hx => by rw [lsP] at hx; cases hx
  | b :: r, x, hx => by
    rw [lsP] at hx
    rcases List.mem_append.mp hx with hx | hx
    · exact lsB_g b x hx
    · exact lsP_g r x hx
theorem lsB_g : ∀ (b : List Stm), ∀ x ∈ lsB true b, x.2 = true
  | [], x, hx => by rw [lsB] at hx; cases hx
  | s :: r, x, hx => by
    rw [lsB] at hx
    rcases List.mem_append.mp hx with hx | hx
    · exact lsS_g s x hx
    · exact lsB_g r x hx
end
/-- no calls of one's own outside of maybe and repeat -/
theorem gB_calls {W : Wds} {C ns : List Str} {b : List Stm} (g : gB W C b) (h : ∀ w ∈ C, w ∉ ns) : callsN ns b = [] := by
  unfold callsN freeB
  rw [List.filterMap_eq_nil_iff]
  intro s hs
  obtain ⟨x, hx, rfl⟩ := List.mem_map.mp hs
  obtain ⟨hx, hf⟩ := List.mem_filter.mp hx
  have hf : x.2 = false := by simpa using hf
  have key := gB_free b g x hx hf
  obtain ⟨⟨hd, ps⟩, gg⟩ := x
  unfold calleeN
  cases hd with
  | one k v =>
    show (if k = "call" ∧ v ∈ ns then some v else none) = none
    rw [if_neg]
    rintro ⟨e, m⟩
    exact h v (key v (by show nameOf "call" (.mk (.one k v) ps) = some v; rw [nameOf_one, if_pos e])) m
  | _ => rfl
def ownN (ns : List Str) (l : List Stm) : Nat := (l.filterMap (calleeN ns)).length
theorem ownN_app (ns : List Str) (l m : List Stm) : ownN ns (l ++ m) = ownN ns l + ownN ns m := by unfold ownN; rw [List.filterMap_append, List.length_append]
theorem ownN_sub {ns : List Str} {l m : List Stm} (h : l.Sublist m) : ownN ns l ≤ ownN ns m := (h.filterMap _).length_le
mutual
theorem subS_l {b : List Stm} {t : Stm} : ∀ {s : Stm}, t ∈ allS s → b ∈ t.ps → (allB b).Sublist (allS s)
  | .mk h ps, ht, hb => by
    rw [allS] at ht ⊢
    rcases List.mem_cons.mp ht with rfl | ht
    · exact (subP1_l (ps := ps) hb).cons _
    · exact (subP_l (ps := ps) ht hb).cons _
theorem subP1_l {b : List Stm} : ∀ {ps : List (List Stm)}, b ∈ ps → (allB b).Sublist (allP ps)
  | c :: r, hb => by
    rw [allP]
    rcases List.mem_cons.mp hb with rfl | hb
    · exact List.sublist_append_left _ _
    · exact (subP1_l hb).trans (List.sublist_append_right _ _)
theorem subP_l {b : List Stm} {t : Stm} : ∀ {ps : List (List Stm)}, t ∈ allP ps → b ∈ t.ps → (allB b).Sublist (allP ps)
  | c :: r, ht, hb => by
    rw [allP] at ht ⊢
    rcases List.mem_append.mp ht with ht | ht
    · exact (subB_l (c := c) ht hb).trans (List.sublist_append_left _ _)
    · exact (subP_l (ps := r) ht hb).trans (List.sublist_append_right _ _)
theorem subB_l {b : List Stm} {t : Stm} : ∀ {c : List Stm}, t ∈ allB c → b ∈ t.ps → (allB b).Sublist (allB c)
  | s :: r, ht, hb => by
    rw [allB] at ht ⊢
    rcases List.mem_append.mp ht with ht | ht
    · exact (subS_l (s := s) ht hb).trans (List.sublist_append_left _ _)
    · exact (subB_l (c := r) ht hb).trans (List.sublist_append_right _ _)
end
/-! how many statements, blocks and lines; a, b is the room ahead, a', b' behind -/
structure GSt (W : Wds) (C : List Str) (n : Nat) (a b a' b' : Int) (s : Stm) : Prop where
  wf : wfS n s
  g : gS W C s
  cn : ((allS s).length : Int) = a - a'
  c6 : (allS s).length + (if 0 < a then 2 else 0) + 6 * a'.toNat ≤ 6 * a.toNat + 1
  nb : nbS s + a'.toNat ≤ a.toNat
  ln : lnS s + 3 * a'.toNat ≤ (allS s).length + 3 * a.toNat
  ow : ownN W.N (allS s) + b'.toNat ≤ b.toNat
  le : b' ≤ b
structure GP_ (W : Wds) (C : List Str) (n : Nat) (t : Nat) (a b a' b' : Int) (c : List Stm) : Prop where
  wf : wfB n c
  g : gB W C c
  ne : t ≠ 0 → c ≠ []
  zr : t = 0 → c = []
  cn : ((allB c).length : Int) = a - a'
  c6 : (allB c).length + (if 0 < a ∧ 0 < t then 2 else 0) + 6 * a'.toNat ≤ 6 * a.toNat + t
  nb : nbB c + a'.toNat ≤ a.toNat
  ln : lnB c + 3 * a'.toNat ≤ (allB c).length + 3 * a.toNat
  ow : ownN W.N (allB c) + b'.toNat ≤ b.toNat
  le : b' ≤ b
structure GBd (W : Wds) (C : List Str) (n : Nat) (a b a' b' : Int) (c : List Stm) : Prop where
  wf : wfB n c
  g : gB W C c
  ne : c ≠ []
  cn : ((allB c).length : Int) = a - a'
  c6 : (allB c).length + 6 * a'.toNat ≤ 6 * a.toNat + 1
  nb : nbB c + a'.toNat ≤ a.toNat
  ln : lnB c + 3 * a'.toNat ≤ (allB c).length + 3 * a.toNat
  ow : ownN W.N (allB c) + b'.toNat ≤ b.toNat
  le : b' ≤ b
/-- the parts of a try behind its body -/
structure GH (W : Wds) (C : List Str) (n : Nat) (a b a' b' : Int) (ps : List (List Stm)) : Prop where
  wf : wfP n ps
  g : gP W C ps
  cn : ((allP ps).length : Int) = a - a'
  c6 : (allP ps).length + 6 * a'.toNat ≤ 6 * a.toNat + ps.length
  nb : nbP ps + a'.toNat ≤ a.toNat
  ln : lnP ps + 3 * a'.toNat ≤ (allP ps).length + ps.length + 3 * a.toNat
  ow : ownN W.N (allP ps) + b'.toNat ≤ b.toNat
  le : b' ≤ b
section
variable {W : Wds} {C : List Str} {n : Nat} {a b a' b' a'' b'' : Int}
theorem lnB_app : ∀ b c : List Stm, lnB (b ++ c) = lnB b + lnB c
  | [], c => by rw [List.nil_append, lnB.eq_1]; omega
  | s :: r, c => by rw [List.cons_append, lnB, lnB, lnB_app r c]; omega
theorem lnP_app : ∀ b c : List (List Stm), lnP (b ++ c) = lnP b + lnP c
  | [], c => by rw [List.nil_append, lnP.eq_1]; omega
  | s :: r, c => by rw [List.cons_append, lnP, lnP, lnP_app r c]; omega
theorem nbP_app : ∀ b c : List (List Stm), nbP (b ++ c) = nbP b + nbP c
  | [], c => by rw [List.nil_append, nbP.eq_1]; omega
  | s :: r, c => by rw [List.cons_append, nbP, nbP, nbP_app r c]; omega
theorem wfP_app {n : Nat} : ∀ {b c : List (List Stm)}, wfP n b → wfP n c → wfP n (b ++ c)
  | [], c, _, h => h
  | s :: r, c, h, h2 => by
    rw [wfP] at h
    rw [List.cons_append, wfP]
    exact ⟨h.1, wfP_app h.2 h2⟩
theorem GP_.nil (W : Wds) (C : List Str) (n : Nat) (a b : Int) : GP_ W C n 0 a b a b [] :=
  ⟨by rw [wfB]; trivial, by rw [gB]; trivial, fun h => absurd rfl h, fun _ => rfl, by rw [allB]; simp, by rw [allB]; simp, by rw [nbB]; omega, by rw [lnB, allB]; simp, by rw [allB]; show 0 + _ ≤ _; omega, Int.le_refl _⟩
theorem GP_.snoc {t : Nat} {c : List Stm} {s : Stm} (P : GP_ W C n t a b a' b' c) (S : GSt W C n a' b' a'' b'' s) : GP_ W C n (t + 1) a b a'' b'' (c ++ [s]) := by
  have e1 : allB [s] = allS s := allB_one s
  have e2 : lnB [s] = lnS s := by rw [lnB, lnB]; omega
  have e3 : nbB [s] = nbS s := by rw [nbB, nbB]; omega
  have h1 := P.cn
  have h2 := P.c6
  have h3 := P.nb
  have h4 := P.ln
  have h5 := P.ow
  have h6 := P.le
  have k1 := S.cn
  have k2 := S.c6
  have k3 := S.nb
  have k4 := S.ln
  have k5 := S.ow
  have k6 := S.le
  refine ⟨wfB_app P.wf (wfB_one S.wf), gB_app P.g (by rw [gB, gB]; exact ⟨S.g, trivial⟩), fun _ => by simp, fun z => by omega, ?_, ?_, ?_, ?_, ?_, by omega⟩
  · rw [allB_app, e1, List.length_append]; omega
  · rw [allB_app, e1, List.length_append]
    by_cases p : 0 < a
    · by_cases q : 0 < t
      · rw [if_pos ⟨p, q⟩] at h2
        rw [if_pos ⟨p, by omega⟩]
        split at k2 <;> omega
      · have : t = 0 := by omega
        subst this
        rw [if_neg (by omega)] at h2
        rw [if_pos ⟨p, by omega⟩]
        have : (allB c).length = 0 := by rw [P.zr rfl, allB]; rfl
        have : a' = a := by omega
        subst this
        rw [if_pos p] at k2
        omega
    · rw [if_neg (fun z => p z.1)] at h2 ⊢
      rw [if_neg (by omega)] at k2
      omega
  · rw [nbB_app, e3]; omega
  · rw [lnB_app, allB_app, e1, e2, List.length_append]; omega
  · rw [allB_app, e1, ownN_app]; omega
theorem GP_.done {t : Nat} {c : List Stm} (P : GP_ W C n t a b a' b' c) (h1 : 1 ≤ t) (h3 : t ≤ if 0 < a then 3 else 1) : GBd W C n a b a' b' c := by
  refine ⟨P.wf, P.g, P.ne (by omega), P.cn, ?_, P.nb, P.ln, P.ow, P.le⟩
  have h2 := P.c6
  by_cases p : 0 < a
  · rw [if_pos ⟨p, by omega⟩] at h2
    rw [if_pos p] at h3
    omega
  · rw [if_neg (fun z => p z.1)] at h2
    rw [if_neg p] at h3
    omega
theorem GH.nil (W : Wds) (C : List Str) (n : Nat) (a b : Int) : GH W C n a b a b [] :=
  ⟨by rw [wfP]; trivial, by rw [gP]; trivial, by rw [allP]; simp, by rw [allP]; simp, by rw [nbP]; omega, by rw [lnP, allP]; simp, by rw [allP]; show 0 + _ ≤ _; omega, Int.le_refl _⟩
theorem GH.snoc {ps : List (List Stm)} {c : List Stm} (P : GH W C n a b a' b' ps) (B : GBd W C n a' b' a'' b'' c) : GH W C n a b a'' b'' (ps ++ [c]) := by
  have e1 : allP [c] = allB c := allP_one c
  have e2 : lnP [c] = 1 + lnB c := by rw [lnP, lnP]; omega
  have e3 : nbP [c] = nbB c := by rw [nbP, nbP]; omega
  have h1 := P.cn
  have h2 := P.c6
  have h3 := P.nb
  have h4 := P.ln
  have h5 := P.ow
  have h6 := P.le
  have k1 := B.cn
  have k2 := B.c6
  have k3 := B.nb
  have k4 := B.ln
  have k5 := B.ow
  have k6 := B.le
  refine ⟨wfP_app P.wf (by rw [wfP, wfP]; exact ⟨⟨B.ne, B.wf⟩, trivial⟩), gP_app P.g (by rw [gP, gP]; exact ⟨B.g, trivial⟩), ?_, ?_, ?_, ?_, ?_, by omega⟩
  · rw [allP_app, e1, List.length_append]; omega
  · rw [allP_app, e1, List.length_append, List.length_append]; simp only [List.length_cons, List.length_nil]; omega
  · rw [nbP_app, e3]; omega
  · rw [lnP_app, allP_app, e1, e2, List.length_append, List.length_append]; simp only [List.length_cons, List.length_nil]; omega
  · rw [allP_app, e1, ownN_app]; omega
theorem callee_no {ns : List Str} {h : Hd} {ps : List (List Stm)} (hk : kdS h ≠ "call") : calleeN ns (.mk h ps) = none := by
  cases h with
  | one k w => exact if_neg fun z => hk z.1
  | _ => rfl
/-- a leaf -/
theorem GSt.leaf {h : Hd} (w : HdW n 0 h) (g : gH W C h) (k : (if (calleeN W.N (.mk h [])).isSome = true then 1 else 0) + b'.toNat ≤ b.toNat) (l : b' ≤ b) : GSt W C n a b (a - 1) b' (.mk h []) := by
  have e : allS (.mk h []) = [.mk h []] := by rw [allS, allP]
  have nb0 : isBk h = 0 := by
    cases h with
    | blk => exact absurd w.2.2.1 (by decide)
    | _ => rfl
  refine ⟨wfS_leaf w, by rw [gS, gP]; exact ⟨g, trivial⟩, by rw [e]; simp only [List.length_cons, List.length_nil]; omega, ?_, by rw [nbS, nbP, nb0]; omega, ?_, ?_, l⟩
  · rw [e]; simp only [List.length_cons, List.length_nil]; split <;> omega
  · rw [e, lnS, lnP]; simp only [List.length_cons, List.length_nil]; omega
  · rw [e]
    unfold ownN
    rw [List.filterMap_cons]
    cases q : calleeN W.N (.mk h []) with
    | none => rw [q] at k; simpa using k
    | some x => rw [q] at k; simpa using k
/-- a statement with parts -/
theorem GSt.mk_ {h : Hd} {ps : List (List Stm)} (w : HdW n ps.length h) (g : gH W C h) (hk : kdS h ≠ "call") (np : ps ≠ []) (n4 : ps.length ≤ 4) (pa : 0 < a) (P : GH W (if isG h = true then C ++ W.N else C) (n + 1) (a - 1) b a' b' ps) : GSt W C n a b a' b' (.mk h ps) := by
  have h1 := P.cn
  have h2 := P.c6
  have h3 := P.nb
  have h4 := P.ln
  have h5 := P.ow
  have e : allS (.mk h ps) = .mk h ps :: allP ps := by rw [allS]
  have i1 : isBk h ≤ 1 := by cases h <;> simp [isBk]
  have lp : 1 ≤ ps.length := by cases ps with | nil => exact absurd rfl np | cons => simp
  refine ⟨by rw [wfS]; exact ⟨w, P.wf⟩, by rw [gS]; exact ⟨g, P.g⟩, by rw [e, List.length_cons]; omega, ?_, by rw [nbS]; omega, ?_, ?_, P.le⟩
  · rw [e, List.length_cons, if_pos pa]; omega
  · rw [e, lnS, List.length_cons]; omega
  · rw [e]
    unfold ownN at *
    rw [List.filterMap_cons, callee_no hk]
    exact h5
end
/-! ### a drawn library is within all bounds -/
theorem mode7 {m : Str} (h : modeS m = true) : m.length ≤ 7 := by
  have h := of_decide_eq_true h
  simp only [List.mem_cons, List.not_mem_nil, or_false] at h
  rcases h with rfl | rfl | rfl | rfl | rfl | rfl | rfl | rfl <;> decide +kernel
theorem line52 {n : Nat} {ws : List Str} (hn : n ≤ 8) (ne : ws ≠ []) (h : (ws.map fun w => w.length + 1).sum ≤ 37) : (lineS n ws).length ≤ 52 := by
  have := line_len (n := n) ne
  omega
theorem sumE {l : List Str} {k : Nat} (h : ∀ w ∈ l, IsWord w) (hk : l.length ≤ k) : (l.map fun w => w.length + 1).sum ≤ 9 * k := by
  have : ∀ l : List Str, (∀ w ∈ l, IsWord w) → (l.map fun w => w.length + 1).sum ≤ 9 * l.length := by
    intro l
    induction l with
    | nil => intro _; simp
    | cons w r ih =>
      intro h
      have := ih fun x hx => h x (List.mem_cons_of_mem _ hx)
      have := (h w List.mem_cons_self).len
      rw [List.map_cons, List.sum_cons, List.length_cons]
      omega
  have := this l h
  omega
theorem sum2 (a b : Str) (l : List Str) : ((a :: b :: l).map fun w => w.length + 1).sum = a.length + 1 + (b.length + 1) + (l.map fun w => w.length + 1).sum := by
  simp only [List.map_cons, List.sum_cons]; omega
theorem sum1 (a : Str) (l : List Str) : ((a :: l).map fun w => w.length + 1).sum = a.length + 1 + (l.map fun w => w.length + 1).sum := by
  simp only [List.map_cons, List.sum_cons]
theorem hdrs52 {W : Wds} {C : List Str} {n k : Nat} (hn : n ≤ 8) : ∀ {h : Hd}, HdW n k h → gH W C h → ∀ x ∈ hdrs h, (lineS n x).length ≤ 52
  | .sim w, h, g, x, hx => by
    rw [List.mem_singleton.mp hx]
    have := (two_word h.1).len
    exact line52 hn (by simp) (by rw [sum1]; simp; omega)
  | .one q w, h, g, x, hx => by
    rw [List.mem_singleton.mp hx]
    have := (three_word h.1).len
    have := h.2.1.len
    exact line52 hn (by simp) (by rw [sum2]; simp; omega)
  | .blk _ m ks, h, g, x, hx => by
    rw [List.mem_singleton.mp hx]
    have := mode7 h.1
    refine line52 hn (by simp) ?_
    rw [sum2, show (Str.ofString "block").length = 5 by decide +kernel]
    split
    · simp; omega
    · rw [sum1, show (Str.ofString "keep").length = 4 by decide +kernel]
      have := sumE h.2.1 g.2
      omega
  | .gua q, h, g, x, hx => by
    rw [List.mem_singleton.mp hx]
    have := (gua_word h.1).len
    exact line52 hn (by simp) (by rw [sum1]; simp; omega)
  | .tr ws fin, h, g, x, hx => by
    rcases List.mem_cons.mp hx with rfl | hx
    · exact line52 hn (by simp) (by rw [sum1]; decide +kernel)
    rcases List.mem_append.mp hx with hx | hx
    · obtain ⟨o, ho, rfl⟩ := List.mem_map.mp hx
      refine line52 hn (by simp) ?_
      rw [sum1, show (Str.ofString "except").length = 6 by decide +kernel]
      cases o with
      | none => simp
      | some l =>
        have := sumE (h.1.wd l ho).2 (g l ho).2
        show 6 + 1 + (l.map fun w => w.length + 1).sum ≤ 37
        omega
    · split at hx
      · rw [List.mem_singleton.mp hx]
        exact line52 hn (by simp) (by rw [sum1]; decide +kernel)
      · cases hx
mutual
theorem rowsS52 {W : Wds} : ∀ (s : Stm) (C : List Str) (n : Nat), n ≤ 8 → wfS n s → gS W C s → ∀ r ∈ rowsS n s, (lineR r).length ≤ 52
  | .mk h ps, C, n, hn, hw, hg, r, hr => by
    rw [wfS] at hw
    rw [gS] at hg
    rw [rowsS] at hr
    exact rowsP52 ps _ n (hdrs h) hn (fun c => hw.1.deep (by simpa using c)) (hdrs52 hn hw.1 hg.1) hw.2 hg.2 r hr
theorem rowsP52 {W : Wds} : ∀ (ps : List (List Stm)) (C : List Str) (n : Nat) (hs : List (List Str)), n ≤ 8 → (ps ≠ [] → n < 8) → (∀ x ∈ hs, (lineS n x).length ≤ 52) → wfP (n + 1) ps → gP W C ps → ∀ r ∈ rowsP n hs ps, (lineR r).length ≤ 52
  | [], C, n, hs, hn, _, hh, _, _, r, hr => by
    rw [rowsP] at hr
    obtain ⟨x, hx, rfl⟩ := List.mem_map.mp hr
    exact hh x hx
  | b :: ps, C, n, hs, hn, hd, hh, hw, hg, r, hr => by
    rw [wfP] at hw
    rw [gP] at hg
    rw [rowsP] at hr
    have lt := hd (by simp)
    rcases List.mem_append.mp hr with hr | hr
    · cases hs with
      | nil => cases hr
      | cons x t =>
        rw [List.mem_singleton.mp hr]
        exact hh x List.mem_cons_self
    rcases List.mem_append.mp hr with hr | hr
    · exact rowsB52 b C (n + 1) (by omega) hw.1.2 hg.1 r hr
    · exact rowsP52 ps C n hs.tail hn (fun _ => lt) (fun x hx => hh x (List.mem_of_mem_tail hx)) hw.2 hg.2 r hr
theorem rowsB52 {W : Wds} : ∀ (b : List Stm) (C : List Str) (n : Nat), n ≤ 8 → wfB n b → gB W C b → ∀ r ∈ rowsB n b, (lineR r).length ≤ 52
  | [], C, n, _, _, _, r, hr => by rw [rowsB] at hr; cases hr
  | s :: t, C, n, hn, hw, hg, r, hr => by
    rw [wfB] at hw
    rw [gB] at hg
    rw [rowsB] at hr
    rcases List.mem_append.mp hr with hr | hr
    · exact rowsS52 s C n hn hw.1 hg.1 r hr
    · exact rowsB52 t C n hn hw.2 hg.2 r hr
end
theorem freeB_sub (b : List Stm) : (freeB b).Sublist (allB b) := by
  unfold freeB
  rw [← lsB_fst false]
  exact List.Sublist.map _ (List.filter_sublist (l := lsB false b))
theorem allT_sub {gs : List FT} {g : FT} (h : g ∈ gs) : (allB g.2).Sublist (allT gs) := by
  unfold allT
  exact List.sublist_flatten_of_mem (List.mem_map_of_mem (f := fun g : FT => allB g.2) h)
/-! ### k25: joined libraries (plain) -/
structure FineG (gs : List FT) (r : Str → Nat) : Prop where
  ok : ∀ g ∈ gs, FTOk g
  nd : (gs.map (·.1)).Nodup
  ne : gs ≠ []
  c1 : gs.length ≤ 12
  c2 : (allT gs).length ≤ 80
  c3 : (setT (recT gs)).length ≤ 6
  c4 : (setT (errT gs)).length ≤ 11
  c5 : (gs.map fun g => nbB g.2).sum ≤ 16
  c6 : (setT (unkT gs)).length ≤ 4
  a19 : ∀ g ∈ gs, (allB g.2).length ≤ 19
  ow : ∀ g ∈ gs, ownN (gs.map (·.1)) (allB g.2) ≤ 4
  cl : ∀ g ∈ gs, callsN (gs.map (·.1)) g.2 = [] ∨ ∃ y, callsN (gs.map (·.1)) g.2 = [y] ∧ (freeB g.2).length ≤ 2 ∧ r y < r g.1
  rk : ∀ x, r x ≤ 12
  lr : (rowsF gs).length ≤ 110
  l52 : ∀ r ∈ rowsF gs, (lineR r).length ≤ 52
section
variable {gs : List FT} {r : Str → Nat}
theorem FineG.bound (G : FineG gs r) : boundV (funsF 0 0 gs) (mksF 0 gs) = none := by
  unfold boundV
  rw [find_none' (fun c hc => ?_)]
  · rfl
  · unfold countsF at hc
    rw [recN_T, errN_T, unkN_T, pairsF_T, funsF_len] at hc
    simp only [List.mem_cons, List.not_mem_nil, or_false] at hc
    have c7 : (mksF 0 gs).length ≤ 16 := by rw [mksF_len]; exact G.c5
    have := G.c1; have := G.c2; have := G.c3; have := G.c4; have := G.c6
    rcases hc with rfl | rfl | rfl | rfl | rfl | rfl <;> refine decide_eq_false ?_
    · show ¬ 12 < gs.length; omega
    · show ¬ 80 < (allT gs).length; omega
    · show ¬ 6 < (setT (recT gs)).length; omega
    · show ¬ 11 < (setT (errT gs)).length; omega
    · show ¬ 16 < (mksF 0 gs).length; omega
    · show ¬ 4 < (setT (unkT gs)).length; omega
theorem FineG.body (G : FineG gs r) (x : Str) : (callsN (gs.map (·.1)) (bodyT gs x) = [] ∨ ∃ y, callsN (gs.map (·.1)) (bodyT gs x) = [y] ∧ (freeB (bodyT gs x)).length ≤ 2 ∧ r y < r x) ∧ (freeB (bodyT gs x)).length ≤ 19 := by
  unfold bodyT
  cases e : gs.find? (fun g => decide (g.1 = x)) with
  | none =>
    have e1 : callsN (gs.map (·.1)) (((none : Option FT).map (·.2)).getD []) = [] := by simp [callsN, freeB, lsB]
    exact ⟨.inl e1, by simp [freeB, lsB]⟩
  | some g =>
    have hg := List.mem_of_find?_eq_some e
    have hx : g.1 = x := by have := List.find?_some e; simpa using this
    refine ⟨?_, Nat.le_trans (freeB_sub g.2).length_le (G.a19 g hg)⟩
    rcases G.cl g hg with h | ⟨y, h1, h2, h3⟩
    · exact .inl h
    · exact .inr ⟨y, h1, h2, hx ▸ h3⟩
theorem FineG.calls (G : FineG gs r) (x : Str) : (callsB (funsF 0 0 gs) (bodyOf (funsF 0 0 gs) x) = [] ∨ ∃ y, callsB (funsF 0 0 gs) (bodyOf (funsF 0 0 gs) x) = [y] ∧ (freeB (bodyOf (funsF 0 0 gs) x)).length ≤ 2 ∧ r y < r x) ∧ (freeB (bodyOf (funsF 0 0 gs) x)).length ≤ 19 := by
  obtain ⟨c, e⟩ := bodyOf_T gs 0 0 x
  rw [e, callsB_num, callsB_T, (freeB_num _ c).len]
  exact G.body x
theorem FineG.wt (G : FineG gs r) : ∀ (n : Nat) (x : Str), wtF (funsF 0 0 gs) n x ≤ 19 + 2 * r x
  | 0, x => by rw [wtF]; omega
  | n + 1, x => by
    rw [wtF_succ]
    obtain ⟨h, hf⟩ := G.calls x
    rcases h with h | ⟨y, h1, h2, h3⟩
    · have := wtB_le (fs := funsF 0 0 gs) (n := n) (M := 0) (b := bodyOf (funsF 0 0 gs) x) fun y hy => by rw [h] at hy; cases hy
      rw [h, List.length_nil] at this
      omega
    · have := wtB_le (fs := funsF 0 0 gs) (n := n) (M := 19 + 2 * r y) (b := bodyOf (funsF 0 0 gs) x) fun z hz => by
        rw [h1] at hz
        rw [List.mem_singleton.mp hz]
        exact G.wt n y
      rw [h1, List.length_singleton] at this
      omega
theorem FineG.rch (G : FineG gs r) {x y : Str} (h : Rch (callsF (funsF 0 0 gs)) x y) : r y < r x := by
  have one : ∀ {x y : Str}, y ∈ callOf (callsF (funsF 0 0 gs)) x → r y < r x := fun {x y} hy => by
    rw [callOf_eq] at hy
    rcases (G.calls x).1 with h | ⟨z, h1, _, h3⟩
    · rw [h] at hy; cases hy
    · rw [h1] at hy
      rw [List.mem_singleton.mp hy]; exact h3
  induction h with
  | one h => exact one h
  | more _ h ih => exact Nat.lt_trans (one h) ih
theorem FineG.fine (G : FineG gs r) : endR (funsF 0 0 gs) = .fine := by
  have wt : ∀ x, wtF (funsF 0 0 gs) 13 x ≤ 43 := fun x => by
    have h1 := G.wt 13 x
    have h2 := G.rk x
    omega
  unfold endR
  rw [find_none' fun x _ => by
    cases e : backB (callsF (funsF 0 0 gs)) x with
    | false => rfl
    | true => exact absurd (G.rch (back_iff.mp e)) (Nat.lt_irrefl _)]
  simp only
  rw [if_neg]
  rintro (z | z)
  · obtain ⟨x, _, h⟩ := List.any_eq_true.mp z
    have := wt x
    have := of_decide_eq_true h
    omega
  · obtain ⟨x, hx, h⟩ := List.any_eq_true.mp z
    obtain ⟨i, hi, rfl⟩ := List.getElem_of_mem hx
    obtain ⟨y, hy, hR⟩ := (allF_num gs 0 0).at (List.getElem?_eq_getElem hi)
    rw [heavyS_num _ hR] at h
    have ym := List.mem_of_getElem? hy
    unfold heavyS at h
    cases ep : y.ps with
    | nil => rw [ep] at h; simp at h
    | cons b t =>
      rw [ep] at h
      simp only [Bool.and_eq_true, decide_eq_true_eq] at h
      obtain ⟨l, hl, hs⟩ := List.mem_flatten.mp ym
      obtain ⟨g, hg, rfl⟩ := List.mem_map.mp hl
      have sub : (allB b).Sublist (allB g.2) := subB_l hs (by rw [ep]; exact List.mem_cons_self)
      have := wtB_le (fs := funsF 0 0 gs) (n := 13) (M := 43) (b := b) fun z _ => wt z
      rw [callsB_T] at this
      have k1 := ((freeB_sub b).trans sub).length_le
      have k2 : (callsN (gs.map (·.1)) b).length ≤ 4 := Nat.le_trans (ownN_sub (ns := gs.map (·.1)) ((freeB_sub b).trans sub)) (G.ow g hg)
      have := G.a19 g hg
      omega
theorem FineG.lib (G : FineG gs r) : ∃ k, rdAll (rowsOf (textR (rowsF gs))) k 0 [] [] = some (.ok (funsF 0 0 gs) (rowsF gs).length (mksF 0 gs)) ∧ TextOk (textR (rowsF gs)) ∧ (textR (rowsF gs)).length ≤ 5900 ∧
      libR (textR (rowsF gs)) 6000 (.ok (funsF 0 0 gs) (rowsF gs).length (mksF 0 gs)) = .ok (funsF 0 0 gs) (mksF 0 gs) := by
  have good := rowsF_good G.ok
  have le : (textR (rowsF gs)).length ≤ 5900 := by
    have h1 := textR_le (L := 52) (rowsF_ne G.ne) G.l52
    have h2 := Nat.mul_le_mul_right 53 G.lr
    omega
  obtain ⟨k, h⟩ := readF (rowsF gs) gs 0 [] [] G.ok rfl G.nd (fun g _ => by simp) (Nat.zero_le _)
  refine ⟨k, ?_, textR_ok (rowsF_ne G.ne) good (by omega), le, ?_⟩
  · rw [textR_rows (rowsF_ne G.ne) good]
    exact h k (Nat.le_refl _)
  · unfold libR
    rw [if_neg (by omega)]
    show (match boundV (funsF 0 0 gs) (mksF 0 gs) with | some w => LibR.many w | none => match endR (funsF 0 0 gs) with | .fine => LibR.ok _ _ | .loop x => LibR.loop x | .heavy => LibR.many "weight") = _
    rw [G.bound, G.fine]
end
/-! ### k26: libraries as plain things, within the bounds or not -/
theorem rowsF_app (a b : List FT) : rowsF (a ++ b) = rowsF a ++ rowsF b := by
  unfold rowsF
  rw [List.map_append, List.flatten_append]
theorem allT_app (a b : List FT) : allT (a ++ b) = allT a ++ allT b := by
  unfold allT
  rw [List.map_append, List.flatten_append]
structure ReadG (gs : List FT) : Prop where
  ok : ∀ g ∈ gs, FTOk g
  nd : (gs.map (·.1)).Nodup
  ne : gs ≠ []
  lr : (rowsF gs).length ≤ 110
  l52 : ∀ r ∈ rowsF gs, (lineR r).length ≤ 52
theorem FineG.rd {gs : List FT} {r : Str → Nat} (h : FineG gs r) : ReadG gs := ⟨h.ok, h.nd, h.ne, h.lr, h.l52⟩
noncomputable def libG (gs : List FT) : LibR := match boundV (funsF 0 0 gs) (mksF 0 gs) with
  | some w => .many w
  | none => match endR (funsF 0 0 gs) with
    | .fine => .ok (funsF 0 0 gs) (mksF 0 gs)
    | .loop x => .loop x
    | .heavy => .many "weight"
theorem FineG.libG {gs : List FT} {r : Str → Nat} (h : FineG gs r) : libG gs = .ok (funsF 0 0 gs) (mksF 0 gs) := by
  unfold Ic.libG
  rw [h.bound, h.fine]
theorem ReadG.lib {gs : List FT} (G : ReadG gs) : ∃ k, rdAll (rowsOf (textR (rowsF gs))) k 0 [] [] = some (.ok (funsF 0 0 gs) (rowsF gs).length (mksF 0 gs)) ∧ TextOk (textR (rowsF gs)) ∧ (textR (rowsF gs)).length ≤ 5900 ∧
      libR (textR (rowsF gs)) 6000 (.ok (funsF 0 0 gs) (rowsF gs).length (mksF 0 gs)) = libG gs := by
  have good := rowsF_good G.ok
  have le : (textR (rowsF gs)).length ≤ 5900 := by
    have h1 := textR_le (L := 52) (rowsF_ne G.ne) G.l52
    have h2 := Nat.mul_le_mul_right 53 G.lr
    omega
  obtain ⟨k, h⟩ := readF (rowsF gs) gs 0 [] [] G.ok rfl G.nd (fun g _ => by simp) (Nat.zero_le _)
  refine ⟨k, ?_, textR_ok (rowsF_ne G.ne) good (by omega), le, ?_⟩
  · rw [textR_rows (rowsF_ne G.ne) good]
    exact h k (Nat.le_refl _)
  · unfold libR
    rw [if_neg (by omega)]
    rfl
/-- the counts, told of the trees -/
def cntT (gs : List FT) : List (Str × Nat × Nat) :=
  [("functions", 12, gs.length), ("statements", 80, (allT gs).length), ("records", 6, (setT (recT gs)).length), ("errors", 11, (setT (errT gs)).length), ("blocks", 16, (gs.map fun g => nbB g.2).sum), ("unknown", 4, (setT (unkT gs)).length)]
theorem boundV_T (gs : List FT) : boundV (funsF 0 0 gs) (mksF 0 gs) = ((cntT gs).find? fun c => decide (c.2.1 < c.2.2)).map (·.1) := by
  unfold boundV countsF cntT
  rw [recN_T, errN_T, unkN_T, pairsF_T, funsF_len, mksF_len]
/-- no own function is called: the weights are small -/
theorem fine0 {gs : List FT} (h : ∀ x, callsN (gs.map (·.1)) (bodyT gs x) = []) (l : (allT gs).length ≤ 400) (hg : ∀ s ∈ allT gs, isG s.hd = false) : endR (funsF 0 0 gs) = .fine := by
  have cb : ∀ x, callsB (funsF 0 0 gs) (bodyOf (funsF 0 0 gs) x) = [] ∧ (freeB (bodyOf (funsF 0 0 gs) x)).length ≤ 400 := fun x => by
    obtain ⟨c, e⟩ := bodyOf_T gs 0 0 x
    rw [e, callsB_num, callsB_T, (freeB_num _ c).len]
    refine ⟨h x, ?_⟩
    unfold bodyT
    cases e : gs.find? (fun g => decide (g.1 = x)) with
    | none => show (freeB []).length ≤ 400; simp [freeB, lsB]
    | some g =>
      have hg := List.mem_of_find?_eq_some e
      exact Nat.le_trans ((freeB_sub g.2).trans (allT_sub hg)).length_le l
  have wt : ∀ n x, wtF (funsF 0 0 gs) n x ≤ 400 := fun n x => by
    cases n with
    | zero => rw [wtF]; omega
    | succ n =>
      rw [wtF_succ]
      obtain ⟨h1, h2⟩ := cb x
      have := wtB_le (fs := funsF 0 0 gs) (n := n) (M := 0) (b := bodyOf (funsF 0 0 gs) x) fun y hy => by rw [h1] at hy; cases hy
      rw [h1, List.length_nil] at this
      omega
  have no : ∀ x y, ¬ Rch (callsF (funsF 0 0 gs)) x y := fun x y r => by
    have one : ∀ {x y : Str}, y ∈ callOf (callsF (funsF 0 0 gs)) x → False := fun {x y} hy => by
      rw [callOf_eq, (cb x).1] at hy
      cases hy
    induction r with
    | one h => exact one h
    | more _ h ih => exact one h
  unfold endR
  rw [find_none' fun x _ => by
    cases e : backB (callsF (funsF 0 0 gs)) x with
    | false => rfl
    | true => exact absurd (back_iff.mp e) (no x x)]
  simp only
  rw [if_neg]
  rintro (z | z)
  · obtain ⟨x, _, h⟩ := List.any_eq_true.mp z
    have := wt 13 x
    have := of_decide_eq_true h
    omega
  · obtain ⟨x, hx, h⟩ := List.any_eq_true.mp z
    obtain ⟨i, hi, rfl⟩ := List.getElem_of_mem hx
    obtain ⟨y, hy, hR⟩ := (allF_num gs 0 0).at (List.getElem?_eq_getElem hi)
    rw [heavyS_num _ hR] at h
    unfold heavyS at h
    rw [hg y (List.mem_of_getElem? hy)] at h
    simp at h
/-- the first that comes back to itself -/
theorem loopG {gs : List FT} {x : Str} (h : ((gs.map (·.1)).find? fun y => backB (callsT gs) y) = some x) : endR (funsF 0 0 gs) = .loop x := by
  unfold endR
  rw [funsF_names, callsF_T]
  rw [show (gs.map (·.1)).find? (backB (callsT gs)) = some x from h]
theorem callsN_leaf {ns : List Str} {h : Hd} (c : ∀ w, nameOf "call" (.mk h []) = some w → w ∉ ns) (b : List Stm) : callsN ns (.mk h [] :: b) = callsN ns b := by
  have e : freeB (.mk h [] :: b) = .mk h [] :: freeB b := by
    unfold freeB
    rw [lsB, lsS, lsP]; rfl
  unfold callsN
  rw [e, List.filterMap_cons]
  have : calleeN ns (.mk h []) = none := by
    cases h with
    | one k w =>
      show (if k = "call" ∧ w ∈ ns then some w else none) = none
      rw [if_neg]
      rintro ⟨e, m⟩
      exact c w (by rw [nameOf_one, if_pos e]) m
    | _ => rfl
  rw [this]
/-! ### k26: Library.joined (turned from k25join) -/
def dupF (ns : List Str) : Option Str := (sortT ns).find? fun w => decide (1 < ns.countP fun z => z == w)
def namesJ (gss : List (List FT)) : List Str := (gss.map fun gs => sortT (gs.map (·.1))).flatten
def LibsAt (a : Ad) (H : Hp) (Ls : List LA) (gss : List (List FT)) : Prop := A2 (fun L gs => LibAt a H L (textR (rowsF gs)) ((rowsF gs).map lineR) (funsF 0 0 gs) (mksF 0 gs)) Ls gss
theorem LibsAt.same {a : Ad} {H H' : Hp} {Ls : List LA} {gss : List (List FT)} (s : Same H H') (h : LibsAt a H Ls gss) : LibsAt a H' Ls gss := h.imp fun _ _ r => r.same s
def outJ (a : Ad) (z : Str) (H : Hp) (Q : VK) (E : XK) : LibR → Prop
  | .bad l => ∀ H', Same H H' → errQ a.BadLibrary ef_BadLibrary [.int (l : Int)] H' E
  | .ok fs mk => ∀ H' L, LibAt a H' L z (linesOf z) fs mk → H L.ll = none ∧ H L.ml = none ∧ H L.pl = none → Same H H' → Q (.ref L.x) H'
  | .many w => ∀ H', Same H H' → errQ a.TooMany ef_TooMany [.str w] H' E
  | .loop w => ∀ H', Same H H' → errQ a.Endless ef_Endless [.str w] H' E
def spJoin (a : Ad) : Sp := fun vs H Q E => ∃ (_ : Unit) (Ls : List LA) (gss : List (List FT)), vs = Ls.map (fun L => V.ref L.x) ∧ LibsAt a H Ls gss ∧ Ls.length ≤ 4 ∧ (∀ gs ∈ gss, gs.length ≤ 12 ∧ (textR (rowsF gs)).length ≤ 6000) ∧
  match dupF (namesJ gss) with
  | some w => ∀ H', Same H H' → errQ a.Clash ef_Clash [.str w] H' E
  | none => ∃ (k : Nat) (r : Rs (List Fun)), (Str.join "\n" (gss.map fun gs => textR (rowsF gs))).length ≤ 6000 ∧ TextOk (Str.join "\n" (gss.map fun gs => textR (rowsF gs))) ∧ rdAll (rowsOf (Str.join "\n" (gss.map fun gs => textR (rowsF gs)))) k 0 [] [] = some r ∧ outJ a (Str.join "\n" (gss.map fun gs => textR (rowsF gs))) H Q E (libR (Str.join "\n" (gss.map fun gs => textR (rowsF gs))) 6000 r)
def spJoinB (a : Ad) : Sp := fun vs H Q E => ∃ (_ : Unit) (p : Addr) (Ls : List LA) (gss : List (List FT)), vs = [.ref p] ∧ H p = some (.tup (Ls.map (fun L => V.ref L.x))) ∧ LibsAt a H Ls gss ∧ Ls.length ≤ 4 ∧ (∀ gs ∈ gss, gs.length ≤ 12 ∧ (textR (rowsF gs)).length ≤ 6000) ∧
  match dupF (namesJ gss) with
  | some w => ∀ H', Same H H' → errQ a.Clash ef_Clash [.str w] H' E
  | none => ∃ (k : Nat) (r : Rs (List Fun)), (Str.join "\n" (gss.map fun gs => textR (rowsF gs))).length ≤ 6000 ∧ TextOk (Str.join "\n" (gss.map fun gs => textR (rowsF gs))) ∧ rdAll (rowsOf (Str.join "\n" (gss.map fun gs => textR (rowsF gs)))) k 0 [] [] = some r ∧ outJ a (Str.join "\n" (gss.map fun gs => textR (rowsF gs))) H Q E (libR (Str.join "\n" (gss.map fun gs => textR (rowsF gs))) 6000 r)
theorem namesJ_take {gss : List (List FT)} {i : Nat} {gs : List FT} (h : gss[i]? = some gs) : namesJ (gss.take (i + 1)) = namesJ (gss.take i) ++ sortT (gs.map (·.1)) := by
  unfold namesJ
  rw [List.take_add_one, h, List.map_append, List.flatten_append]; simp
theorem namesJ_len : ∀ {gss : List (List FT)}, (∀ gs ∈ gss, gs.length ≤ 12) → (namesJ gss).length ≤ 12 * gss.length
  | [], _ => Nat.zero_le _
  | gs :: t, h => by
    have ih := namesJ_len fun x hx => h x (List.mem_cons_of_mem _ hx)
    have h0 := h gs List.mem_cons_self
    have e : namesJ (gs :: t) = sortT (gs.map (·.1)) ++ namesJ t := rfl
    rw [e, List.length_append, sortT_len, List.length_map, List.length_cons]
    omega
theorem sum_len {N : Nat} : ∀ {l : List Str}, (∀ z ∈ l, z.length ≤ N) → (l.map fun x => x.length).sum ≤ l.length * N
  | [], _ => Nat.zero_le _
  | z :: t, h => by
    have ih := sum_len fun x hx => h x (List.mem_cons_of_mem _ hx)
    have h0 := h z List.mem_cons_self
    rw [List.map_cons, List.sum_cons, List.length_cons, Nat.succ_mul]
    omega
theorem outJ_new {a : Ad} {z : Str} {H H1 : Hp} {Q : VK} {E : XK} {r : LibR} (s : Same H H1) (h : outJ a z H Q E r) : outJ a z H1 Q E r := by
  cases r with
  | bad l => exact fun H' s' => h H' (s.trans s')
  | many w => exact fun H' s' => h H' (s.trans s')
  | loop w => exact fun H' s' => h H' (s.trans s')
  | ok fs mk => exact fun H' L I ⟨n1, n2, n3⟩ s' => h H' L I ⟨s.free n1, s.free n2, s.free n3⟩ (s.trans s')
theorem ok_Library_joined (T : Txt K mg a d) : FnR P w K mg base (L2.CX P w) 53 a.Library_joined (spJoin a) := by
  have G_Library_functions : FnOk P w K mg base CX0 1 a.Library_functions d.Library_functions ["self"] (spLs a fun fs _ => sortT (namesF fs)) := ok_Library_functions T
  have G_LibraryU_initU : FnOk P w K mg base (L2.CX P w) 51 a.LibraryU_initU d.LibraryU_initU ["self", "text", "longest"] (spLibI a) := ok_LibraryU_initU T
  obtain ⟨oc, od, kV, doc, pm, an, cdv, ct, osl, e, lk, hcd⟩ := T.Library_joined.ex
  rw [e] at lk
  obtain ⟨_, vd1_li, bd1_li⟩ := bd1_li0 T
  refine (StX.fn_star (sp := spJoinB a) (ps := []) (pv := "libraries") lk hcd sc_Library_joined StX.cxUp (fun us rest hl => ?_) (fun A outer s H vs Q E hr h => ?_)).imp fun vs H Q E h => ?_
  · match us, hl with
    | [], _ => cases rest <;> rfl
  · obtain ⟨_, p, Ls, gss, rfl, hp, hL, l4, hgs, out⟩ := h
    refine ⟨_, (pss_cons (ps_set (i := 1) sc_Library_joined.nd rfl (Or.inl rfl) (pe_lst pa_nil))
  (pss_cons (ps_for (passes_of rfl) rfl (pi_tup (pv 0)) (pg_name (i := 2) sc_Library_joined.nd rfl (Or.inl rfl))
  (pss_one (ps_set (i := 1) sc_Library_joined.nd rfl (Or.inl rfl) (pe_op op_cat (pv 1) (pe_meth0 (pv 2) T.k_Library T.m_Library_functions G_Library_functions (hr.mono (by omega)) T.b_Library_functions .nil pass0)))))
  (pss_cons (ps_for (passes_of rfl) rfl (pi_list (pe_callB (cr_sortLS) (by rfl) T.n_sorted (by decide +kernel) (pa_cons (pv 1) pa_nil))) (pg_name (i := 3) sc_Library_joined.nd rfl (Or.inl rfl))
  (pss_one (ps_if (pt_cmpR op_gt (pe_bm PySem.F.plainAttrs_list PySem.F.slot_list_count PySem.F.type_list_count mt_countS (pv 1) (pa_cons (pv 3) pa_nil)) pe_int (nomark _)) (pss_one (ps_raise rfl (takes_of rfl rfl rfl rfl) (pmk_err T.e_Clash T.g_Clash T.n_super hr (pa_cons (pv 3) pa_nil)))) pss_nil)))
  (pss_one (ps_ret (pe_make T.mk_Library G_LibraryU_initU (hr.mono (by omega)) (by rfl) T.g_Library bd1_li vd1_li (passes_call (takes_of rfl rfl rfl rfl) (fun _ _ _ _ h => h)) (pa_cons (pe_join pe_str (pe_lc (own := [("library", 2)]) (tt := tYes) rfl sc_Library_joined.nd (pi_tup (pv 0)) (blkOk_by (own := [("library", 2)]) (N := ["libraries", "names", "library", "name"]) (sc := defScope s_Library_joined) (by decide +kernel)) (fun _ _ _ _ _ => (pg_name (i := 2) sc_Library_joined.nd rfl (Or.inl rfl))) (fun _ _ _ _ _ => pts_nil) (fun _ _ _ _ _ => (pe_fldK (K := K) rfl (pv 2) rfl)))) pa_nil))))))), ?_⟩
    try dsimp only [cxOf]
    have c1 := T.k_Library
    have n1 := T.na_Library_text
    walk_at "rd"
    intro e1 he1
    have s1 := (Same.refl H).new (o := .lst []) he1
    have e11 := upd_same (H := H) (a := e1) (o := .lst [])
    have hp1 := s1 _ _ hp
    generalize upd H e1 (.lst []) = H1 at s1 e11 hp1 ⊢
    have lgss : Ls.length = gss.length := hL.len
    walk_at "rd"
    refine ⟨⟨_, SqT.of hp1⟩, ?_⟩
    refine for_tup (xs := Ls.map (fun L => V.ref L.x)) (fun i σ F => ∃ (_ : Unit) (e : Addr) (v2 v3 : Option V), σ = [some (.ref p), some (.ref e), v2, v3] ∧ Same H F ∧ F e = some (.lst ((namesJ (gss.take i)).map V.str))) ?_ ?_ ?_ ?_
    · exact ⟨(), e1, _, _, rfl, s1, e11⟩
    · rintro i σ F _ ⟨_, e, v2, v3, rfl, sF, _⟩
      exact SqT.of (sF _ _ hp)
    · rintro i x σ F hx ⟨_, e, v2, v3, rfl, sF, eF⟩
      obtain ⟨L, gs, rfl, hgi, I⟩ : ∃ L gs, x = .ref L.x ∧ gss[i]? = some gs ∧ LibAt a H L (textR (rowsF gs)) ((rowsF gs).map lineR) (funsF 0 0 gs) (mksF 0 gs) := by
        rw [List.getElem?_map] at hx
        cases e : Ls[i]? with
        | none => rw [e] at hx; cases hx
        | some L =>
          rw [e] at hx; cases hx
          obtain ⟨gs, h1, h2⟩ := hL.at e
          exact ⟨L, gs, rfl, h1, h2⟩
      have IF := I.same sF
      have hoF := IF.ob
      walk_at "rd"
      refine ⟨(), L, _, _, _, _, rfl, IF, fun F1 l sF1 fl hl => ?_⟩
      have s2 := sF.trans sF1
      have eF1 := sF1 _ _ eF
      have hl : F1 l = some (.lst ((sortT (gs.map (·.1))).map V.str)) := by rw [← funsF_names gs 0 0]; exact hl
      have ln1 := namesJ_len (gss := gss.take i) fun gs hm => (hgs gs (List.mem_of_mem_take hm)).1
      have ln2 : (gss.take i).length ≤ 4 := by rw [List.length_take]; omega
      have ln3 := (hgs gs (List.mem_of_getElem? hgi)).1
      have lsum : ((namesJ (gss.take i)).map V.str).length + ((sortT (gs.map (·.1))).map V.str).length ≤ sizeLine := by
        rw [List.length_map, List.length_map, sortT_len, List.length_map, sizeLine_eq]; omega
      walk_at "rd"
      intro q hq
      exact ⟨(), q, _, _, rfl, s2.new hq, by rw [upd_same, namesJ_take hgi, List.map_append]⟩
    · rintro σ F ⟨_, e, v2, v3, rfl, sF, eF⟩
      rw [show (Ls.map fun L => V.ref L.x).length = gss.length by rw [List.length_map, lgss], List.take_length] at eF
      obtain ⟨ns, ens⟩ : ∃ ns, ns = namesJ gss := ⟨_, rfl⟩
      rw [← ens] at eF out
      walk_at "rd"
      intro q hq
      have s3 := sF.new (o := .lst ((sortT ns).map V.str)) hq
      have q3 := upd_same (H := F) (a := q) (o := .lst ((sortT ns).map V.str))
      have e3 := upd_old (o := .lst ((sortT ns).map V.str)) eF hq
      generalize upd F q (.lst ((sortT ns).map V.str)) = F3 at s3 q3 e3 ⊢
      refine ⟨q, rfl, ⟨_, SqL.of q3⟩, ?_⟩
      refine for_list (xs := (sortT ns).map V.str) (fun i σ F' => ∃ (_ : Unit) (v3 : Option V), F' = F3 ∧ σ = [some (.ref p), some (.ref e), v2, v3] ∧ ∀ y ∈ (sortT ns).take i, decide (1 < ns.countP fun z => z == y) = false) ?_ ?_ ?_ ?_
      · exact ⟨(), _, rfl, rfl, fun y hy => by cases hy⟩
      · rintro i σ F' _ ⟨_, v3, rfl, _⟩
        exact SqL.of q3
      · rintro i x σ F' hx ⟨_, v3, rfl, rfl, hno⟩
        obtain ⟨y, hy, rfl⟩ : ∃ y, (sortT ns)[i]? = some y ∧ x = .str y := by
          rw [List.getElem?_map] at hx
          cases e : (sortT ns)[i]? with
          | none => rw [e] at hx; cases hx
          | some y => rw [e] at hx; cases hx; exact ⟨y, rfl, rfl⟩
        walk_at "rd"
        refine ite2 (fun c0 => ?_) (fun c0 => ?_)
        · have c1 : decide (1 < ns.countP fun z => z == y) = true := by
            have := of_decide_eq_true c0
            exact decide_eq_true (by omega)
          rw [show dupF ns = some y from find_at hy c1 hno] at out
          walk_at "rd"
          exact out _ s3
        · refine ⟨(), _, rfl, rfl, fun z hz => ?_⟩
          rw [List.take_add_one, hy] at hz
          rcases List.mem_append.mp hz with hz | hz
          · exact hno z hz
          · rw [show z = y from List.mem_singleton.mp hz]
            exact decide_eq_false fun c => c0 (decide_eq_true (by omega))
      · rintro σ F' ⟨_, v3, rfl, rfl, hno⟩
        rw [List.length_map, List.take_length] at hno
        rw [show dupF ns = none from find_none' hno] at out
        obtain ⟨k, r, lz, tok, hrd, ho⟩ := out
        have hp3 := s3 _ _ hp
        have hL3 := hL.same s3
        walk_at "rd"
        refine ⟨⟨_, SqT.of hp3⟩, fun D hD => ?_⟩
        refine lc_tup (xs := Ls.map (fun L => V.ref L.x)) (fun i G => Same F' G ∧ G D = some (.lst (((gss.take i).map fun gs => textR (rowsF gs)).map V.str))) ?_ ?_ ?_ ?_
        · exact ⟨(Same.refl _).new hD, upd_same⟩
        · rintro i G _ ⟨s4, _⟩
          exact SqT.of (s4 _ _ hp3)
        · rintro i x G hx ⟨s4, hG⟩
          obtain ⟨L, gs, rfl, hgi, I⟩ : ∃ L gs, x = .ref L.x ∧ gss[i]? = some gs ∧ LibAt a F' L (textR (rowsF gs)) ((rowsF gs).map lineR) (funsF 0 0 gs) (mksF 0 gs) := by
            rw [List.getElem?_map] at hx
            cases e : Ls[i]? with
            | none => rw [e] at hx; cases hx
            | some L =>
              rw [e] at hx; cases hx
              obtain ⟨gs, h1, h2⟩ := hL3.at e
              exact ⟨L, gs, rfl, h1, h2⟩
          have hoF := s4 _ _ I.ob
          have l2 : List.lookup ("text" : Str) (liF L (textR (rowsF gs))) = some (.str (textR (rowsF gs))) := rfl
          have li : i < gss.length := (List.getElem?_eq_some_iff.mp hgi).1
          walk_at "rd"
          refine ⟨by rw [List.length_map, List.length_map, List.length_take, sizeLine_eq]; omega, s4.frsh hD, ?_⟩
          rw [upd_same, List.take_add_one, hgi, List.map_append, List.map_append]; rfl
        · rintro G ⟨s4, hG⟩
          rw [show (Ls.map fun L => V.ref L.x).length = gss.length by rw [List.length_map, lgss], List.take_length] at hG
          have s5 := s3.trans s4
          walk_at "rd"
          have bs := sum_len (N := 6000) (l := gss.map fun gs => textR (rowsF gs)) fun z hz => by
            obtain ⟨gs, hm, rfl⟩ := List.mem_map.mp hz
            exact (hgs gs hm).2
          refine ⟨by
            rw [List.length_map] at bs ⊢
            have e1 : (Str.ofString "\n").length = 1 := rfl
            rw [e1]
            have : gss.length * 6000 ≤ 4 * 6000 := Nat.mul_le_mul_right _ (by omega)
            omega, ?_⟩
          rw [join_S]
          obtain ⟨z, ez⟩ : ∃ z, z = Str.join "\n" (gss.map fun gs => textR (rowsF gs)) := ⟨_, rfl⟩
          rw [← ez] at lz tok hrd ho ⊢
          intro x dx hx hdx ndx
          have xA : upd (upd G dx (.own x)) x (.ins a.Library dx []) x = some (.ins a.Library dx []) := upd_same
          have sx : Same G (upd (upd G dx (.own x)) x (.ins a.Library dx [])) := ((Same.refl G).new hdx).new (by rw [upd_ne (Ne.symm ndx)]; exact hx)
          have kx : ∀ {F' : Hp}, Kp (fun b => b = x) (upd (upd G dx (.own x)) x (.ins a.Library dx [])) F' → Same G F' := fun {F'} kp => Kp.same sx kp fun c hc => by rw [hc]; exact hx
          refine ⟨(), x, dx, .str z, 6000, rfl, xA, .inl ⟨z, k, r, rfl, by rw [sizeLine_eq]; omega, fun _ => ⟨tok, hrd⟩, ?_⟩⟩
          cases hlr : libR z 6000 r with
          | many y =>
            rw [hlr] at ho
            exact fun H' kp => ho H' (s5.trans (kx kp))
          | loop y =>
            rw [hlr] at ho
            exact fun H' kp => ho H' (s5.trans (kx kp))
          | bad n =>
            rw [hlr] at ho
            exact fun H' kp => ho H' (s5.trans (kx kp))
          | ok fs mk =>
            rw [hlr] at ho
            intro H' L I eL ⟨n1, n2, n3⟩ kp
            subst eL
            exact ⟨rfl, ho H' L I ⟨s5.free (sx.free n1), s5.free (sx.free n2), s5.free (sx.free n3)⟩ (s5.trans (kx kp))⟩
  · obtain ⟨_, Ls, gss, rfl, hL, l4, hgs, out⟩ := h
    refine ⟨[], _, rfl, rfl, by rw [List.length_map, sizeLine_eq]; omega, fun p hp => ⟨(), p, Ls, gss, rfl, upd_same, hL.same ((Same.refl H).new hp), l4, hgs, ?_⟩⟩
    have s1 : Same H (upd H p (.tup (Ls.map (fun L => V.ref L.x)))) := (Same.refl H).new hp
    cases hd : dupF (namesJ gss) with
    | some w =>
      rw [hd] at out
      exact fun H' s' => out H' (s1.trans s')
    | none =>
      rw [hd] at out
      obtain ⟨k, r, lz, tok, hrd, ho⟩ := out
      exact ⟨k, r, lz, tok, hrd, outJ_new s1 ho⟩
/-! ### k25: texts joined, names that are twice there (plain) -/
theorem joinC_app (c : Nat) : ∀ {xs ys : List (List Nat)}, xs ≠ [] → ys ≠ [] → joinC c (xs ++ ys) = joinC c xs ++ c :: joinC c ys
  | [], _, h, _ => absurd rfl h
  | [x], y :: t, _, _ => rfl
  | x :: x' :: t, ys, _, h => by
    show x ++ c :: joinC c (x' :: t ++ ys) = (x ++ c :: joinC c (x' :: t)) ++ c :: joinC c ys
    rw [joinC_app c (by simp) h]; simp
  | [x], [], _, h => absurd rfl h
theorem joinC_flat (c : Nat) : ∀ {xss : List (List (List Nat))}, (∀ xs ∈ xss, xs ≠ []) → joinC c (xss.map (joinC c)) = joinC c xss.flatten
  | [], _ => rfl
  | [xs], _ => by simp [joinC]
  | xs :: ys :: t, h => by
    have ih := joinC_flat c (xss := ys :: t) fun x hx => h x (List.mem_cons_of_mem _ hx)
    have hy := h ys (List.mem_cons_of_mem _ List.mem_cons_self)
    show joinC c xs ++ c :: joinC c ((ys :: t).map (joinC c)) = joinC c (xs ++ (ys :: t).flatten)
    rw [ih, joinC_app c (h xs List.mem_cons_self) (by
      rw [List.flatten_cons]
      intro e
      exact hy (List.append_eq_nil_iff.mp e).1)]
theorem textR_cps (rows : List Row) : cps (textR rows) = joinC 10 ((rows.map lineR).map cps) := by
  unfold textR
  rw [nl_eq, join_cps]
theorem textR_flat {gss : List (List FT)} (h : ∀ gs ∈ gss, gs ≠ []) : Str.join "\n" (gss.map fun gs => textR (rowsF gs)) = textR (rowsF gss.flatten) := by
  refine cps_inj ?_
  rw [textR_cps, show (("\n" : Str)) = ⟨#[10]⟩ from nl_eq, join_cps, List.map_map]
  have e1 : (cps ∘ fun gs => textR (rowsF gs)) = (joinC 10) ∘ fun gs => ((rowsF gs).map lineR).map cps := by
    funext gs
    exact textR_cps _
  rw [e1, ← List.map_map, joinC_flat 10 (xss := gss.map fun gs => ((rowsF gs).map lineR).map cps) (fun xs hx => by
    obtain ⟨gs, hg, rfl⟩ := List.mem_map.mp hx
    simp [rowsF_ne (h gs hg)])]
  have e2 : ∀ l : List (List FT), (l.map fun gs => ((rowsF gs).map lineR).map cps).flatten = ((rowsF l.flatten).map lineR).map cps := by
    intro l
    induction l with
    | nil => rfl
    | cons gs t ih => rw [List.map_cons, List.flatten_cons, ih, List.flatten_cons, rowsF_app, List.map_append, List.map_append]
  rw [e2]
theorem namesJ_perm : ∀ gss : List (List FT), (namesJ gss).Perm (gss.flatten.map (·.1))
  | [] => .nil
  | gs :: t => by
    show (sortT (gs.map (·.1)) ++ namesJ t).Perm ((gs ++ t.flatten).map (·.1))
    rw [List.map_append]
    exact (sortT_perm _).append (namesJ_perm t)
theorem countP_perm {l m : List Str} (h : l.Perm m) (w : Str) : (l.countP fun z => z == w) = m.countP fun z => z == w := h.countP_eq _
theorem count_nodup : ∀ {l : List Str} {w : Str}, l.Nodup → (l.countP fun z => z == w) = if w ∈ l then 1 else 0
  | [], w, _ => rfl
  | x :: t, w, nd => by
    have nd := List.nodup_cons.mp nd
    rw [List.countP_cons, count_nodup nd.2]
    by_cases e : x = w
    · rw [← e, if_neg nd.1, if_pos (by simp), if_pos List.mem_cons_self]
    · rw [if_neg (show ¬ (x == w) = true from fun q => e (of_decide_eq_true q)), Nat.add_zero]
      by_cases m : w ∈ t
      · rw [if_pos m, if_pos (List.mem_cons_of_mem _ m)]
      · rw [if_neg m, if_neg (fun h => (List.mem_cons.mp h).elim (fun q => e q.symm) m)]
theorem dupF_none {gss : List (List FT)} (nd : (gss.flatten.map (·.1)).Nodup) : dupF (namesJ gss) = none := by
  refine find_none' fun w _ => decide_eq_false ?_
  rw [countP_perm (namesJ_perm gss), count_nodup nd]
  split <;> omega
theorem find_min {p : Str → Bool} : ∀ {l : List Str} {y : Str}, l.Pairwise leT → l.find? p = some y → ∀ x ∈ l, p x = true → leT y x
  | [], _, _, h, _, _, _ => by cases h
  | z :: t, y, pw, h, x, hx, px => by
    have pw := List.pairwise_cons.mp pw
    rw [List.find?_cons] at h
    cases e : p z with
    | true =>
      rw [e] at h; cases h
      rcases List.mem_cons.mp hx with rfl | hx
      · exact leT_refl _
      · exact pw.1 x hx
    | false =>
      rw [e] at h
      rcases List.mem_cons.mp hx with rfl | hx
      · rw [e] at px; cases px
      · exact find_min pw.2 h x hx px
theorem dupF_some {gss : List (List FT)} {ns dbl : List Str} {d0 : Str} {dt : List Str} (hp : (gss.flatten.map (·.1)).Perm (ns ++ dbl)) (nd : ns.Nodup) (nd2 : dbl.Nodup) (sub : ∀ x ∈ dbl, x ∈ ns) (pw : dbl.Pairwise leT) (e : dbl = d0 :: dt) : dupF (namesJ gss) = some d0 := by
  have cnt : ∀ w, (namesJ gss).countP (fun z => z == w) = (if w ∈ ns then 1 else 0) + if w ∈ dbl then 1 else 0 := fun w => by
    rw [countP_perm ((namesJ_perm gss).trans hp), List.countP_append, count_nodup nd, count_nodup nd2]
  have d0m : d0 ∈ dbl := by rw [e]; exact List.mem_cons_self
  have d0n : d0 ∈ namesJ gss := ((namesJ_perm gss).trans hp).mem_iff.mpr (List.mem_append_left _ (sub d0 d0m))
  have pd0 : decide (1 < (namesJ gss).countP fun z => z == d0) = true := by
    rw [cnt, if_pos (sub d0 d0m), if_pos d0m]; rfl
  unfold dupF
  cases h : (sortT (namesJ gss)).find? fun w => decide (1 < (namesJ gss).countP fun z => z == w) with
  | none => exact absurd pd0 (by
      have := List.find?_eq_none.mp h d0 (sortT_mem.mpr d0n)
      simpa using this)
  | some y =>
    have l1 := find_min (sortT_pw _) h d0 (sortT_mem.mpr d0n) pd0
    have py := List.find?_some h
    have py : decide (1 < (namesJ gss).countP fun z => z == y) = true := py
    rw [cnt] at py
    have my : y ∈ dbl := by
      by_cases c : y ∈ dbl
      · exact c
      · rw [if_neg c] at py
        split at py <;> exact absurd (of_decide_eq_true py) (by omega)
    have l2 : leT d0 y := by
      rw [e] at my pw
      rcases List.mem_cons.mp my with rfl | my
      · exact leT_refl _
      · exact (List.pairwise_cons.mp pw).1 y my
    rw [leT_anti l1 l2]
/-! ### k26: _law_join -/
theorem no_TooMany_what (T : Txt K mg a d) : PySem.W.findIn K (.ref a.TooMany) "what" = some none := T.e_TooMany.noF ("what", .inl 0) (by simp [ef_TooMany])
theorem no_Endless_name (T : Txt K mg a d) : PySem.W.findIn K (.ref a.Endless) "name" = some none := T.e_Endless.noF ("name", .inl 0) (by simp [ef_Endless])
def outJn (H : Hp) (Q : VK) : LibR → Prop
  | .bad _ => False
  | .many w => ∀ H' t, Same H H' → H' t = some (.tup [.str "toomany", .str w]) → Q (.ref t) H'
  | .loop w => ∀ H' t, Same H H' → H' t = some (.tup [.str "endless", .str w]) → Q (.ref t) H'
  | .ok fs _ => ∀ H' t u, Same H H' → H' t = some (.tup [.str "library", .ref u]) → H' u = some (.lst ((sortT (setT (unkN fs))).map V.str)) → Q (.ref t) H'
def spJn : Sp := fun vs H Q _ => ∃ (_ : Unit) (l1 l2 : Addr) (g1 g2 : List FT), vs = [.ref l1, .ref l2] ∧ H l1 = some (.lst (strsR (rowsF g1))) ∧ H l2 = some (.lst (strsR (rowsF g2))) ∧ ReadG g1 ∧ ReadG g2 ∧ ReadG (g1 ++ g2) ∧ g1.length ≤ 12 ∧ g2.length ≤ 12 ∧
  libG g1 = .ok (funsF 0 0 g1) (mksF 0 g1) ∧ libG g2 = .ok (funsF 0 0 g2) (mksF 0 g2) ∧ outJn H Q (libG (g1 ++ g2))
theorem ok_law_join (T : Txt K mg a d) : FnOk P w K mg base CX0 54 a.law_join d.law_join ["_law_first", "_law_second"] spJn := by
  have R_Library_joined := ok_Library_joined (w := w) (base := base) T
  have G_LibraryU_initU : FnOk P w K mg base (L2.CX P w) 51 a.LibraryU_initU d.LibraryU_initU ["self", "text", "longest"] (spLibI a) := ok_LibraryU_initU T
  have G_Library_unknown : FnOk P w K mg base CX0 1 a.Library_unknown d.Library_unknown ["self"] (spLs a fun fs _ => sortT (setT (unkN fs))) := ok_Library_unknown T
  obtain ⟨_, vd1_li, bd1_li⟩ := bd1_li0 T
  refine T.law_join.ok sc_law_join (fun vs H Q E h => ?_) (fun cdv A outer s H vs Q E hr h => ?_)
  · obtain ⟨_, _, _, _, _, rfl, _⟩ := h
    rfl
  · obtain ⟨_, l1, l2, g1, g2, rfl, h1, h2, G1, G2, G12, n1, n2, e1, e2, out⟩ := h
    refine ⟨_, (C8.pss_cut (ps_tryA rfl rfl sc_law_join.nd takes0 (fun W pn xe tk po => (pss_one (ps_set (i := 2) sc_law_join.nd rfl (Or.inl rfl) (pe_smethRSD (pe_glob (v := .ref a.Library) (by rfl) T.g_Library rfl) T.r_Library T.s_Library_joined R_Library_joined (hr.mono (by omega)) T.Library_joined.kp (fun σ => passAt tk σ) (pa_cons (pe_makeSD T.mk_Library G_LibraryU_initU (hr.mono (by omega)) (by rfl) T.g_Library bd1_li vd1_li (fun σ => passAt tk σ) (pa_cons (pe_joinK (K := K) rfl pe_str (pv 0)) pa_nil)) (pa_cons (pe_makeSD T.mk_Library G_LibraryU_initU (hr.mono (by omega)) (by rfl) T.g_Library bd1_li vd1_li (fun σ => passAt tk σ) (pa_cons (pe_joinK (K := K) rfl pe_str (pv 1)) pa_nil)) pa_nil)))))) (.consA (i := 3) (.intro (by rfl) (And.intro (by decide) (Or.inl T.g_TooMany))) rfl rfl (fun _ _ _ _ _ hz hf => (pss_one (ps_ret (pe_tup (pa_cons pe_str (pa_cons (pe_xf (xfc T.e_TooMany) (no_TooMany_what T) hz hf (pv 3)) pa_nil)))))) (.consA (i := 3) (.intro (by rfl) (And.intro (by decide) (Or.inl T.g_Endless))) rfl rfl (fun _ _ _ _ _ hz hf => (pss_one (ps_ret (pe_tup (pa_cons pe_str (pa_cons (pe_xf (xfc T.e_Endless) (no_Endless_name T) hz hf (pv 3)) pa_nil)))))) .nil)))
  (pss_one (ps_ret (pe_tup (pa_cons pe_str (pa_cons (pe_meth0 (pv 2) T.k_Library T.m_Library_unknown G_Library_unknown (hr.mono (by omega)) T.b_Library_unknown .nil pass0) pa_nil)))))), ?_⟩
    try dsimp only [cxOf]
    have c1 := T.k_Library
    obtain ⟨k1, rd1, tok1, le1, lr1⟩ := G1.lib
    obtain ⟨k2, rd2, tok2, le2, lr2⟩ := G2.lib
    obtain ⟨k3, rd3, tok3, le3, lr3⟩ := G12.lib
    have tj1 := textR_join (rows := rowsF g1) (rowsF_ne G1.ne)
    have tj2 := textR_join (rows := rowsF g2) (rowsF_ne G2.ne)
    have x12 := T.x_TooMany_Endless
    have x21 := T.x_Endless_TooMany
    have efl : ([g1, g2] : List (List FT)).flatten = g1 ++ g2 := by simp
    have etx : Str.join "\n" (([g1, g2] : List (List FT)).map fun gs => textR (rowsF gs)) = textR (rowsF (g1 ++ g2)) := by
      rw [textR_flat fun gs hg => ?_, efl]
      rcases List.mem_cons.mp hg with rfl | hg
      · exact G1.ne
      · rw [List.mem_singleton.mp hg]; exact G2.ne
    have nod : dupF (namesJ ([g1, g2] : List (List FT))) = none := dupF_none (by rw [efl]; exact G12.nd)
    refine ⟨fun σ F => ∃ (_ : Unit) (L' : LA) (fs : List Fun) (mk : List Mk) (v3 : Option V), σ = [some (.ref l1), some (.ref l2), some (.ref L'.x), v3] ∧ Same H F ∧ LibAt a F L' (textR (rowsF (g1 ++ g2))) (linesOf (textR (rowsF (g1 ++ g2)))) fs mk ∧ ∀ H' t u, Same H H' → H' t = some (.tup [.str "library", .ref u]) → H' u = some (.lst ((sortT (setT (unkN fs))).map V.str)) → Q (.ref t) H', ?_, ?_⟩
    · walk_at "rd"
      rw [join_S]
      intro x1 d1 hx1 hd1 nd1
      have sx1 : Same H (upd (upd H d1 (.own x1)) x1 (.ins a.Library d1 [])) := ((Same.refl H).new hd1).new (by rw [upd_ne (Ne.symm nd1)]; exact hx1)
      have xA1 := upd_same (H := upd H d1 (.own x1)) (a := x1) (o := .ins a.Library d1 [])
      refine ⟨(), x1, d1, .str (textR (rowsF g1)), 6000, rfl, xA1, .inl ⟨_, k1, _, rfl, by rw [sizeLine_eq]; omega, fun _ => ⟨tok1, rd1⟩, ?_⟩⟩
      rw [lr1, e1]
      rintro GB L1 I1 eL _ kx
      subst eL
      have sB : Same H GB := Kp.same sx1 kx fun c hc => by rw [hc]; exact hx1
      rw [textR_lines (rowsF_ne G1.ne) (rowsF_good G1.ok)] at I1
      have h2B := sB _ _ h2
      refine ⟨rfl, ?_⟩
      clear xA1 sx1 kx hx1 hd1
      walk_at "rd"
      rw [join_S]
      intro x2 d2 hx2 hd2 nd2
      have sx2 : Same GB (upd (upd GB d2 (.own x2)) x2 (.ins a.Library d2 [])) := ((Same.refl GB).new hd2).new (by rw [upd_ne (Ne.symm nd2)]; exact hx2)
      have xA2 := upd_same (H := upd GB d2 (.own x2)) (a := x2) (o := .ins a.Library d2 [])
      refine ⟨(), x2, d2, .str (textR (rowsF g2)), 6000, rfl, xA2, .inl ⟨_, k2, _, rfl, by rw [sizeLine_eq]; omega, fun _ => ⟨tok2, rd2⟩, ?_⟩⟩
      rw [lr2, e2]
      rintro GC L2' I2 eL _ kx2
      subst eL
      have sC : Same GB GC := Kp.same sx2 kx2 fun c hc => by rw [hc]; exact hx2
      rw [textR_lines (rowsF_ne G2.ne) (rowsF_good G2.ok)] at I2
      have I1 := I1.same sC
      have s0 := sB.trans sC
      refine ⟨rfl, ?_⟩
      clear xA2 sx2 kx2 hx2 hd2 sB sC h2B
      walk_at "rd"
      refine ⟨(), [L1, L2'], [g1, g2], rfl, .cons I1 (.cons I2 .nil), by simp, fun gs hg => ?_, ?_⟩
      · rcases List.mem_cons.mp hg with rfl | hg
        · exact ⟨n1, by omega⟩
        · rw [List.mem_singleton.mp hg]
          exact ⟨n2, by omega⟩
      rw [nod, etx]
      refine ⟨k3, _, by omega, tok3, rd3, ?_⟩
      rw [lr3]
      revert out
      cases libG (g1 ++ g2) with
      | bad l => exact fun out => out.elim
      | many w =>
        intro out H2 s2
        replace s2 : Same H H2 := s0.trans s2
        intro dd gd
        refine ⟨true, T.e_TooMany.te, fun _ ea hea => ?_, fun z => nomatch z⟩
        unfold wCl
        have s3 := s2.new (o := .xd (errF [.str w] ef_TooMany [])) gd
        have d3 := upd_same (H := H2) (a := dd) (o := .xd (errF [.str w] ef_TooMany []))
        generalize upd H2 dd (.xd (errF [.str w] ef_TooMany [])) = H3 at s3 d3 ⊢
        walk_at "rd"
        intro t ht
        exact out _ t (s3.new ht) upd_same
      | loop w =>
        intro out H2 s2
        replace s2 : Same H H2 := s0.trans s2
        intro dd gd
        refine ⟨false, x21, fun z => (nomatch z), fun _ => ⟨true, T.e_Endless.te, fun _ ea hea => ?_, fun z => nomatch z⟩⟩
        unfold wCl
        have s3 := s2.new (o := .xd (errF [.str w] ef_Endless [])) gd
        have d3 := upd_same (H := H2) (a := dd) (o := .xd (errF [.str w] ef_Endless []))
        generalize upd H2 dd (.xd (errF [.str w] ef_Endless [])) = H3 at s3 d3 ⊢
        walk_at "rd"
        intro t ht
        exact out _ t (s3.new ht) upd_same
      | ok fs mk =>
        intro out H2 L' I3 _ s2
        exact ⟨(), L', fs, mk, _, rfl, s0.trans s2, I3, out⟩
    · rintro σ F ⟨_, L', fs, mk, v3, rfl, s1, I, k⟩
      have ob := I.ob
      walk_at "rd"
      refine ⟨(), L', _, _, _, _, rfl, I, fun F1 u sF1 fu hu => ?_⟩
      walk_at "rd"
      intro t ht
      exact k _ t u ((s1.trans sF1).new ht) upd_same (upd_old hu ht)
/-! ### k26: _law_rows -/
def stQ (s : Nat) (w : Str) : List Stm := if s = 1 then [.mk (.one "write" "same") []] else if s = 2 then [.mk (.one "write" w) []] else if s = 3 then [.mk (.one "raise" w) []] else if s = 4 then [.mk (.blk 0 "join" []) [[.mk (.sim "doom") []]]] else [.mk (.one "call" w) []]
def pasK (w : Str) : FT := (w, [.mk (.sim "pass") []])
def gsK (name : Str) (s : Nat) (ws : List Str) : List FT := if s = 0 then ws.map pasK else [(name, (ws.map (stQ s)).flatten)]
theorem fun_lineQ (x : Str) : Str.ofString "function " ++ x = lineR (some (0, [Str.ofString "function", x])) := by
  show _ = lineS 0 ["function", x]
  refine cps_inj ?_
  rw [lineS_cps, cps_app]
  show _ = cps (Str.ofString "function") ++ 32 :: cps x
  rw [show cps (Str.ofString "function ") = cps (Str.ofString "function") ++ [32] by decide +kernel]
  simp
theorem kw_line {k k2 : String} (e : cps (Str.ofString k2) = cps (Str.ofString k) ++ [32]) (x : Str) : Str.ofString "  " ++ (Str.ofString k2 ++ x) = lineR (some (1, [Str.ofString k, x])) := by
  show _ = lineS 1 [Str.ofString k, x]
  refine cps_inj ?_
  rw [lineS_cps, cps_app, cps_app, e]
  show _ = 32 :: 32 :: (cps (Str.ofString k) ++ 32 :: cps x)
  rw [show cps (Str.ofString "  ") = [32, 32] by decide +kernel]
  simp
theorem rowsB_snoc (n : Nat) : ∀ (b c : List Stm), rowsB n (b ++ c) = rowsB n b ++ rowsB n c
  | [], c => by rw [List.nil_append, show rowsB n [] = [] by rw [rowsB]]; rfl
  | s :: r, c => by rw [List.cons_append, rowsB, rowsB, rowsB_snoc n r c, List.append_assoc]
theorem strsR_app (b c : List Row) : strsR (b ++ c) = strsR b ++ strsR c := by
  unfold strsR
  rw [List.map_append, List.map_append]
theorem gsK_snoc0 (name : Str) (ws : List Str) (w : Str) : strsR (rowsF (gsK name 0 (ws ++ [w]))) = strsR (rowsF (gsK name 0 ws)) ++ [V.str (Str.ofString "function " ++ w), V.str (Str.ofString "  pass")] := by
  unfold gsK
  rw [if_pos rfl, if_pos rfl, List.map_append, rowsF_app]
  unfold strsR
  rw [List.map_append, List.map_append]
  refine congrArg _ ?_
  rw [fun_lineQ]
  have : rowsF ([w].map pasK) = [some (0, [Str.ofString "function", w]), some (1, [Str.ofString "pass"])] := rfl
  rw [this]
  have e : lineR (some (1, [Str.ofString "pass"])) = Str.ofString "  pass" := by decide +kernel
  show [V.str _, V.str (lineR (some (1, [Str.ofString "pass"])))] = _
  rw [e]
theorem gsK_rows (name : Str) {s : Nat} (h : s ≠ 0) (ws : List Str) : rowsF (gsK name s ws) = some (0, [Str.ofString "function", name]) :: rowsB 1 (ws.map (stQ s)).flatten := by
  unfold gsK
  rw [if_neg h]
  show [some (0, [("function" : Str), name]) :: rowsB 1 (ws.map (stQ s)).flatten].flatten = _
  rw [List.flatten_cons, List.flatten_nil, List.append_nil]
theorem gsK_snoc (name : Str) {s : Nat} (h : s ≠ 0) (ws : List Str) (w : Str) : strsR (rowsF (gsK name s (ws ++ [w]))) = strsR (rowsF (gsK name s ws)) ++ strsR (rowsB 1 (stQ s w)) := by
  rw [gsK_rows name h, gsK_rows name h, List.map_append, List.flatten_append, rowsB_snoc]
  unfold strsR
  simp
theorem stQ4 (w : Str) : strsR (rowsB 1 (stQ 4 w)) = [V.str (Str.ofString "  block join"), V.str (Str.ofString "    doom")] := by
  have h : rowsB 1 (stQ 4 w) = [some (1, [Str.ofString "block", Str.ofString "join"]), some (2, [Str.ofString "doom"])] := rfl
  rw [h]
  show [V.str (lineR (some (1, [Str.ofString "block", Str.ofString "join"]))), V.str (lineR (some (2, [Str.ofString "doom"])))] = _
  rw [show lineR (some (1, [Str.ofString "block", Str.ofString "join"])) = Str.ofString "  block join" by decide +kernel, show lineR (some (2, [Str.ofString "doom"])) = Str.ofString "    doom" by decide +kernel]
theorem stQ_pick {s : Nat} (h0 : s ≠ 0) (h4 : s ≠ 4) (h6 : s < 6) (w : Str) : ∃ z, ([V.str (Str.ofString ""), .str (Str.ofString "write same"), .str (Str.ofString "write " ++ w), .str (Str.ofString "raise " ++ w), .str (Str.ofString ""), .str (Str.ofString "call " ++ w)] : List V)[s]? = some (.str z) ∧ z.length ≤ w.length + 10 ∧ strsR (rowsB 1 (stQ s w)) = [V.str (Str.ofString "  " ++ z)] := by
  have ln : ∀ k : String, (Str.ofString k ++ w).length = (Str.ofString k).length + w.length := fun k => by
    rw [← cps_len, cps_app, List.length_append, cps_len, cps_len]
  have : s = 1 ∨ s = 2 ∨ s = 3 ∨ s = 5 := by omega
  rcases this with rfl | rfl | rfl | rfl
  · refine ⟨_, rfl, by rw [show (Str.ofString "write same").length = 10 by decide +kernel]; omega, ?_⟩
    have h : rowsB 1 (stQ 1 w) = [some (1, [Str.ofString "write", Str.ofString "same"])] := rfl
    rw [h]
    show [V.str (lineR (some (1, [Str.ofString "write", Str.ofString "same"])))] = _
    rw [show lineR (some (1, [Str.ofString "write", Str.ofString "same"])) = Str.ofString "  " ++ Str.ofString "write same" by decide +kernel]
  · refine ⟨_, rfl, by rw [ln, show (Str.ofString "write ").length = 6 by decide +kernel]; omega, ?_⟩
    have h : rowsB 1 (stQ 2 w) = [some (1, [Str.ofString "write", w])] := rfl
    rw [h, kw_line (k := "write") (by decide +kernel)]; rfl
  · refine ⟨_, rfl, by rw [ln, show (Str.ofString "raise ").length = 6 by decide +kernel]; omega, ?_⟩
    have h : rowsB 1 (stQ 3 w) = [some (1, [Str.ofString "raise", w])] := rfl
    rw [h, kw_line (k := "raise") (by decide +kernel)]; rfl
  · refine ⟨_, rfl, by rw [ln, show (Str.ofString "call ").length = 5 by decide +kernel]; omega, ?_⟩
    have h : rowsB 1 (stQ 5 w) = [some (1, [Str.ofString "call", w])] := rfl
    rw [h, kw_line (k := "call") (by decide +kernel)]; rfl
def spRows : Sp := fun vs H Q _ => ∃ (_ : Unit) (p : Addr) (name : Str) (s : Nat) (ws : List Str), vs = [.str name, .int (s : Int), .ref p] ∧ s < 6 ∧ H p = some (.lst (ws.map V.str)) ∧ ws.length ≤ 100 ∧ name.length ≤ 100 ∧ (∀ w ∈ ws, w.length ≤ 100) ∧
  ∀ H' l, Same H H' → H l = none → H' l = some (.lst (strsR (rowsF (gsK name s ws)))) → Q (.ref l) H'
theorem ok_law_rows (T : Txt K mg a d) : FnOk P w K mg base CX0 1 a.law_rows d.law_rows ["_law_name", "_law_sort", "_law_words"] spRows := by
  refine T.law_rows.ok sc_law_rows (fun vs H Q E h => ?_) (fun cdv A outer s H vs Q E hr h => ?_)
  · obtain ⟨_, _, _, _, _, rfl, _⟩ := h
    rfl
  · obtain ⟨_, p, name, s, ws, rfl, hs, hp, lw, ln, lws, k⟩ := h
    refine ⟨_, (pss_cons (ps_if (pt_cmpR op_eq (pv 1) pe_int (nomark _)) (pss_cons (ps_set (i := 3) sc_law_rows.nd rfl (Or.inl rfl) (pe_lst pa_nil))
  (pss_cons (ps_for PassesOwn.never rfl (pi_list (pv 2)) (pg_name (i := 4) sc_law_rows.nd rfl (Or.inl rfl))
  (pss_one (ps_set (i := 3) sc_law_rows.nd rfl (Or.inl rfl) (pe_op op_cat (pv 3) (pe_lst (pa_cons (pe_op op_add_str pe_str (pv 4)) (pa_cons pe_str pa_nil)))))))
  (pss_one (ps_ret (pv 3))))) pss_nil)
  (pss_cons (ps_set (i := 3) sc_law_rows.nd rfl (Or.inl rfl) (pe_lst (pa_cons (pe_op op_add_str pe_str (pv 0)) pa_nil)))
  (pss_cons (ps_for PassesOwn.never rfl (pi_list (pv 2)) (pg_name (i := 4) sc_law_rows.nd rfl (Or.inl rfl))
  (pss_one (ps_if (pt_cmpR op_eq (pv 1) pe_int (nomark _)) (pss_one (ps_set (i := 3) sc_law_rows.nd rfl (Or.inl rfl) (pe_op op_cat (pv 3) (pe_lst (pa_cons pe_str (pa_cons pe_str pa_nil)))))) (pss_one (ps_expr (pe_bm PySem.F.plainAttrs_list PySem.F.slot_list_append PySem.F.type_list_append mt_append (pv 3) (pa_cons (pe_op op_add_str pe_str (pe_ix ix_list (pe_lst (pa_cons pe_str (pa_cons pe_str (pa_cons (pe_op op_add_str pe_str (pv 4)) (pa_cons (pe_op op_add_str pe_str (pv 4)) (pa_cons pe_str (pa_cons (pe_op op_add_str pe_str (pv 4)) pa_nil))))))) (pv 1) (fun _ _ => rfl))) pa_nil)))))))
  (pss_one (ps_ret (pv 3)))))), ?_⟩
    try dsimp only [cxOf]
    have e9 : (Str.ofString "function ").length = 9 := by decide +kernel
    have e2 : (Str.ofString "  ").length = 2 := by decide +kernel
    have str_at : ∀ {i : Nat} {x : V}, (ws.map V.str)[i]? = some x → ∃ w, ws[i]? = some w ∧ x = .str w := fun {i x} hx => by
      rw [List.getElem?_map] at hx
      cases e : ws[i]? with
      | none => rw [e] at hx; cases hx
      | some w => rw [e] at hx; cases hx; exact ⟨w, rfl, rfl⟩
    have rl : ∀ i, (strsR (rowsF (gsK name s (ws.take i)))).length ≤ 1000 := fun i => by
      have key : ∀ l : List Str, (strsR (rowsF (gsK name s l))).length ≤ 1 + 2 * l.length := by
        intro l
        by_cases h0 : s = 0
        · rw [h0]
          induction l with
          | nil => exact Nat.zero_le _
          | cons x t ih =>
            have e : strsR (rowsF (gsK name 0 (x :: t))) = strsR (rowsF (gsK name 0 [x])) ++ strsR (rowsF (gsK name 0 t)) := by
              unfold gsK
              rw [if_pos rfl, if_pos rfl, if_pos rfl, show (x :: t).map pasK = [x].map pasK ++ t.map pasK from rfl, rowsF_app, strsR_app]
            rw [e, List.length_append, List.length_cons]
            show 2 + _ ≤ _
            omega
        · rw [gsK_rows name h0]
          show (strsR (rowsB 1 (l.map (stQ s)).flatten)).length + 1 ≤ _
          have : (strsR (rowsB 1 (l.map (stQ s)).flatten)).length ≤ 2 * l.length := by
            induction l with
            | nil => rw [List.map_nil, List.flatten_nil, rowsB]; exact Nat.le_refl _
            | cons x t ih =>
              rw [List.map_cons, List.flatten_cons, rowsB_snoc]
              have e : (strsR (rowsB 1 (stQ s x))).length ≤ 2 := by
                by_cases h4 : s = 4
                · rw [h4, stQ4]; exact Nat.le_refl _
                · obtain ⟨z, _, _, ez⟩ := stQ_pick h0 h4 hs x
                  rw [ez]; exact Nat.le_succ 1
              rw [strsR_app, List.length_append, List.length_cons]
              omega
          omega
      have := key (ws.take i)
      rw [List.length_take] at this
      omega
    walk_at "rd"
    refine ite2 (fun c0 => ?_) (fun c0 => ?_)
    · obtain rfl : s = 0 := by simpa using c0
      walk_at "rd"
      intro l0 hl0
      have s0 := (Same.refl H).new (o := .lst []) hl0
      have el0 := upd_same (H := H) (a := l0) (o := .lst [])
      have hp0 := s0 _ _ hp
      generalize upd H l0 (.lst []) = H0 at s0 el0 hp0 ⊢
      walk_at "rd"
      refine ⟨⟨_, SqL.of hp0⟩, ?_⟩
      refine for_list (xs := ws.map V.str) (fun i σ F => ∃ (_ : Unit) (l : Addr) (v4 : Option V), σ = [some (.str name), some (.int ((0 : Nat) : Int)), some (.ref p), some (.ref l), v4] ∧ Same H F ∧ H l = none ∧ F l = some (.lst (strsR (rowsF (gsK name 0 (ws.take i)))))) ?_ ?_ ?_ ?_
      · exact ⟨(), l0, _, rfl, s0, hl0, el0⟩
      · rintro i σ F _ ⟨_, l, v4, rfl, sF, _⟩
        exact SqL.of (sF _ _ hp)
      · rintro i x σ F hx ⟨_, l, v4, rfl, sF, nl, el⟩
        obtain ⟨w, hw, rfl⟩ := str_at hx
        have lw1 := lws w (List.mem_of_getElem? hw)
        have r1 := rl i
        walk_at "rd"
        refine ⟨by rw [e9, sizeLine_eq]; omega, ?_⟩
        walk_at "rd"
        intro q hq
        have eq1 := upd_old (o := .lst [.str (Str.ofString "function " ++ w), .str (Str.ofString "  pass")]) el hq
        have eq2 := upd_same (H := F) (a := q) (o := .lst [.str (Str.ofString "function " ++ w), .str (Str.ofString "  pass")])
        have sq := sF.new (o := .lst [.str (Str.ofString "function " ++ w), .str (Str.ofString "  pass")]) hq
        generalize upd F q (.lst [.str (Str.ofString "function " ++ w), .str (Str.ofString "  pass")]) = F1 at eq1 eq2 sq ⊢
        walk_at "rd"
        refine ⟨by rw [sizeLine_eq]; show _ + 2 ≤ _; omega, ?_⟩
        intro l' hl'
        refine ⟨(), l', _, rfl, sq.new hl', sq.free hl', ?_⟩
        rw [upd_same, List.take_add_one, hw]
        exact congrArg (fun z => some (HO.lst z)) (gsK_snoc0 name _ w).symm
      · rintro σ F ⟨_, l, v4, rfl, sF, nl, el⟩
        rw [List.length_map, List.take_length] at el
        walk_at "rd"
        exact k _ _ sF nl el
    · have s0 : s ≠ 0 := fun e => c0 (by simp [e])
      walk_at "rd"
      refine ⟨by rw [e9, sizeLine_eq]; omega, ?_⟩
      walk_at "rd"
      intro l0 hl0
      have sA := (Same.refl H).new (o := .lst [.str (Str.ofString "function " ++ name)]) hl0
      have el0 := upd_same (H := H) (a := l0) (o := .lst [.str (Str.ofString "function " ++ name)])
      have hp0 := sA _ _ hp
      generalize upd H l0 (.lst [.str (Str.ofString "function " ++ name)]) = H0 at sA el0 hp0 ⊢
      walk_at "rd"
      refine ⟨⟨_, SqL.of hp0⟩, ?_⟩
      refine for_list (xs := ws.map V.str) (fun i σ F => ∃ (_ : Unit) (l : Addr) (v4 : Option V), σ = [some (.str name), some (.int (s : Int)), some (.ref p), some (.ref l), v4] ∧ Same H F ∧ H l = none ∧ F l = some (.lst (strsR (rowsF (gsK name s (ws.take i)))))) ?_ ?_ ?_ ?_
      · refine ⟨(), l0, _, rfl, sA, hl0, ?_⟩
        rw [el0, gsK_rows name s0, List.take_zero, List.map_nil, List.flatten_nil, rowsB, fun_lineQ]; rfl
      · rintro i σ F _ ⟨_, l, v4, rfl, sF, _⟩
        exact SqL.of (sF _ _ hp)
      · rintro i x σ F hx ⟨_, l, v4, rfl, sF, nl, el⟩
        obtain ⟨w, hw, rfl⟩ := str_at hx
        have lw1 := lws w (List.mem_of_getElem? hw)
        have r1 := rl i
        have fin : ∀ {l' : Addr} {F' : Hp} {v4 : Option V}, Same H F' → H l' = none → F' l' = some (.lst (strsR (rowsF (gsK name s (ws.take i))) ++ strsR (rowsB 1 (stQ s w)))) → ∃ (_ : Unit) (l : Addr) (v4' : Option V), ([some (.str name), some (.int (s : Int)), some (.ref p), some (.ref l'), v4] : L2.St) = [some (.str name), some (.int (s : Int)), some (.ref p), some (.ref l), v4'] ∧ Same H F' ∧ H l = none ∧ F' l = some (.lst (strsR (rowsF (gsK name s (ws.take (i + 1)))))) := fun {l' F' v4} s1 n1 e1 => by
          refine ⟨(), l', _, rfl, s1, n1, ?_⟩
          rw [e1, List.take_add_one, hw]
          exact congrArg (fun z => some (HO.lst z)) (gsK_snoc name s0 _ w).symm
        walk_at "rd"
        refine ite2 (fun c4 => ?_) (fun c4 => ?_)
        · obtain rfl : s = 4 := by
            have : (s : Int) = 4 := by simpa using c4
            omega
          rw [stQ4] at fin
          walk_at "rd"
          intro q hq
          have eq1 := upd_old (o := .lst [.str (Str.ofString "  block join"), .str (Str.ofString "    doom")]) el hq
          have eq2 := upd_same (H := F) (a := q) (o := .lst [.str (Str.ofString "  block join"), .str (Str.ofString "    doom")])
          have sq := sF.new (o := .lst [.str (Str.ofString "  block join"), .str (Str.ofString "    doom")]) hq
          generalize upd F q (.lst [.str (Str.ofString "  block join"), .str (Str.ofString "    doom")]) = F1 at eq1 eq2 sq ⊢
          walk_at "rd"
          refine ⟨by rw [sizeLine_eq]; show _ + 2 ≤ _; omega, ?_⟩
          intro l' hl'
          exact fin (sq.new hl') (sq.free hl') upd_same
        · have s4 : s ≠ 4 := fun e => c4 (by rw [e]; rfl)
          obtain ⟨z, hz, lz, ez⟩ := stQ_pick s0 s4 hs w
          rw [ez] at fin
          have w6 : (Str.ofString "write ").length + w.length ≤ sizeLine := by rw [show (Str.ofString "write ").length = 6 by decide +kernel, sizeLine_eq]; omega
          have r6 : (Str.ofString "raise ").length + w.length ≤ sizeLine := by rw [show (Str.ofString "raise ").length = 6 by decide +kernel, sizeLine_eq]; omega
          have c5 : (Str.ofString "call ").length + w.length ≤ sizeLine := by rw [show (Str.ofString "call ").length = 5 by decide +kernel, sizeLine_eq]; omega
          have b4 : (Str.ofString "  ").length + z.length ≤ sizeLine := by rw [e2, sizeLine_eq]; omega
          have haz : atI ([V.str (Str.ofString ""), .str (Str.ofString "write same"), .str (Str.ofString "write " ++ w), .str (Str.ofString "raise " ++ w), .str (Str.ofString ""), .str (Str.ofString "call " ++ w)] : List V) (s : Int) = some (.str z) := atI_nat hz
          walk_at "rd"
          intro q hq
          have eq1 := upd_old (o := .lst ([V.str (Str.ofString ""), .str (Str.ofString "write same"), .str (Str.ofString "write " ++ w), .str (Str.ofString "raise " ++ w), .str (Str.ofString ""), .str (Str.ofString "call " ++ w)] : List V)) el hq
          have eq2 := upd_same (H := F) (a := q) (o := .lst ([V.str (Str.ofString ""), .str (Str.ofString "write same"), .str (Str.ofString "write " ++ w), .str (Str.ofString "raise " ++ w), .str (Str.ofString ""), .str (Str.ofString "call " ++ w)] : List V))
          have sq := sF.new (o := .lst ([V.str (Str.ofString ""), .str (Str.ofString "write same"), .str (Str.ofString "write " ++ w), .str (Str.ofString "raise " ++ w), .str (Str.ofString ""), .str (Str.ofString "call " ++ w)] : List V)) hq
          generalize upd F q (.lst ([V.str (Str.ofString ""), .str (Str.ofString "write same"), .str (Str.ofString "write " ++ w), .str (Str.ofString "raise " ++ w), .str (Str.ofString ""), .str (Str.ofString "call " ++ w)] : List V)) = F1 at eq1 eq2 sq ⊢
          walk_at "rd"
          refine ⟨by rw [sizeLine_eq]; omega, ?_⟩
          exact fin (sq.frsh nl) nl upd_same
      · rintro σ F ⟨_, l, v4, rfl, sF, nl, el⟩
        rw [List.length_map, List.take_length] at el
        walk_at "rd"
        exact k _ _ sF nl el
/-! ### k26: libraries of one sort, plain -/
def dbQ : List Str := ["doomed", "missing", "present", "refused", "waits"]
def alQ (s : Nat) (w : Str) : List Stm := if s = 0 then [.mk (.sim "pass") []] else allB (stQ s w)
structure SrtG (s : Nat) (ws : List Str) (gs : List FT) : Prop where
  ok : ∀ g ∈ gs, FTOk g
  nd : (gs.map (·.1)).Nodup
  ne : gs ≠ []
  al : allT gs = (ws.map (alQ s)).flatten
  nb : (gs.map fun g => nbB g.2).sum = if s = 4 then ws.length else 0
  ln : if s = 0 then gs.length = ws.length else gs.length ≤ 2
  lr : (rowsF gs).length ≤ gs.length + (if s = 4 then 2 else 1) * ws.length
  l52 : ∀ r ∈ rowsF gs, (lineR r).length ≤ 52
  cl : s = 5 → ∀ w ∈ ws, w ∉ gs.map (·.1)
theorem setT_nlen {xs : List Str} (h : xs.Nodup) : (setT xs).length = xs.length := (nd_perm setT_nd h fun _ => setT_mem).length_eq
theorem setT_sort {xs : List Str} (h : xs.Nodup) : sortT (setT xs) = sortT xs := sortT_congr (nd_perm setT_nd h fun _ => setT_mem)
theorem s6 {s : Nat} (h : s < 6) : s = 0 ∨ s = 1 ∨ s = 2 ∨ s = 3 ∨ s = 4 ∨ s = 5 := by omega
def mostQ (s : Nat) : Nat := if s = 0 then 12 else if s = 1 then 80 else if s = 2 then 6 else if s = 3 then 6 else if s = 4 then 16 else 4
def whatQ (s : Nat) : Str := if s = 0 then "functions" else if s = 1 then "statements" else if s = 2 then "records" else if s = 3 then "errors" else if s = 4 then "blocks" else "unknown"
theorem flat_const {α : Type} (f : Str → List α) (n : Nat) (h : ∀ w, (f w).length = n) : ∀ ws : List Str, ((ws.map f).flatten).length = n * ws.length
  | [] => rfl
  | w :: t => by
    rw [List.map_cons, List.flatten_cons, List.length_append, h, flat_const f n h t, List.length_cons, Nat.mul_succ]
    omega
theorem fm_none {f : Stm → Option Str} {g : Str → List Stm} (h : ∀ w, ∀ s ∈ g w, f s = none) (ws : List Str) : ((ws.map g).flatten).filterMap f = [] := by
  refine List.filterMap_eq_nil_iff.mpr fun s hs => ?_
  obtain ⟨l, hl, hs⟩ := List.mem_flatten.mp hs
  obtain ⟨w, _, rfl⟩ := List.mem_map.mp hl
  exact h w s hs
theorem fm_one {f : Stm → Option Str} {g : Str → List Stm} {v : Str → Str} (h : ∀ w, (g w).filterMap f = [v w]) : ∀ ws : List Str, ((ws.map g).flatten).filterMap f = ws.map v
  | [] => rfl
  | w :: t => by rw [List.map_cons, List.flatten_cons, List.filterMap_append, h, fm_one h t, List.map_cons]; rfl
theorem wd_none {g : Str → List Stm} (h : ∀ w, ∀ s ∈ g w, wordsH s.hd = []) (ws : List Str) : (((ws.map g).flatten).map fun s => wordsH s.hd).flatten = [] := by
  refine List.flatten_eq_nil_iff.mpr fun l hl => ?_
  obtain ⟨s, hs, rfl⟩ := List.mem_map.mp hl
  obtain ⟨l, hl, hs⟩ := List.mem_flatten.mp hs
  obtain ⟨w, _, rfl⟩ := List.mem_map.mp hl
  exact h w s hs
theorem wd_one {g : Str → List Stm} (h : ∀ w, ((g w).map fun s => wordsH s.hd).flatten = [w]) : ∀ ws : List Str, (((ws.map g).flatten).map fun s => wordsH s.hd).flatten = ws
  | [] => rfl
  | w :: t => by rw [List.map_cons, List.flatten_cons, List.map_append, List.flatten_append, h, wd_one h t]; rfl
theorem alQ_0 (w : Str) : alQ 0 w = [.mk (.sim "pass") []] := rfl
theorem alQ_1 (w : Str) : alQ 1 w = [.mk (.one "write" "same") []] := rfl
theorem alQ_2 (w : Str) : alQ 2 w = [.mk (.one "write" w) []] := rfl
theorem alQ_3 (w : Str) : alQ 3 w = [.mk (.one "raise" w) []] := rfl
theorem alQ_4 (w : Str) : alQ 4 w = [.mk (.blk 0 "join" []) [[.mk (.sim "doom") []]], .mk (.sim "doom") []] := rfl
theorem alQ_5 (w : Str) : alQ 5 w = [.mk (.one "call" w) []] := rfl
theorem nW {k : Str} (h : k ≠ "write") (w : Str) (ps : List (List Stm)) : nameOf "write" (.mk (.one k w) ps) = none := by rw [nameOf_one, if_neg h]
theorem nC {k : Str} (h : k ≠ "call") (w : Str) (ps : List (List Stm)) : nameOf "call" (.mk (.one k w) ps) = none := by rw [nameOf_one, if_neg h]
theorem rw_ne : (Str.ofString "raise") ≠ "write" := by decide +kernel
theorem cw_ne : (Str.ofString "call") ≠ "write" := by decide +kernel
theorem wc_ne : (Str.ofString "write") ≠ "call" := by decide +kernel
theorem rc_ne : (Str.ofString "raise") ≠ "call" := by decide +kernel
theorem wr_ne : (Str.ofString "write") ≠ "raise" := by decide +kernel
theorem cr_ne : (Str.ofString "call") ≠ "raise" := by decide +kernel
section
variable {s : Nat} {ws : List Str} {gs : List FT}
theorem srt_rec (h6 : s < 6) (G : SrtG s ws gs) : recT gs = if s = 1 then ws.map (fun _ => ("same" : Str)) else if s = 2 then ws else [] := by
  unfold recT
  rw [G.al]
  rcases s6 h6 with rfl | rfl | rfl | rfl | rfl | rfl
  · exact fm_none (fun w s hs => by rw [alQ_0] at hs; rw [List.mem_singleton.mp hs]; rfl) ws
  · exact fm_one (fun w => rfl) ws
  · exact (fm_one (v := id) (fun w => rfl) ws).trans (List.map_id ws)
  · exact fm_none (fun w s hs => by rw [alQ_3] at hs; rw [List.mem_singleton.mp hs]; exact nW rw_ne _ _) ws
  · exact fm_none (fun w s hs => by
      rw [alQ_4] at hs
      rcases List.mem_cons.mp hs with rfl | hs
      · rfl
      · rw [List.mem_singleton.mp hs]; rfl) ws
  · exact fm_none (fun w s hs => by rw [alQ_5] at hs; rw [List.mem_singleton.mp hs]; exact nW cw_ne _ _) ws
theorem srt_cal (h6 : s < 6) (G : SrtG s ws gs) : (allT gs).filterMap (nameOf "call") = if s = 5 then ws else [] := by
  rw [G.al]
  rcases s6 h6 with rfl | rfl | rfl | rfl | rfl | rfl
  · exact fm_none (fun w s hs => by rw [alQ_0] at hs; rw [List.mem_singleton.mp hs]; rfl) ws
  · exact fm_none (fun w s hs => by rw [alQ_1] at hs; rw [List.mem_singleton.mp hs]; exact nC wc_ne _ _) ws
  · exact fm_none (fun w s hs => by rw [alQ_2] at hs; rw [List.mem_singleton.mp hs]; exact nC wc_ne _ _) ws
  · exact fm_none (fun w s hs => by rw [alQ_3] at hs; rw [List.mem_singleton.mp hs]; exact nC rc_ne _ _) ws
  · exact fm_none (fun w s hs => by
      rw [alQ_4] at hs
      rcases List.mem_cons.mp hs with rfl | hs
      · rfl
      · rw [List.mem_singleton.mp hs]; rfl) ws
  · exact (fm_one (v := id) (fun w => rfl) ws).trans (List.map_id ws)
theorem srt_err (h6 : s < 6) (G : SrtG s ws gs) : errT gs = dbQ ++ if s = 3 then ws else [] := by
  unfold errT
  rw [G.al]
  refine congrArg (dbQ ++ ·) ?_
  have w1 : ∀ w, wordsH (.one "write" w) = [] := fun w => by
    show (if (Str.ofString "write") = Str.ofString "raise" then [w] else []) = []
    rw [if_neg wr_ne]
  have w5 : ∀ w, wordsH (.one "call" w) = [] := fun w => by
    show (if (Str.ofString "call") = Str.ofString "raise" then [w] else []) = []
    rw [if_neg cr_ne]
  rcases s6 h6 with rfl | rfl | rfl | rfl | rfl | rfl
  · exact wd_none (fun w s hs => by rw [alQ_0] at hs; rw [List.mem_singleton.mp hs]; rfl) ws
  · exact wd_none (fun w s hs => by rw [alQ_1] at hs; rw [List.mem_singleton.mp hs]; exact w1 _) ws
  · exact wd_none (fun w s hs => by rw [alQ_2] at hs; rw [List.mem_singleton.mp hs]; exact w1 _) ws
  · exact wd_one (fun w => rfl) ws
  · exact wd_none (fun w s hs => by
      rw [alQ_4] at hs
      rcases List.mem_cons.mp hs with rfl | hs
      · rfl
      · rw [List.mem_singleton.mp hs]; rfl) ws
  · exact wd_none (fun w s hs => by rw [alQ_5] at hs; rw [List.mem_singleton.mp hs]; exact w5 _) ws
theorem srt_unk (h6 : s < 6) (G : SrtG s ws gs) : unkT gs = if s = 5 then ws else [] := by
  unfold unkT
  rw [srt_cal h6 G]
  by_cases h5 : s = 5
  · rw [if_pos h5]
    refine List.filter_eq_self.mpr fun w hw => ?_
    have := G.cl h5 w hw
    simp only [Bool.not_eq_true', decide_eq_false_iff_not]
    exact this
  · rw [if_neg h5]; rfl
theorem srt_len (h6 : s < 6) (G : SrtG s ws gs) : (allT gs).length = (if s = 4 then 2 else 1) * ws.length := by
  rw [G.al]
  refine flat_const _ _ (fun w => ?_) ws
  rcases s6 h6 with rfl | rfl | rfl | rfl | rfl | rfl <;> rfl
theorem srt_gua (h6 : s < 6) (G : SrtG s ws gs) : ∀ t ∈ allT gs, isG t.hd = false := fun t ht => by
  rw [G.al] at ht
  obtain ⟨l, hl, ht⟩ := List.mem_flatten.mp ht
  obtain ⟨w, _, rfl⟩ := List.mem_map.mp hl
  rcases s6 h6 with rfl | rfl | rfl | rfl | rfl | rfl
  · rw [alQ_0] at ht; rw [List.mem_singleton.mp ht]; rfl
  · rw [alQ_1] at ht; rw [List.mem_singleton.mp ht]; rfl
  · rw [alQ_2] at ht; rw [List.mem_singleton.mp ht]; rfl
  · rw [alQ_3] at ht; rw [List.mem_singleton.mp ht]; rfl
  · rw [alQ_4] at ht
    rcases List.mem_cons.mp ht with rfl | ht
    · rfl
    · rw [List.mem_singleton.mp ht]; rfl
  · rw [alQ_5] at ht; rw [List.mem_singleton.mp ht]; rfl
theorem callsN_none {ns : List Str} {b : List Stm} (h : ∀ t ∈ allB b, ∀ w, nameOf "call" t = some w → w ∉ ns) : callsN ns b = [] := by
  unfold callsN
  refine List.filterMap_eq_nil_iff.mpr fun t ht => ?_
  have key := h t ((freeB_sub b).subset ht)
  obtain ⟨hd, ps⟩ := t
  unfold calleeN
  cases hd with
  | one k v =>
    show (if k = "call" ∧ v ∈ ns then some v else none) = none
    rw [if_neg]
    rintro ⟨e, m⟩
    exact key v (by rw [nameOf_one, if_pos e]) m
  | _ => rfl
theorem srt_nocall (h6 : s < 6) (G : SrtG s ws gs) (x : Str) : callsN (gs.map (·.1)) (bodyT gs x) = [] := by
  unfold bodyT
  cases e : gs.find? (fun g => decide (g.1 = x)) with
  | none => simp [callsN, freeB, lsB]
  | some g =>
    refine callsN_none fun t ht w hw hm => ?_
    have hg := List.mem_of_find?_eq_some e
    have : w ∈ (allT gs).filterMap (nameOf "call") := List.mem_filterMap.mpr ⟨t, (allT_sub hg).subset ht, hw⟩
    rw [srt_cal h6 G] at this
    by_cases h5 : s = 5
    · rw [if_pos h5] at this
      exact G.cl h5 w this hm
    · rw [if_neg h5] at this
      cases this
theorem find_one {cs : List (Str × Nat × Nat)} {i : Nat} {c : Str × Nat × Nat} (h : cs[i]? = some c) (hb : c.2.1 < c.2.2) (ha : ∀ x ∈ cs.take i, ¬ x.2.1 < x.2.2) : (cs.find? fun c => decide (c.2.1 < c.2.2)).map (·.1) = some c.1 := by
  rw [find_at h (decide_eq_true hb) fun y hy => decide_eq_false (ha y hy)]; rfl
def CntQ (s n a1 a2 a3 a4 a5 a6 : Nat) : Prop :=
  if s = 0 then a1 = n ∧ a2 = n ∧ a3 = 0 ∧ a4 = 5 ∧ a5 = 0 ∧ a6 = 0
  else if s = 1 then a1 ≤ 2 ∧ a2 = n ∧ a3 ≤ 1 ∧ a4 = 5 ∧ a5 = 0 ∧ a6 = 0
  else if s = 2 then a1 ≤ 2 ∧ a2 = n ∧ a3 = n ∧ a4 = 5 ∧ a5 = 0 ∧ a6 = 0
  else if s = 3 then a1 ≤ 2 ∧ a2 = n ∧ a3 = 0 ∧ a4 = 5 + n ∧ a5 = 0 ∧ a6 = 0
  else if s = 4 then a1 ≤ 2 ∧ a2 = 2 * n ∧ a3 = 0 ∧ a4 = 5 ∧ a5 = n ∧ a6 = 0
  else a1 ≤ 2 ∧ a2 = n ∧ a3 = 0 ∧ a4 = 5 ∧ a5 = 0 ∧ a6 = n
theorem cnt_none {a1 a2 a3 a4 a5 a6 : Nat} (h1 : a1 ≤ 12) (h2 : a2 ≤ 80) (h3 : a3 ≤ 6) (h4 : a4 ≤ 11) (h5 : a5 ≤ 16) (h6 : a6 ≤ 4) :
    (([("functions", 12, a1), ("statements", 80, a2), ("records", 6, a3), ("errors", 11, a4), ("blocks", 16, a5), ("unknown", 4, a6)] : List (Str × Nat × Nat)).find? fun c => decide (c.2.1 < c.2.2)).map (·.1) = none := by
  rw [find_none' fun c hc => ?_]
  · rfl
  · simp only [List.mem_cons, List.not_mem_nil, or_false] at hc
    rcases hc with rfl | rfl | rfl | rfl | rfl | rfl <;> exact decide_eq_false (by simp only; omega)
theorem cnt_pick {s n a1 a2 a3 a4 a5 a6 : Nat} (h6 : s < 6) (h : CntQ s n a1 a2 a3 a4 a5 a6) (l : n ≤ mostQ s + 1) :
    (([("functions", 12, a1), ("statements", 80, a2), ("records", 6, a3), ("errors", 11, a4), ("blocks", 16, a5), ("unknown", 4, a6)] : List (Str × Nat × Nat)).find? fun c => decide (c.2.1 < c.2.2)).map (·.1) = if n ≤ mostQ s then none else some (whatQ s) := by
  rcases s6 h6 with rfl | rfl | rfl | rfl | rfl | rfl
  · obtain ⟨e1, e2, e3, e4, e5, e6⟩ := h
    have l : n ≤ 12 + 1 := l
    show _ = if n ≤ 12 then none else some ("functions" : Str)
    by_cases hn : n ≤ 12
    · rw [if_pos hn]
      exact cnt_none (by omega) (by omega) (by omega) (by omega) (by omega) (by omega)
    · rw [if_neg hn]
      exact find_one (i := 0) (c := ("functions", 12, a1)) rfl (show 12 < a1 by omega) (fun x hx => by cases hx)
  · obtain ⟨e1, e2, e3, e4, e5, e6⟩ := h
    have l : n ≤ 80 + 1 := l
    show _ = if n ≤ 80 then none else some ("statements" : Str)
    by_cases hn : n ≤ 80
    · rw [if_pos hn]
      exact cnt_none (by omega) (by omega) (by omega) (by omega) (by omega) (by omega)
    · rw [if_neg hn]
      refine find_one (i := 1) (c := ("statements", 80, a2)) rfl (show 80 < a2 by omega) (fun x hx => ?_)
      simp only [List.take_succ_cons, List.take_zero, List.mem_cons, List.not_mem_nil, or_false] at hx
      subst hx
      simp only; omega
  · obtain ⟨e1, e2, e3, e4, e5, e6⟩ := h
    have l : n ≤ 6 + 1 := l
    show _ = if n ≤ 6 then none else some ("records" : Str)
    by_cases hn : n ≤ 6
    · rw [if_pos hn]
      exact cnt_none (by omega) (by omega) (by omega) (by omega) (by omega) (by omega)
    · rw [if_neg hn]
      refine find_one (i := 2) (c := ("records", 6, a3)) rfl (show 6 < a3 by omega) (fun x hx => ?_)
      simp only [List.take_succ_cons, List.take_zero, List.mem_cons, List.not_mem_nil, or_false] at hx
      rcases hx with rfl | rfl <;> simp only <;> omega
  · obtain ⟨e1, e2, e3, e4, e5, e6⟩ := h
    have l : n ≤ 6 + 1 := l
    show _ = if n ≤ 6 then none else some ("errors" : Str)
    by_cases hn : n ≤ 6
    · rw [if_pos hn]
      exact cnt_none (by omega) (by omega) (by omega) (by omega) (by omega) (by omega)
    · rw [if_neg hn]
      refine find_one (i := 3) (c := ("errors", 11, a4)) rfl (show 11 < a4 by omega) (fun x hx => ?_)
      simp only [List.take_succ_cons, List.take_zero, List.mem_cons, List.not_mem_nil, or_false] at hx
      rcases hx with rfl | rfl | rfl <;> simp only <;> omega
  · obtain ⟨e1, e2, e3, e4, e5, e6⟩ := h
    have l : n ≤ 16 + 1 := l
    show _ = if n ≤ 16 then none else some ("blocks" : Str)
    by_cases hn : n ≤ 16
    · rw [if_pos hn]
      exact cnt_none (by omega) (by omega) (by omega) (by omega) (by omega) (by omega)
    · rw [if_neg hn]
      refine find_one (i := 4) (c := ("blocks", 16, a5)) rfl (show 16 < a5 by omega) (fun x hx => ?_)
      simp only [List.take_succ_cons, List.take_zero, List.mem_cons, List.not_mem_nil, or_false] at hx
      rcases hx with rfl | rfl | rfl | rfl <;> simp only <;> omega
  · obtain ⟨e1, e2, e3, e4, e5, e6⟩ := h
    have l : n ≤ 4 + 1 := l
    show _ = if n ≤ 4 then none else some ("unknown" : Str)
    by_cases hn : n ≤ 4
    · rw [if_pos hn]
      exact cnt_none (by omega) (by omega) (by omega) (by omega) (by omega) (by omega)
    · rw [if_neg hn]
      refine find_one (i := 5) (c := ("unknown", 4, a6)) rfl (show 4 < a6 by omega) (fun x hx => ?_)
      simp only [List.take_succ_cons, List.take_zero, List.mem_cons, List.not_mem_nil, or_false] at hx
      rcases hx with rfl | rfl | rfl | rfl | rfl <;> simp only <;> omega
theorem srt_lib (h6 : s < 6) (G : SrtG s ws gs) (nd : ws.Nodup) (db : s = 3 → ∀ w ∈ ws, w ∉ dbQ) (l : ws.length ≤ mostQ s + 1) (h1 : 1 ≤ ws.length) :
    ReadG gs ∧ libG gs = if ws.length ≤ mostQ s then .ok (funsF 0 0 gs) (mksF 0 gs) else .many (whatQ s) := by
  have e5 : ∀ ws' : List Str, ws'.Nodup → (∀ w ∈ ws', w ∉ dbQ) → (setT (dbQ ++ ws')).length = 5 + ws'.length := fun ws' n d => by
    rw [setT_nlen (List.nodup_append.mpr ⟨by decide +kernel, n, fun x hx y hy e => d y hy (e ▸ hx)⟩), List.length_append]; rfl
  have eN : (setT (dbQ ++ ([] : List Str))).length = 5 := e5 [] List.nodup_nil (fun w hw => by cases hw)
  have c1 := srt_len h6 G
  have c2 := srt_rec h6 G
  have c3 := srt_err h6 G
  have c4 := srt_unk h6 G
  have c5 := G.nb
  have c0 := G.ln
  have z0 : (setT ([] : List Str)).length = 0 := rfl
  have r1 : (setT (ws.map fun _ => ("same" : Str))).length ≤ 1 := nodup_le (ys := [("same" : Str)]) setT_nd fun x hx => by
    rw [setT_mem] at hx
    obtain ⟨_, _, rfl⟩ := List.mem_map.mp hx
    exact List.mem_cons_self
  have nw := setT_nlen nd
  have fin := fine0 (srt_nocall h6 G)
  have hgu := srt_gua h6 G
  have lr := G.lr
  have rd : ReadG gs := ⟨G.ok, G.nd, G.ne, by rcases s6 h6 with rfl | rfl | rfl | rfl | rfl | rfl <;> simp [mostQ] at l lr c0 <;> omega, G.l52⟩
  refine ⟨rd, ?_⟩
  have hc : CntQ s ws.length gs.length (allT gs).length (setT (recT gs)).length (setT (errT gs)).length (gs.map fun g => nbB g.2).sum (setT (unkT gs)).length := by
    rw [c1, c2, c3, c4, c5]
    rcases s6 h6 with rfl | rfl | rfl | rfl | rfl | rfl
    · exact ⟨c0, Nat.one_mul _, z0, eN, rfl, z0⟩
    · exact ⟨c0, Nat.one_mul _, r1, eN, rfl, z0⟩
    · exact ⟨c0, Nat.one_mul _, nw, eN, rfl, z0⟩
    · exact ⟨c0, Nat.one_mul _, z0, e5 ws nd (db rfl), rfl, z0⟩
    · exact ⟨c0, rfl, z0, eN, rfl, z0⟩
    · exact ⟨c0, Nat.one_mul _, z0, eN, rfl, nw⟩
  have hb : boundV (funsF 0 0 gs) (mksF 0 gs) = if ws.length ≤ mostQ s then none else some (whatQ s) := by
    rw [boundV_T]
    exact cnt_pick h6 hc l
  unfold libG
  rw [hb]
  by_cases hle : ws.length ≤ mostQ s
  · rw [if_pos hle, if_pos hle]
    have fine := fin (by rw [c1]; rcases s6 h6 with rfl | rfl | rfl | rfl | rfl | rfl <;> simp [mostQ] at hle ⊢ <;> omega) hgu
    rw [fine]
  · rw [if_neg hle, if_neg hle]
end
/-! ### k26: the two libraries of one sort -/
theorem w_same : IsWord (Str.ofString "same") := word_lit (by decide +kernel)
theorem stQ_wf {s : Nat} (h0 : s ≠ 0) (h6 : s < 6) {w : Str} (hw : IsWord w) : wfB 1 (stQ s w) ∧ stQ s w ≠ [] := by
  have h : s = 1 ∨ s = 2 ∨ s = 3 ∨ s = 4 ∨ s = 5 := by omega
  rcases h with rfl | rfl | rfl | rfl | rfl
  · exact ⟨wfB_one (wfS_leaf ⟨by decide +kernel, w_same, rfl⟩), by simp [stQ]⟩
  · exact ⟨wfB_one (wfS_leaf ⟨by decide +kernel, hw, rfl⟩), by simp [stQ]⟩
  · exact ⟨wfB_one (wfS_leaf ⟨by decide +kernel, hw, rfl⟩), by simp [stQ]⟩
  · exact ⟨wfB_one (wfS_1 ⟨by decide +kernel, (fun w h => nomatch h), rfl, by omega⟩ (wfB_one (wfS_leaf ⟨by decide +kernel, rfl⟩)) (by simp)), by simp [stQ]⟩
  · exact ⟨wfB_one (wfS_leaf ⟨by decide +kernel, hw, rfl⟩), by simp [stQ]⟩
theorem stQ_nb {s : Nat} (h0 : s ≠ 0) (h6 : s < 6) (w : Str) : nbB (stQ s w) = if s = 4 then 1 else 0 := by
  have h : s = 1 ∨ s = 2 ∨ s = 3 ∨ s = 4 ∨ s = 5 := by omega
  rcases h with rfl | rfl | rfl | rfl | rfl <;> simp [stQ, nbB, nbS, nbP, isBk]
theorem stQ_rows {s : Nat} (h0 : s ≠ 0) (h6 : s < 6) {w : Str} (hw : IsWord w) : (rowsB 1 (stQ s w)).length = (if s = 4 then 2 else 1) ∧ ∀ r ∈ rowsB 1 (stQ s w), (lineR r).length ≤ 52 := by
  have f2 : ∀ {k nm : Str}, k.length ≤ 5 → nm.length ≤ 8 → (lineS 1 [k, nm]).length ≤ 52 := fun {k nm} hk h => by
    refine line52 (by omega) (by simp) ?_
    rw [sum2]; simp; omega
  have lw := hw.len.2
  have h : s = 1 ∨ s = 2 ∨ s = 3 ∨ s = 4 ∨ s = 5 := by omega
  rcases h with rfl | rfl | rfl | rfl | rfl
  · have e : rowsB 1 (stQ 1 w) = [some (1, [Str.ofString "write", Str.ofString "same"])] := rfl
    rw [e]
    exact ⟨rfl, fun r hr => by rw [List.mem_singleton.mp hr]; exact f2 (by decide +kernel) (by decide +kernel)⟩
  · have e : rowsB 1 (stQ 2 w) = [some (1, [Str.ofString "write", w])] := rfl
    rw [e]
    exact ⟨rfl, fun r hr => by rw [List.mem_singleton.mp hr]; exact f2 (by decide +kernel) lw⟩
  · have e : rowsB 1 (stQ 3 w) = [some (1, [Str.ofString "raise", w])] := rfl
    rw [e]
    exact ⟨rfl, fun r hr => by rw [List.mem_singleton.mp hr]; exact f2 (by decide +kernel) lw⟩
  · have e : rowsB 1 (stQ 4 w) = [some (1, [Str.ofString "block", Str.ofString "join"]), some (2, [Str.ofString "doom"])] := rfl
    rw [e]
    refine ⟨rfl, fun r hr => ?_⟩
    rcases List.mem_cons.mp hr with rfl | hr
    · exact f2 (by decide +kernel) (by decide +kernel)
    · rw [List.mem_singleton.mp hr]
      show (lineS 2 [Str.ofString "doom"]).length ≤ 52
      decide +kernel
  · have e : rowsB 1 (stQ 5 w) = [some (1, [Str.ofString "call", w])] := rfl
    rw [e]
    exact ⟨rfl, fun r hr => by rw [List.mem_singleton.mp hr]; exact f2 (by decide +kernel) lw⟩
theorem fun52 {nm : Str} (h : IsWord nm) : (lineS 0 [Str.ofString "function", nm]).length ≤ 52 := by
  have := h.len
  refine line52 (by omega) (by simp) ?_
  rw [sum2, show (Str.ofString "function").length = 8 by decide +kernel]; simp; omega
theorem srt_one {s : Nat} {name : Str} {ws : List Str} (h6 : s < 6) (hn : IsWord name) (hw : ∀ w ∈ ws, IsWord w) (nd : ws.Nodup) (ne : ws ≠ []) (cl : s = 5 → name ∉ ws) : SrtG s ws (gsK name s ws) := by
  by_cases h0 : s = 0
  · subst h0
    have e : gsK name 0 ws = ws.map pasK := if_pos rfl
    rw [e]
    have en : (ws.map pasK).map (·.1) = ws := by rw [List.map_map]; exact List.map_id ws
    refine ⟨fun g hg => ?_, by rw [en]; exact nd, fun e => ne (List.map_eq_nil_iff.mp e), ?_, ?_, ?_, ?_, fun r hr => ?_, fun h => absurd h (by omega)⟩
    · obtain ⟨w, hm, rfl⟩ := List.mem_map.mp hg
      exact ⟨hw w hm, by simp [pasK], wfB_one (wfS_leaf ⟨by decide +kernel, rfl⟩)⟩
    · unfold allT
      rw [List.map_map]; rfl
    · rw [List.map_map]
      show (ws.map fun _ => 0).sum = 0
      clear e en nd ne cl hw
      induction ws with
      | nil => rfl
      | cons x t ih => rw [List.map_cons, List.sum_cons, ih]
    · show (ws.map pasK).length = ws.length
      exact List.length_map ..
    · show (rowsF (ws.map pasK)).length ≤ (ws.map pasK).length + 1 * ws.length
      rw [List.length_map]
      clear e en nd ne cl hw
      induction ws with
      | nil => exact Nat.le_refl _
      | cons x t ih =>
        have e : rowsF ((x :: t).map pasK) = [some (0, [("function" : Str), x]), some (1, [("pass" : Str)])] ++ rowsF (t.map pasK) := rfl
        rw [e, List.length_append]
        show 2 + (rowsF (t.map pasK)).length ≤ (t.length + 1) + 1 * (t.length + 1)
        omega
    · obtain ⟨l, hl, hr⟩ := List.mem_flatten.mp hr
      obtain ⟨g, hg, rfl⟩ := List.mem_map.mp hl
      obtain ⟨x, hx, rfl⟩ := List.mem_map.mp hg
      rcases List.mem_cons.mp hr with rfl | hr
      · exact fun52 (hw x hx)
      · have hr : r ∈ [(some (1, [("pass" : Str)]) : Row)] := hr
        rw [List.mem_singleton.mp hr]
        show (lineS 1 [Str.ofString "pass"]).length ≤ 52
        decide +kernel
  · have e : gsK name s ws = [(name, (ws.map (stQ s)).flatten)] := if_neg h0
    have er := gsK_rows name h0 ws
    rw [e] at er ⊢
    have wf : wfB 1 (ws.map (stQ s)).flatten := by
      clear e er nd ne cl
      induction ws with
      | nil => rw [List.map_nil, List.flatten_nil, wfB]; trivial
      | cons x t ih =>
        rw [List.map_cons, List.flatten_cons]
        exact wfB_app (stQ_wf h0 h6 (hw x List.mem_cons_self)).1 (ih fun w h => hw w (List.mem_cons_of_mem _ h))
    refine ⟨fun g hg => ?_, List.nodup_cons.mpr ⟨by simp, List.nodup_nil⟩, by simp, ?_, ?_, ?_, ?_, fun r hr => ?_, fun h w hm hc => ?_⟩
    · rw [List.mem_singleton.mp hg]
      refine ⟨hn, fun z => ?_, wf⟩
      cases ws with
      | nil => exact ne rfl
      | cons x t =>
        have z : (stQ s x ++ (t.map (stQ s)).flatten) = [] := z
        exact (stQ_wf h0 h6 (hw x List.mem_cons_self)).2 (List.append_eq_nil_iff.mp z).1
    · show (allB (ws.map (stQ s)).flatten ++ []) = _
      rw [List.append_nil]
      clear e er wf nd ne cl hw
      induction ws with
      | nil => rw [List.map_nil, List.flatten_nil, allB]; rfl
      | cons x t ih =>
        rw [List.map_cons, List.flatten_cons, allB_app, ih]
        show _ = alQ s x ++ _
        unfold alQ
        rw [if_neg h0]
    · show nbB (ws.map (stQ s)).flatten + 0 = _
      clear e er wf nd ne cl hw
      have key : nbB (ws.map (stQ s)).flatten = (if s = 4 then 1 else 0) * ws.length := by
        induction ws with
        | nil => rw [List.map_nil, List.flatten_nil, nbB]; rfl
        | cons x t ih => rw [List.map_cons, List.flatten_cons, nbB_app, ih, stQ_nb h0 h6, List.length_cons, Nat.mul_succ]; omega
      rw [key]
      split <;> omega
    · rw [if_neg h0]
      exact Nat.le_succ 1
    · rw [er]
      show (rowsB 1 (ws.map (stQ s)).flatten).length + 1 ≤ 1 + _
      have key : (rowsB 1 (ws.map (stQ s)).flatten).length = (if s = 4 then 2 else 1) * ws.length := by
        clear e er wf nd ne cl
        induction ws with
        | nil => rw [List.map_nil, List.flatten_nil, rowsB]; rfl
        | cons x t ih =>
          rw [List.map_cons, List.flatten_cons, rowsB_snoc, List.length_append, (stQ_rows h0 h6 (hw x List.mem_cons_self)).1, ih fun w h => hw w (List.mem_cons_of_mem _ h), List.length_cons, Nat.mul_succ]
          omega
      rw [key]
      omega
    · rw [er] at hr
      rcases List.mem_cons.mp hr with rfl | hr
      · exact fun52 hn
      · have key : ∀ l : List Str, (∀ w ∈ l, IsWord w) → ∀ r ∈ rowsB 1 (l.map (stQ s)).flatten, (lineR r).length ≤ 52 := by
          intro l
          induction l with
          | nil => intro _ r hr; rw [List.map_nil, List.flatten_nil, rowsB] at hr; cases hr
          | cons x t ih =>
            intro hw r hr
            rw [List.map_cons, List.flatten_cons, rowsB_snoc] at hr
            rcases List.mem_append.mp hr with hr | hr
            · exact (stQ_rows h0 h6 (hw x List.mem_cons_self)).2 r hr
            · exact ih (fun w h => hw w (List.mem_cons_of_mem _ h)) r hr
        exact key ws hw r hr
    · have hc : w ∈ [name] := hc
      rw [List.mem_singleton.mp hc] at hm
      exact cl h hm
theorem srt_app {s : Nat} {a b : List Str} {g1 g2 : List FT} (A : SrtG s a g1) (B : SrtG s b g2) (dj : ∀ x ∈ g1.map (·.1), x ∉ g2.map (·.1)) (l : s ≠ 0 → g1.length = 1 ∧ g2.length = 1) (c1 : s = 5 → ∀ w ∈ a, w ∉ g2.map (·.1)) (c2 : s = 5 → ∀ w ∈ b, w ∉ g1.map (·.1)) : SrtG s (a ++ b) (g1 ++ g2) := by
  refine ⟨fun g hg => ?_, ?_, fun e => A.ne (List.append_eq_nil_iff.mp e).1, ?_, ?_, ?_, ?_, fun r hr => ?_, fun h w hm hc => ?_⟩
  · rcases List.mem_append.mp hg with hg | hg
    · exact A.ok g hg
    · exact B.ok g hg
  · rw [List.map_append]
    exact List.nodup_append.mpr ⟨A.nd, B.nd, fun x hx y hy e => dj x hx (e ▸ hy)⟩
  · rw [allT_app, A.al, B.al, List.map_append, List.flatten_append]
  · rw [List.map_append, List.sum_append, A.nb, B.nb, List.length_append]
    split <;> omega
  · have hA := A.ln
    have hB := B.ln
    rw [List.length_append, List.length_append]
    by_cases h0 : s = 0
    · rw [if_pos h0] at hA hB ⊢
      omega
    · rw [if_neg h0]
      obtain ⟨e1, e2⟩ := l h0
      omega
  · rw [rowsF_app, List.length_append, List.length_append, List.length_append, Nat.mul_add]
    have := A.lr
    have := B.lr
    omega
  · rw [rowsF_app] at hr
    rcases List.mem_append.mp hr with hr | hr
    · exact A.l52 r hr
    · exact B.l52 r hr
  · rw [List.map_append] at hc
    rcases List.mem_append.mp hm with hm | hm <;> rcases List.mem_append.mp hc with hc | hc
    · exact A.cl h w hm hc
    · exact c1 h w hm hc
    · exact c2 h w hm hc
    · exact B.cl h w hm hc
/-! the words -/
def tbQ (r : Nat) : Nat := if r < 4 then 111 + r else 113 + r
def wdQ (stem : Str) (k : Nat) : Str := stem ++ ⟨#[97 + k / 9]⟩ ++ ⟨#[tbQ (k % 9)]⟩
structure IsStem (m : Nat) (z : Str) : Prop where
  hi : z.length ≤ m
  al : ∀ c ∈ cps z, 97 ≤ c ∧ c ≤ 122
theorem wdQ_cps (stem : Str) (k : Nat) : cps (wdQ stem k) = cps stem ++ [97 + k / 9, tbQ (k % 9)] := by
  unfold wdQ
  rw [cps_app, cps_app]
  show cps stem ++ [97 + k / 9] ++ [tbQ (k % 9)] = _
  rw [List.append_assoc]; rfl
theorem tbQ_lt {r : Nat} (h : r < 9) : 97 ≤ tbQ r ∧ tbQ r ≤ 122 := by unfold tbQ; split <;> omega
theorem wdQ_word {stem : Str} {k : Nat} (S : IsStem 5 stem) (h : k < 90) : IsWord (wdQ stem k) := by
  have hl := S.hi
  have r9 := tbQ_lt (Nat.mod_lt k (by omega : 0 < 9))
  refine isW ?_ ?_ fun c hc => ?_
  · rw [← cps_len, wdQ_cps, List.length_append]
    show 1 ≤ _ + 2
    omega
  · rw [← cps_len, wdQ_cps, List.length_append, cps_len]
    show _ + 2 ≤ 8
    omega
  · rw [wdQ_cps] at hc
    rcases List.mem_append.mp hc with hc | hc
    · exact S.al c hc
    · rcases List.mem_cons.mp hc with rfl | hc
      · omega
      · rw [List.mem_singleton.mp hc]; exact r9
theorem wdQ_inj {stem : Str} {k j : Nat} (e : wdQ stem k = wdQ stem j) : k = j := by
  have h := congrArg cps e
  rw [wdQ_cps, wdQ_cps] at h
  have h := List.append_cancel_left h
  injection h with h1 h2
  injection h2 with h2 _
  have a := Nat.mod_lt k (by omega : 0 < 9)
  have b := Nat.mod_lt j (by omega : 0 < 9)
  have : k % 9 = j % 9 := by
    unfold tbQ at h2
    split at h2 <;> split at h2 <;> omega
  omega
def wsQ (stem : Str) (n : Nat) : List Str := (List.range n).map (wdQ stem)
theorem wsQ_nd (stem : Str) (n : Nat) : (wsQ stem n).Nodup := by
  unfold wsQ
  exact List.pairwise_map.mpr (List.Pairwise.imp (fun h e => h (wdQ_inj e)) List.nodup_range)
/-! ### k26: the ring, plain -/
def lnQ (g : Bool) (x : Str) : List Stm := if g = true then [.mk (.gua "maybe") [[.mk (.one "call" x) []]]] else [.mk (.one "call" x) []]
def gR (ps : List (Str × Bool × Str)) : List FT := ps.map fun p => (p.1, lnQ p.2.1 p.2.2)
theorem lnQ_all (g : Bool) (x : Str) : allB (lnQ g x) = if g = true then [.mk (.gua "maybe") [[.mk (.one "call" x) []]], .mk (.one "call" x) []] else [.mk (.one "call" x) []] := by cases g <;> rfl
theorem lnQ_call (g : Bool) (x : Str) : (allB (lnQ g x)).filterMap (nameOf "call") = [x] := by cases g <;> rfl
theorem lnQ_write (g : Bool) (x : Str) : (allB (lnQ g x)).filterMap (nameOf "write") = [] := by
  refine List.filterMap_eq_nil_iff.mpr fun s hs => ?_
  rw [lnQ_all] at hs
  cases g
  · have hs : s ∈ [Stm.mk (.one "call" x) []] := hs
    rw [List.mem_singleton.mp hs]
    exact nW cw_ne _ _
  · have hs : s ∈ [Stm.mk (.gua "maybe") [[.mk (.one "call" x) []]], .mk (.one "call" x) []] := hs
    rcases List.mem_cons.mp hs with rfl | hs
    · rfl
    · rw [List.mem_singleton.mp hs]
      exact nW cw_ne _ _
theorem lnQ_wd (g : Bool) (x : Str) : ((allB (lnQ g x)).map fun s => wordsH s.hd) = List.replicate (allB (lnQ g x)).length [] := by
  have w5 : wordsH (.one "call" x) = [] := by
    show (if (Str.ofString "call") = Str.ofString "raise" then [x] else []) = []
    rw [if_neg cr_ne]
  rw [lnQ_all]
  cases g
  · show [wordsH (.one "call" x)] = [[]]
    rw [w5]
  · show [wordsH (.gua "maybe"), wordsH (.one "call" x)] = [[], []]
    rw [w5]; rfl
theorem lnQ_len (g : Bool) (x : Str) : (allB (lnQ g x)).length ≤ 2 := by cases g; exact Nat.le_succ 1; exact Nat.le_refl 2
theorem lnQ_nb (g : Bool) (x : Str) : nbB (lnQ g x) = 0 := by cases g <;> rfl
theorem lnQ_free (g : Bool) (x : Str) : freeB (lnQ g x) = if g = true then [.mk (.gua "maybe") [[.mk (.one "call" x) []]]] else [.mk (.one "call" x) []] := by cases g <;> rfl
theorem lnQ_callsN (ns : List Str) (g : Bool) (x : Str) : callsN ns (lnQ g x) = if g = true then [] else if x ∈ ns then [x] else [] := by
  unfold callsN
  rw [lnQ_free]
  cases g
  · show [Stm.mk (.one "call" x) []].filterMap (calleeN ns) = if x ∈ ns then [x] else []
    by_cases h : x ∈ ns
    · have h1 : calleeN ns (.mk (.one "call" x) []) = some x := by
        show (if ("call" : Str) = "call" ∧ x ∈ ns then some x else none) = some x
        rw [if_pos ⟨rfl, h⟩]
      rw [if_pos h, List.filterMap_cons, h1]; rfl
    · have h1 : calleeN ns (.mk (.one "call" x) []) = none := by
        show (if ("call" : Str) = "call" ∧ x ∈ ns then some x else none) = none
        rw [if_neg fun e => h e.2]
      rw [if_neg h, List.filterMap_cons, h1]; rfl
  · rfl
theorem lnQ_wf {g : Bool} {x : Str} (h : IsWord x) : wfB 1 (lnQ g x) := by
  cases g
  · exact wfB_one (wfS_leaf ⟨by decide +kernel, h, rfl⟩)
  · exact wfB_one (wfS_1 ⟨by decide +kernel, rfl, by omega⟩ (wfB_one (wfS_leaf ⟨by decide +kernel, h, rfl⟩)) (by simp))
theorem lnQ_rows (g : Bool) (x : Str) : rowsB 1 (lnQ g x) = if g = true then [some (1, [Str.ofString "maybe"]), some (2, [Str.ofString "call", x])] else [some (1, [Str.ofString "call", x])] := by cases g <;> rfl
theorem lnQ_52 {g : Bool} {x : Str} (h : IsWord x) : ∀ r ∈ rowsB 1 (lnQ g x), (lineR r).length ≤ 52 := by
  have hx := h.len.2
  have f : ∀ n : Nat, n ≤ 8 → (lineR (some (n, [Str.ofString "call", x]))).length ≤ 52 := fun n hn => by
    refine line52 hn (by simp) ?_
    rw [sum2, show (Str.ofString "call").length = 4 by decide +kernel]; simp; omega
  intro r hr
  rw [lnQ_rows] at hr
  cases g
  · have hr : r ∈ [(some (1, [Str.ofString "call", x]) : Row)] := hr
    rw [List.mem_singleton.mp hr]
    exact f 1 (by omega)
  · have hr : r ∈ [(some (1, [Str.ofString "maybe"]) : Row), some (2, [Str.ofString "call", x])] := hr
    rcases List.mem_cons.mp hr with rfl | hr
    · show (lineS 1 [Str.ofString "maybe"]).length ≤ 52
      decide +kernel
    · rw [List.mem_singleton.mp hr]
      exact f 2 (by omega)
section
variable {ps : List (Str × Bool × Str)}
theorem gR_names : (gR ps).map (·.1) = ps.map (·.1) := by unfold gR; rw [List.map_map]; rfl
theorem gR_app (a b : List (Str × Bool × Str)) : gR a ++ gR b = gR (a ++ b) := by unfold gR; rw [List.map_append]
theorem gR_all : allT (gR ps) = (ps.map fun p => allB (lnQ p.2.1 p.2.2)).flatten := by unfold allT gR; rw [List.map_map]; rfl
theorem gR_cal : ∀ ps : List (Str × Bool × Str), (allT (gR ps)).filterMap (nameOf "call") = ps.map (·.2.2)
  | [] => rfl
  | p :: t => by
    have ih := gR_cal t
    rw [gR_all] at ih ⊢
    rw [List.map_cons, List.flatten_cons, List.filterMap_append, lnQ_call, ih]; rfl
theorem gR_rec : ∀ ps : List (Str × Bool × Str), recT (gR ps) = []
  | [] => rfl
  | p :: t => by
    have ih := gR_rec t
    unfold recT at ih ⊢
    rw [gR_all] at ih ⊢
    rw [List.map_cons, List.flatten_cons, List.filterMap_append, lnQ_write, ih]; rfl
theorem gR_err : errT (gR ps) = dbQ := by
  unfold errT
  have : (((allT (gR ps)).map fun s => wordsH s.hd).flatten) = [] := by
    refine List.flatten_eq_nil_iff.mpr fun l hl => ?_
    obtain ⟨s, hs, rfl⟩ := List.mem_map.mp hl
    rw [gR_all] at hs
    obtain ⟨l, hl, hs⟩ := List.mem_flatten.mp hs
    obtain ⟨p, _, rfl⟩ := List.mem_map.mp hl
    have : wordsH s.hd ∈ ((allB (lnQ p.2.1 p.2.2)).map fun s => wordsH s.hd) := List.mem_map.mpr ⟨s, hs, rfl⟩
    rw [lnQ_wd] at this
    exact (List.mem_replicate.mp this).2
  rw [this, List.append_nil]; rfl
theorem gR_len2 : ∀ ps : List (Str × Bool × Str), (allT (gR ps)).length ≤ 2 * ps.length
  | [] => Nat.le_refl _
  | p :: t => by
    have ih := gR_len2 t
    rw [gR_all] at ih ⊢
    rw [List.map_cons, List.flatten_cons, List.length_append, List.length_cons]
    have := lnQ_len p.2.1 p.2.2
    omega
theorem gR_nb : ∀ ps : List (Str × Bool × Str), ((gR ps).map fun g => nbB g.2).sum = 0
  | [] => rfl
  | p :: t => by
    have ih := gR_nb t
    show nbB (lnQ p.2.1 p.2.2) + ((gR t).map fun g => nbB g.2).sum = 0
    rw [lnQ_nb, ih]
theorem gR_lr : ∀ ps : List (Str × Bool × Str), (rowsF (gR ps)).length ≤ 3 * ps.length
  | [] => Nat.le_refl _
  | p :: t => by
    have ih := gR_lr t
    have e : rowsF (gR (p :: t)) = (some (0, [("function" : Str), p.1]) :: rowsB 1 (lnQ p.2.1 p.2.2)) ++ rowsF (gR t) := rfl
    have h2 : (rowsB 1 (lnQ p.2.1 p.2.2)).length ≤ 2 := by rw [lnQ_rows]; cases p.2.1; exact Nat.le_succ 1; exact Nat.le_refl 2
    rw [e, List.length_append, List.length_cons, List.length_cons]
    omega
theorem gR_52 (w : ∀ p ∈ ps, IsWord p.1 ∧ IsWord p.2.2) : ∀ r ∈ rowsF (gR ps), (lineR r).length ≤ 52 := fun r hr => by
  obtain ⟨l, hl, hr⟩ := List.mem_flatten.mp hr
  obtain ⟨g, hg, rfl⟩ := List.mem_map.mp hl
  obtain ⟨p, hp, rfl⟩ := List.mem_map.mp hg
  rcases List.mem_cons.mp hr with rfl | hr
  · exact fun52 (w p hp).1
  · exact lnQ_52 (w p hp).2 r hr
theorem gR_ok (w : ∀ p ∈ ps, IsWord p.1 ∧ IsWord p.2.2) : ∀ g ∈ gR ps, FTOk g := fun g hg => by
  obtain ⟨p, hp, rfl⟩ := List.mem_map.mp hg
  exact ⟨(w p hp).1, by show lnQ _ _ ≠ []; cases p.2.1 <;> simp [lnQ], lnQ_wf (w p hp).2⟩
theorem gR_ne (h : ps ≠ []) : gR ps ≠ [] := fun e => h (List.map_eq_nil_iff.mp e)
theorem gR_len : (gR ps).length = ps.length := List.length_map ..
theorem gR_rd (l : ps.length ≤ 3) (ne : ps ≠ []) (nd : (ps.map (·.1)).Nodup) (w : ∀ p ∈ ps, IsWord p.1 ∧ IsWord p.2.2) : ReadG (gR ps) :=
  ⟨gR_ok w, by rw [gR_names]; exact nd, gR_ne ne, by have := gR_lr ps; omega, gR_52 w⟩
theorem gR_bound (l : ps.length ≤ 3) : boundV (funsF 0 0 (gR ps)) (mksF 0 (gR ps)) = none := by
  rw [boundV_T]
  refine cnt_none ?_ ?_ ?_ ?_ ?_ ?_
  · rw [gR_len]; omega
  · have := gR_len2 ps; omega
  · rw [gR_rec]; exact by decide
  · rw [gR_err]; exact Nat.le_trans setT_len (by decide)
  · rw [gR_nb]; exact Nat.zero_le _
  · refine Nat.le_trans setT_len ?_
    unfold unkT
    refine Nat.le_trans (List.length_filter_le ..) ?_
    rw [gR_cal, List.length_map]; omega
theorem gR_fine {r : Str → Nat} (l : ps.length ≤ 3) (ne : ps ≠ []) (nd : (ps.map (·.1)).Nodup) (w : ∀ p ∈ ps, IsWord p.1 ∧ IsWord p.2.2) (rk : ∀ x, r x ≤ 12) (ac : ∀ p ∈ ps, p.2.1 = false → p.2.2 ∈ ps.map (·.1) → r p.2.2 < r p.1) : FineG (gR ps) r := by
  have R := gR_rd l ne nd w
  refine ⟨R.ok, R.nd, R.ne, by rw [gR_len]; omega, by have := gR_len2 ps; omega, by rw [gR_rec]; exact by decide, by rw [gR_err]; exact Nat.le_trans setT_len (by decide), by rw [gR_nb]; exact Nat.zero_le _, ?_, fun g hg => ?_, fun g hg => ?_, fun g hg => ?_, rk, R.lr, R.l52⟩
  · refine Nat.le_trans setT_len ?_
    unfold unkT
    refine Nat.le_trans (List.length_filter_le ..) ?_
    rw [gR_cal, List.length_map]; omega
  · obtain ⟨p, hp, rfl⟩ := List.mem_map.mp hg
    have := lnQ_len p.2.1 p.2.2
    show (allB (lnQ p.2.1 p.2.2)).length ≤ 19
    omega
  · obtain ⟨p, hp, rfl⟩ := List.mem_map.mp hg
    have := lnQ_len p.2.1 p.2.2
    exact Nat.le_trans (List.length_filterMap_le ..) (by show (allB (lnQ p.2.1 p.2.2)).length ≤ 4; omega)
  · obtain ⟨p, hp, rfl⟩ := List.mem_map.mp hg
    show callsN _ (lnQ p.2.1 p.2.2) = [] ∨ ∃ y, callsN _ (lnQ p.2.1 p.2.2) = [y] ∧ (freeB (lnQ p.2.1 p.2.2)).length ≤ 2 ∧ r y < r p.1
    rw [lnQ_callsN, lnQ_free, gR_names]
    cases e : p.2.1 with
    | true => exact .inl rfl
    | false =>
      by_cases h : p.2.2 ∈ ps.map (·.1)
      · exact .inr ⟨p.2.2, by rw [if_neg (by simp), if_pos h], Nat.le_succ 1, ac p hp e h⟩
      · exact .inl (by rw [if_neg h]; rfl)
/-- what is called by x -/
theorem gR_callOf (nd : (ps.map (·.1)).Nodup) {p : Str × Bool × Str} (hp : p ∈ ps) (hc : p.2.2 ∈ ps.map (·.1)) : callOf (callsT (gR ps)) p.1 = if p.2.1 = true then [] else [p.2.2] := by
  have key : ∀ (l : List (Str × Bool × Str)) (ns : List Str), (l.map (·.1)).Nodup → p ∈ l → ((((gR l).map fun g => (g.1, callsN ns g.2)).find? fun q => decide (q.1 = p.1)).map (·.2)).getD [] = callsN ns (lnQ p.2.1 p.2.2) := by
    intro l ns
    induction l with
    | nil => intro _ h; cases h
    | cons q t ih =>
      intro nd hm
      rw [List.map_cons, List.nodup_cons] at nd
      show ((((q.1, callsN ns (lnQ q.2.1 q.2.2)) :: (gR t).map fun g => (g.1, callsN ns g.2)).find? fun q => decide (q.1 = p.1)).map (·.2)).getD [] = _
      rw [List.find?_cons]
      rcases List.mem_cons.mp hm with rfl | hm
      · simp
      · have : q.1 ≠ p.1 := fun e => nd.1 (e ▸ List.mem_map.mpr ⟨p, hm, rfl⟩)
        simp only [this, decide_false]
        exact ih nd.2 hm
  have := key ps ((gR ps).map (·.1)) nd hp
  unfold callOf callsT
  rw [this, lnQ_callsN, gR_names, if_pos hc]
theorem gR_unk (cl : ∀ p ∈ ps, p.2.2 ∈ ps.map (·.1)) : unkT (gR ps) = [] := by
  unfold unkT
  rw [gR_cal, gR_names]
  refine List.filter_eq_nil_iff.mpr fun x hx => ?_
  obtain ⟨p, hp, rfl⟩ := List.mem_map.mp hx
  simp only [cl p hp, decide_true]
  decide
end
/-! the three names -/
structure Ring (n0 n1 n2 : Str) : Prop where
  w0 : IsWord n0
  w1 : IsWord n1
  w2 : IsWord n2
  d01 : n0 ≠ n1
  d02 : n0 ≠ n2
  d12 : n1 ≠ n2
theorem ring_of {stem : Str} (S : IsStem 6 stem) : Ring (stem ++ Str.ofString "o") (Str.ofString "p" ++ stem) (Str.ofString "q" ++ stem) := by
  have hl := S.hi
  have eo : cps (stem ++ Str.ofString "o") = cps stem ++ [111] := by rw [cps_app]; rfl
  have ep : cps (Str.ofString "p" ++ stem) = 112 :: cps stem := by rw [cps_app]; rfl
  have eq : cps (Str.ofString "q" ++ stem) = 113 :: cps stem := by rw [cps_app]; rfl
  have wd : ∀ {z : Str}, (cps z).length = (cps stem).length + 1 → (∀ c ∈ cps z, 97 ≤ c ∧ c ≤ 122) → IsWord z := fun {z} h1 h2 => by
    rw [cps_len, cps_len] at h1
    exact isW (by omega) (by omega) h2
  have ct : ∀ {x : Nat}, x ≠ 111 → cps stem ++ [111] ≠ x :: cps stem := fun {x} hx e => by
    have := congrArg (List.count 111) e
    rw [List.count_append] at this
    have h2 : List.count 111 (x :: cps stem) = List.count 111 (cps stem) := List.count_cons_of_ne hx
    rw [h2] at this
    simp at this
  refine ⟨wd (by rw [eo]; simp) ?_, wd (by rw [ep]; rfl) ?_, wd (by rw [eq]; rfl) ?_, fun e => ?_, fun e => ?_, fun e => ?_⟩
  · intro c hc
    rw [eo] at hc
    rcases List.mem_append.mp hc with hc | hc
    · exact S.al c hc
    · rw [List.mem_singleton.mp hc]; decide
  · intro c hc
    rw [ep] at hc
    rcases List.mem_cons.mp hc with rfl | hc
    · decide
    · exact S.al c hc
  · intro c hc
    rw [eq] at hc
    rcases List.mem_cons.mp hc with rfl | hc
    · decide
    · exact S.al c hc
  · have e := congrArg cps e
    rw [eo, ep] at e
    exact ct (by decide) e
  · have e := congrArg cps e
    rw [eo, eq] at e
    exact ct (by decide) e
  · have e := congrArg cps e
    rw [ep, eq] at e
    injection e with e _
    cases e
section
variable {n0 n1 n2 x : Str} {g0 g1 : Bool}
def psA (n0 x : Str) (g0 : Bool) : List (Str × Bool × Str) := [(n0, g0, x)]
def psB (n0 n1 n2 : Str) (g1 : Bool) : List (Str × Bool × Str) := [(n2, false, n1), (n1, g1, n0)]
theorem Ring.rdA (R : Ring n0 n1 n2) (hx : x = n1 ∨ x = n2) : FineG (gR (psA n0 x g0)) fun _ => 0 := by
  refine gR_fine (by show 1 ≤ 3; omega) (by simp [psA]) (by simp [psA]) (fun p hp => ?_) (fun _ => Nat.zero_le _) (fun p hp _ hm => ?_)
  · rw [List.mem_singleton.mp hp]
    exact ⟨R.w0, by rcases hx with rfl | rfl <;> first | exact R.w1 | exact R.w2⟩
  · rw [List.mem_singleton.mp hp] at hm
    have hm : x ∈ [n0] := hm
    rw [List.mem_singleton] at hm
    rcases hx with h | h
    · exact absurd (hm.symm.trans h) R.d01
    · exact absurd (hm.symm.trans h) R.d02
theorem Ring.rdB (R : Ring n0 n1 n2) : FineG (gR (psB n0 n1 n2 g1)) fun z => if z = n2 then 1 else 0 := by
  refine gR_fine (by show 2 ≤ 3; omega) (by simp [psB]) ?_ (fun p hp => ?_) (fun _ => by split <;> omega) (fun p hp hf hm => ?_)
  · show [n2, n1].Nodup
    simp [Ne.symm R.d12]
  · rcases List.mem_cons.mp hp with rfl | hp
    · exact ⟨R.w2, R.w1⟩
    · rw [List.mem_singleton.mp hp]
      exact ⟨R.w1, R.w0⟩
  · rcases List.mem_cons.mp hp with rfl | hp
    · show (if n1 = n2 then 1 else 0) < if n2 = n2 then 1 else 0
      rw [if_neg R.d12, if_pos rfl]; omega
    · rw [List.mem_singleton.mp hp] at hm
      have hm : n0 ∈ [n2, n1] := hm
      simp [R.d01, R.d02] at hm
/-- both lists joined, in either order -/
def psJ (t : Bool) (n0 n1 n2 x : Str) (g0 g1 : Bool) : List (Str × Bool × Str) := if t = true then psB n0 n1 n2 g1 ++ psA n0 x g0 else psA n0 x g0 ++ psB n0 n1 n2 g1
theorem psJ_mem {t : Bool} {p : Str × Bool × Str} : p ∈ psJ t n0 n1 n2 x g0 g1 ↔ p = (n0, g0, x) ∨ p = (n2, false, n1) ∨ p = (n1, g1, n0) := by
  unfold psJ psA psB
  cases t <;> simp
  constructor
  · rintro (h | h | h) <;> simp [h]
  · rintro (h | h | h) <;> simp [h]
theorem psJ_names (t : Bool) : (psJ t n0 n1 n2 x g0 g1).map (·.1) = if t = true then [n2, n1, n0] else [n0, n2, n1] := by cases t <;> rfl
theorem Ring.nd (R : Ring n0 n1 n2) (t : Bool) : ((psJ t n0 n1 n2 x g0 g1).map (·.1)).Nodup := by
  rw [psJ_names]
  cases t
  · show [n0, n2, n1].Nodup
    simp [R.d01, R.d02, Ne.symm R.d12]
  · show [n2, n1, n0].Nodup
    simp [Ne.symm R.d01, Ne.symm R.d02, Ne.symm R.d12]
theorem psJ_in {t : Bool} {y : Str} : y ∈ (psJ t n0 n1 n2 x g0 g1).map (·.1) ↔ y = n0 ∨ y = n1 ∨ y = n2 := by
  rw [psJ_names]
  cases t <;> simp
  · constructor <;> (rintro (h | h | h) <;> simp [h])
  · constructor <;> (rintro (h | h | h) <;> simp [h])
theorem psJ_len (t : Bool) : (psJ t n0 n1 n2 x g0 g1).length = 3 := by cases t <;> rfl
theorem psJ_ne (t : Bool) : psJ t n0 n1 n2 x g0 g1 ≠ [] := fun e => by have := psJ_len (n0 := n0) (n1 := n1) (n2 := n2) (x := x) (g0 := g0) (g1 := g1) t; rw [e] at this; cases this
theorem Ring.wJ (R : Ring n0 n1 n2) (hx : x = n1 ∨ x = n2) (t : Bool) : ∀ p ∈ psJ t n0 n1 n2 x g0 g1, IsWord p.1 ∧ IsWord p.2.2 := fun p hp => by
  rcases psJ_mem.mp hp with rfl | rfl | rfl
  · exact ⟨R.w0, by rcases hx with rfl | rfl <;> first | exact R.w1 | exact R.w2⟩
  · exact ⟨R.w2, R.w1⟩
  · exact ⟨R.w1, R.w0⟩
theorem Ring.rdJ (R : Ring n0 n1 n2) (hx : x = n1 ∨ x = n2) (t : Bool) : ReadG (gR (psJ t n0 n1 n2 x g0 g1)) :=
  gR_rd (by rw [psJ_len]; omega) (psJ_ne t) (R.nd t) (R.wJ hx t)
theorem psJ_cl (hx : x = n1 ∨ x = n2) (t : Bool) : ∀ p ∈ psJ t n0 n1 n2 x g0 g1, p.2.2 ∈ (psJ t n0 n1 n2 x g0 g1).map (·.1) := fun p hp => by
  rw [psJ_in]
  rcases psJ_mem.mp hp with rfl | rfl | rfl
  · rcases hx with rfl | rfl
    · exact .inr (.inl rfl)
    · exact .inr (.inr rfl)
  · exact .inr (.inl rfl)
  · exact .inl rfl
theorem psJ_unk (hx : x = n1 ∨ x = n2) (t : Bool) : unkN (funsF 0 0 (gR (psJ t n0 n1 n2 x g0 g1))) = [] := by
  rw [unkN_T]
  exact gR_unk (psJ_cl hx t)
theorem Ring.fine (R : Ring n0 n1 n2) (hx : x = n1 ∨ x = n2) (t : Bool) (g : g0 = true ∨ g1 = true) : libG (gR (psJ t n0 n1 n2 x g0 g1)) = .ok (funsF 0 0 (gR (psJ t n0 n1 n2 x g0 g1))) (mksF 0 (gR (psJ t n0 n1 n2 x g0 g1))) := by
  have l : (psJ t n0 n1 n2 x g0 g1).length ≤ 3 := by rw [psJ_len]; omega
  rcases g with rfl | rfl
  · refine (gR_fine (r := fun z => if z = n0 then 0 else if z = n1 then 1 else 2) l (psJ_ne t) (R.nd t) (R.wJ hx t) (fun _ => by split; omega; split <;> omega) (fun p hp hf _ => ?_)).libG
    rcases psJ_mem.mp hp with rfl | rfl | rfl
    · cases hf
    · show (if n1 = n0 then 0 else if n1 = n1 then 1 else 2) < if n2 = n0 then 0 else if n2 = n1 then 1 else 2
      rw [if_neg (Ne.symm R.d01), if_pos rfl, if_neg (Ne.symm R.d02), if_neg (Ne.symm R.d12)]; omega
    · show (if n0 = n0 then 0 else if n0 = n1 then 1 else 2) < if n1 = n0 then 0 else if n1 = n1 then 1 else 2
      rw [if_pos rfl, if_neg (Ne.symm R.d01), if_pos rfl]; omega
  · refine (gR_fine (r := fun z => if z = n1 then 0 else if z = n2 then 1 else 2) l (psJ_ne t) (R.nd t) (R.wJ hx t) (fun _ => by split; omega; split <;> omega) (fun p hp hf _ => ?_)).libG
    rcases psJ_mem.mp hp with rfl | rfl | rfl
    · show (if x = n1 then 0 else if x = n2 then 1 else 2) < if n0 = n1 then 0 else if n0 = n2 then 1 else 2
      rw [if_neg R.d01, if_neg R.d02]
      rcases hx with rfl | rfl
      · rw [if_pos rfl]; omega
      · rw [if_neg (Ne.symm R.d12), if_pos rfl]; omega
    · show (if n1 = n1 then 0 else if n1 = n2 then 1 else 2) < if n2 = n1 then 0 else if n2 = n2 then 1 else 2
      rw [if_pos rfl, if_neg (Ne.symm R.d12), if_pos rfl]; omega
    · cases hf
/-- the first that comes back -/
def dueQ (t : Bool) (n0 n1 n2 x : Str) : Str := if t = true then (if x = n2 then n2 else n1) else n0
theorem Ring.loop (R : Ring n0 n1 n2) (hx : x = n1 ∨ x = n2) (t : Bool) : libG (gR (psJ t n0 n1 n2 x false false)) = .loop (dueQ t n0 n1 n2 x) := by
  have l : (psJ t n0 n1 n2 x false false).length ≤ 3 := by rw [psJ_len]; omega
  have nd := R.nd (x := x) (g0 := false) (g1 := false) t
  have cl := psJ_cl (n0 := n0) (g0 := false) (g1 := false) hx t
  have c0 : callOf (callsT (gR (psJ t n0 n1 n2 x false false))) n0 = [x] := gR_callOf nd (p := (n0, false, x)) (psJ_mem.mpr (.inl rfl)) (cl _ (psJ_mem.mpr (.inl rfl)))
  have c2 : callOf (callsT (gR (psJ t n0 n1 n2 x false false))) n2 = [n1] := gR_callOf nd (p := (n2, false, n1)) (psJ_mem.mpr (.inr (.inl rfl))) (cl _ (psJ_mem.mpr (.inr (.inl rfl))))
  have c1 : callOf (callsT (gR (psJ t n0 n1 n2 x false false))) n1 = [n0] := gR_callOf nd (p := (n1, false, n0)) (psJ_mem.mpr (.inr (.inr rfl))) (cl _ (psJ_mem.mpr (.inr (.inr rfl))))
  generalize hcs : callsT (gR (psJ t n0 n1 n2 x false false)) = cs at c0 c1 c2
  have r01 : Rch cs n0 n1 := by
    have h0 : Rch cs n0 x := .one (by rw [c0]; exact List.mem_cons_self)
    rcases hx with e | e
    · rw [e] at h0; exact h0
    · rw [e] at h0
      exact .more h0 (by rw [c2]; exact List.mem_cons_self)
  have r00 : Rch cs n0 n0 := .more r01 (by rw [c1]; exact List.mem_cons_self)
  have r11 : Rch cs n1 n1 := by
    have h1 : Rch cs n1 n0 := .one (by rw [c1]; exact List.mem_cons_self)
    have h2 : Rch cs n1 x := .more h1 (by rw [c0]; exact List.mem_cons_self)
    rcases hx with e | e
    · rw [e] at h2; exact h2
    · rw [e] at h2
      exact .more h2 (by rw [c2]; exact List.mem_cons_self)
  have r22 : x = n2 → Rch cs n2 n2 := fun e => by
    have h1 : Rch cs n2 n1 := .one (by rw [c2]; exact List.mem_cons_self)
    have h2 : Rch cs n2 n0 := .more h1 (by rw [c1]; exact List.mem_cons_self)
    have h3 : Rch cs n2 x := .more h2 (by rw [c0]; exact List.mem_cons_self)
    rw [e] at h3; exact h3
  have n22 : x ≠ n2 → ¬ Rch cs n2 n2 := fun ne h => by
    have e1 : x = n1 := by rcases hx with e | e; exact e; exact absurd e ne
    have inv : ∀ y, Rch cs n2 y → y = n0 ∨ y = n1 := fun y h => by
      induction h with
      | one h => rw [c2, List.mem_singleton] at h; exact .inr h
      | more _ h ih =>
        rcases ih with rfl | rfl
        · rw [c0, List.mem_singleton] at h; exact .inr (h.trans e1)
        · rw [c1, List.mem_singleton] at h; exact .inl h
    rcases inv n2 h with e | e
    · exact R.d02 e.symm
    · exact R.d12 e.symm
  unfold libG
  rw [gR_bound l, loopG (x := dueQ t n0 n1 n2 x) ?_]
  rw [gR_names, psJ_names, hcs]
  unfold dueQ
  cases t
  · show List.find? _ [n0, n2, n1] = some n0
    exact List.find?_cons_of_pos (back_iff.mpr r00)
  · show List.find? _ [n2, n1, n0] = some (if x = n2 then n2 else n1)
    by_cases e : x = n2
    · rw [if_pos e]
      exact List.find?_cons_of_pos (back_iff.mpr (r22 e))
    · rw [if_neg e, List.find?_cons_of_neg (fun h => n22 e (back_iff.mp h))]
      exact List.find?_cons_of_pos (back_iff.mpr r11)
end
/-! ### k26: the bounds, plain -/
theorem cut_stem {w : Str} (hw : IsWord w) (m : Nat) : IsStem m (cutS w none (some (m : Int))) := by
  have e : cps (cutS w none (some (m : Int))) = (cps w).take (min m w.length) := by
    unfold cutS
    rw [HT.sIx_none, HT.sIx_nat]
    show ((cps w).drop 0).take (min m w.length - 0) = _
    rw [List.drop_zero, Nat.sub_zero]
  refine ⟨?_, fun c hc => ?_⟩
  · rw [← cps_len, e, List.length_take]
    omega
  · rw [e] at hc
    have := hw.al c (List.mem_of_mem_take hc)
    omega
theorem ab_at {k : Nat} (h : k < 90) : atI (Str.ofString "abcdefghij").cps.toList (((k / 9 : Nat)) : Int) = some (97 + k / 9) := by
  have : ∀ i, i < 10 → (Str.ofString "abcdefghij").cps.toList[i]? = some (97 + i) := by decide +kernel
  exact atI_nat (this (k / 9) (by omega))
theorem op_at {k : Nat} : atI (Str.ofString "opqruvwxy").cps.toList (((k % 9 : Nat)) : Int) = some (tbQ (k % 9)) := by
  have : ∀ i, i < 9 → (Str.ofString "opqruvwxy").cps.toList[i]? = some (tbQ i) := by decide +kernel
  exact atI_nat (this (k % 9) (Nat.mod_lt k (by omega)))
theorem tbQ_dbQ {r : Nat} (h : r < 9) : tbQ r ≠ 100 ∧ tbQ r ≠ 103 ∧ tbQ r ≠ 116 ∧ tbQ r ≠ 115 := by unfold tbQ; split <;> omega
theorem wdQ_db {stem : Str} {k : Nat} : wdQ stem k ∉ dbQ := fun h => by
  have t := tbQ_dbQ (Nat.mod_lt k (by omega : 0 < 9))
  have key : ∀ z : Str, wdQ stem k = z → (cps z).getLast? = some (tbQ (k % 9)) := fun z e => by
    rw [← e, wdQ_cps]; simp
  have c : ∀ z ∈ dbQ, (cps z).getLast? = some 100 ∨ (cps z).getLast? = some 103 ∨ (cps z).getLast? = some 116 ∨ (cps z).getLast? = some 115 := by decide +kernel
  rcases c _ h with e | e | e | e <;> rw [key _ rfl] at e <;> have e := Option.some.inj e
  · exact t.1 e
  · exact t.2.1 e
  · exact t.2.2.1 e
  · exact t.2.2.2 e
theorem nmQ_word {stem : Str} (S : IsStem 5 stem) {x : Nat} {l : Str} (hl : cps l = [x]) (hx : 97 ≤ x ∧ x ≤ 122) : IsWord (l ++ stem) := by
  have h := S.hi
  refine isW ?_ ?_ fun c hc => ?_
  · rw [← cps_len, cps_app, hl, List.length_append]
    show 1 ≤ 1 + _
    omega
  · rw [← cps_len, cps_app, hl, List.length_append, cps_len]
    show 1 + _ ≤ 8
    omega
  · rw [cps_app, hl] at hc
    rcases List.mem_cons.mp hc with rfl | hc
    · exact hx
    · exact S.al c hc
theorem nmQ_ne {stem l : Str} {x k : Nat} (hl : cps l = [x]) : l ++ stem ≠ wdQ stem k := fun e => by
  have := congrArg (fun z => (cps z).length) e
  simp only [wdQ_cps, cps_app, hl, List.length_append, List.length_cons, List.length_nil] at this
  omega
theorem wsQ_len (stem : Str) (n : Nat) : (wsQ stem n).length = n := by unfold wsQ; rw [List.length_map, List.length_range]
theorem wsQ_mem {stem w : Str} {n : Nat} (h : w ∈ wsQ stem n) : ∃ k, k < n ∧ w = wdQ stem k := by
  obtain ⟨k, hk, rfl⟩ := List.mem_map.mp h
  exact ⟨k, List.mem_range.mp hk, rfl⟩
theorem gsK_names (name : Str) (s : Nat) (ws : List Str) : (gsK name s ws).map (·.1) = if s = 0 then ws else [name] := by
  unfold gsK
  split
  · rw [List.map_map]; exact List.map_id ws
  · rfl
theorem gsK_len (name : Str) (s : Nat) (ws : List Str) : (gsK name s ws).length = if s = 0 then ws.length else 1 := by
  unfold gsK
  split
  · rw [List.length_map]
  · rfl
theorem bnd_plain {stem : Str} (S : IsStem 5 stem) {s n part : Nat} (h6 : s < 6) (hn : n ≤ mostQ s + 1) (p1 : 1 ≤ part) (p2 : part ≤ mostQ s) (p3 : part < n) (p4 : n - part ≤ mostQ s) :
    let g1 := gsK (Str.ofString "m" ++ stem) s ((wsQ stem n).take part)
    let g2 := gsK (Str.ofString "n" ++ stem) s ((wsQ stem n).drop part)
    ReadG g1 ∧ ReadG g2 ∧ ReadG (g1 ++ g2) ∧ g1.length ≤ 12 ∧ g2.length ≤ 12 ∧ libG g1 = .ok (funsF 0 0 g1) (mksF 0 g1) ∧ libG g2 = .ok (funsF 0 0 g2) (mksF 0 g2) ∧
      libG (g1 ++ g2) = (if n ≤ mostQ s then .ok (funsF 0 0 (g1 ++ g2)) (mksF 0 (g1 ++ g2)) else .many (whatQ s)) ∧ unkN (funsF 0 0 (g1 ++ g2)) = if s = 5 then wsQ stem n else [] := by
  intro g1 g2
  have m80 : mostQ s ≤ 80 := by rcases s6 h6 with rfl | rfl | rfl | rfl | rfl | rfl <;> decide
  have hm := nmQ_word S (x := 109) (l := Str.ofString "m") (by decide +kernel) (by decide)
  have hn' := nmQ_word S (x := 110) (l := Str.ofString "n") (by decide +kernel) (by decide)
  have dmn : Str.ofString "m" ++ stem ≠ Str.ofString "n" ++ stem := fun e => by
    have := congrArg cps e
    rw [cps_app, cps_app] at this
    injection this with e _
    cases e
  have hw : ∀ w ∈ wsQ stem n, IsWord w := fun w h => by
    obtain ⟨k, hk, rfl⟩ := wsQ_mem h
    exact wdQ_word S (by omega)
  have db : ∀ w ∈ wsQ stem n, w ∉ dbQ := fun w h => by
    obtain ⟨k, hk, rfl⟩ := wsQ_mem h
    exact wdQ_db
  have nm1 : Str.ofString "m" ++ stem ∉ wsQ stem n := fun h => by
    obtain ⟨k, hk, e⟩ := wsQ_mem h
    exact nmQ_ne (x := 109) (by decide +kernel) e
  have nm2 : Str.ofString "n" ++ stem ∉ wsQ stem n := fun h => by
    obtain ⟨k, hk, e⟩ := wsQ_mem h
    exact nmQ_ne (x := 110) (by decide +kernel) e
  have nd := wsQ_nd stem n
  have la : ((wsQ stem n).take part).length = part := by rw [List.length_take, wsQ_len]; omega
  have lb : ((wsQ stem n).drop part).length = n - part := by rw [List.length_drop, wsQ_len]
  have sa : ∀ w ∈ (wsQ stem n).take part, w ∈ wsQ stem n := fun w h => List.mem_of_mem_take h
  have sb : ∀ w ∈ (wsQ stem n).drop part, w ∈ wsQ stem n := fun w h => List.mem_of_mem_drop h
  have ndA := nd.sublist (List.take_sublist part _)
  have ndB := nd.sublist (List.drop_sublist part _)
  have A : SrtG s _ g1 := srt_one h6 hm (fun w h => hw w (sa w h)) ndA (fun e => by rw [e] at la; simp at la; omega) (fun _ h => nm1 (sa _ h))
  have B : SrtG s _ g2 := srt_one h6 hn' (fun w h => hw w (sb w h)) ndB (fun e => by rw [e] at lb; simp at lb; omega) (fun _ h => nm2 (sb _ h))
  have nA : g1.map (·.1) = if s = 0 then (wsQ stem n).take part else [Str.ofString "m" ++ stem] := gsK_names _ _ _
  have nB : g2.map (·.1) = if s = 0 then (wsQ stem n).drop part else [Str.ofString "n" ++ stem] := gsK_names _ _ _
  have lA : g1.length = if s = 0 then part else 1 := by rw [show g1.length = _ from gsK_len _ _ _, la]
  have lB : g2.length = if s = 0 then n - part else 1 := by rw [show g2.length = _ from gsK_len _ _ _, lb]
  have C0 : SrtG s ((wsQ stem n).take part ++ (wsQ stem n).drop part) (g1 ++ g2) := by
    refine srt_app A B (fun x hx hy => ?_) (fun h0 => ?_) (fun h5 w hw' h => ?_) (fun h5 w hw' h => ?_)
    · rw [nA] at hx
      rw [nB] at hy
      by_cases h0 : s = 0
      · rw [if_pos h0] at hx hy
        have := List.take_append_drop part (wsQ stem n) ▸ nd
        exact (List.nodup_append.mp this).2.2 x hx x hy rfl
      · rw [if_neg h0] at hx hy
        rw [List.mem_singleton] at hx hy
        exact dmn (hx.symm.trans hy)
    · rw [lA, lB, if_neg h0, if_neg h0]; exact ⟨rfl, rfl⟩
    · rw [nB, if_neg (by omega), List.mem_singleton] at h
      exact nm2 (h ▸ sa _ hw')
    · rw [nA, if_neg (by omega), List.mem_singleton] at h
      exact nm1 (h ▸ sb _ hw')
  rw [List.take_append_drop] at C0
  have rA := srt_lib h6 A ndA (fun _ w h => db w (sa w h)) (by omega) (by omega)
  have rB := srt_lib h6 B ndB (fun _ w h => db w (sb w h)) (by omega) (by omega)
  have rC := srt_lib h6 C0 nd (fun _ => db) (by rw [wsQ_len]; exact hn) (by rw [wsQ_len]; omega)
  rw [if_pos (by omega)] at rA rB
  rw [wsQ_len] at rC
  refine ⟨rA.1, rB.1, rC.1, ?_, ?_, rA.2, rB.2, rC.2, ?_⟩
  · rw [lA]
    split
    · next h0 => rw [h0] at p2; exact p2
    · omega
  · rw [lB]
    split
    · next h0 => rw [h0] at p4; exact p4
    · omega
  · rw [unkN_T]; exact srt_unk h6 C0
/-! data: pairs of a text and a list of texts, or two texts -/
theorem dp_tl {K : PySem.W.Frag} {H : Hp} {t u : Addr} {z : Str} {xs : List Str} (h : H t = some (.tup [.str z, .ref u])) (h2 : H u = some (.lst (xs.map V.str))) : Dp K H (.ref t) (.tuple [.str z, .list (xs.map PyData.str)]) :=
  .tup (SqT.of h) (.cons (.str _) (.cons (.lst (SqL.of h2) (dp_strs _)) .nil))
theorem dp_ts {K : PySem.W.Frag} {H : Hp} {t : Addr} {z x : Str} (h : H t = some (.tup [.str z, .str x])) : Dp K H (.ref t) (.tuple [.str z, .str x]) :=
  .tup (SqT.of h) (.cons (.str _) (.cons (.str _) .nil))
theorem tl_ok {z : Str} {xs : List Str} (hz : asc z) (h : ∀ y ∈ xs, asc y) : SeqAt.shaped (.tuple [.str z, .list (xs.map PyData.str)]) = true ∧ PyData.eqv (.tuple [.str z, .list (xs.map PyData.str)]) (.tuple [.str z, .list (xs.map PyData.str)]) = true := by
  have h1 : SeqAt.shaped (.tuple [.str z, .list (xs.map PyData.str)]) = true := by
    show ((PyData.strOk z && (PyData.canLayAll0 (xs.map PyData.str) && true)) && decide (max 0 (max (PyData.depthAll (xs.map PyData.str) + 1) 0) + 1 ≤ 64)) = true
    rw [asc_ok hz, lay_strs h, depth_strs]; rfl
  exact ⟨h1, SeqAt.eqv_refl _ (SeqAt.canLay_of_shaped h1)⟩
theorem ts_ok {z x : Str} (hz : asc z) (hx : asc x) : SeqAt.shaped (.tuple [.str z, .str x]) = true ∧ PyData.eqv (.tuple [.str z, .str x]) (.tuple [.str z, .str x]) = true := by
  have h1 : SeqAt.shaped (.tuple [.str z, .str x]) = true := by
    show ((PyData.strOk z && (PyData.strOk x && true)) && decide (max 0 (max 0 0) + 1 ≤ 64)) = true
    rw [asc_ok hz, asc_ok hx]; rfl
  exact ⟨h1, SeqAt.eqv_refl _ (SeqAt.canLay_of_shaped h1)⟩
/-! ### k26: _law_bound -/
def spBnd : Sp := fun vs H Q _ => ∃ (_ : Unit) (p : Addr) (c : Nat) (o : HO), vs = [.ref p] ∧ H p = some o ∧ PoolO o c ∧ c < 2 ^ 38 ∧
  ∀ o' H', PoolO o' (c + 30) → H' p = some o' → Kp (fun b => b = p) H H' → Q (.bl true) H'
theorem ok_law_bound (T : Txt K mg a d) : FnOk P w K mg base CX0 55 a.law_bound d.law_bound ["_law_pool_here"] spBnd := by
  have G_law_draw : FnOk P w K mg base CX0 1 a.law_draw d.law_draw ["_law_pool_here", "_law_many"] spDraw := ok_law_draw T
  have G_law_word : FnOk P w K mg base CX0 2 a.law_word d.law_word ["_law_pool_here"] spWord := ok_law_word T
  have G_law_rows : FnOk P w K mg base CX0 1 a.law_rows d.law_rows ["_law_name", "_law_sort", "_law_words"] spRows := ok_law_rows T
  have G_law_join : FnOk P w K mg base CX0 54 a.law_join d.law_join ["_law_first", "_law_second"] spJn := ok_law_join T
  refine T.law_bound.ok sc_law_bound (fun vs H Q E h => ?_) (fun cdv A outer s H vs Q E hr h => ?_)
  · obtain ⟨_, _, _, _, rfl, _⟩ := h
    rfl
  · obtain ⟨_, p, c, o, rfl, hp, ho, lc, k⟩ := h
    refine ⟨_, (pss_cons (ps_set (i := 1) sc_law_bound.nd rfl (Or.inl rfl) (pe_call G_law_draw (hr.mono (by omega)) (by rfl) T.g_law_draw T.law_draw.kp T.b_law_draw .nil pass0 (pa_cons (pv 0) (pa_cons pe_int pa_nil))))
  (pss_cons (ps_set (i := 2) sc_law_bound.nd rfl (Or.inl rfl) (pe_ix ix_list (pe_lst (pa_cons pe_int (pa_cons pe_int (pa_cons pe_int (pa_cons pe_int (pa_cons pe_int (pa_cons pe_int pa_nil))))))) (pv 1) (fun _ _ => rfl)))
  (pss_cons (ps_set (i := 3) sc_law_bound.nd rfl (Or.inl rfl) (pe_op op_add (pv 2) (pe_call G_law_draw (hr.mono (by omega)) (by rfl) T.g_law_draw T.law_draw.kp T.b_law_draw .nil pass0 (pa_cons (pv 0) (pa_cons pe_int pa_nil)))))
  (pss_cons (ps_set (i := 4) sc_law_bound.nd rfl (Or.inr rfl) (pe_slice sl_str (pe_call G_law_word (hr.mono (by omega)) (by rfl) T.g_law_word T.law_word.kp T.b_law_word .nil pass0 (pa_cons (pv 0) pa_nil)) po_none (po_some pe_int)))
  (C8.pss_cut (ps_setLc (i := 5) (own := [("_law_k", 12)]) (tt := tYes) rfl sc_law_bound.nd rfl rfl (sw_true rfl rfl rfl (by decide +kernel)) (pi_range1 (by rfl) T.n_range (pa_cons (pv 3) pa_nil)) (blkOk_by (own := [("_law_k", 12)]) (N := ["_law_pool_here", "_law_sort", "_law_most", "_law_many", "_law_stem", "_law_words", "_law_part", "_law_names", "_law_first", "_law_second", "_law_what", "_law_unknown", "_law_k"]) (sc := defScope s_law_bound) (by decide +kernel)) (fun _ _ _ _ _ => (pg_name (i := 12) sc_law_bound.nd rfl (Or.inl rfl))) (fun _ _ _ _ _ => pts_nil) (fun _ _ _ _ _ => (pe_op op_add_str (pe_op op_add_str (pv 4) (pe_ix ix_str pe_str (pe_op op_fdivW (pv 12) pe_int) (fun _ _ => rfl))) (pe_ix ix_str pe_str (pe_op op_mod (pv 12) pe_int) (fun _ _ => rfl)))))
  (C8.pss_cut (ps_set (i := 6) sc_law_bound.nd rfl (Or.inl rfl) (pe_callB (call_max2 rfl) (by rfl) T.n_max (by decide +kernel) (pa_cons pe_int (pa_cons (pe_callB (call_min2 rfl) (by rfl) T.n_min (by decide +kernel) (pa_cons (pe_op op_sub (pv 3) pe_int) (pa_cons (pe_op op_add (pe_op op_sub (pv 3) (pv 2)) (pe_call G_law_draw (hr.mono (by omega)) (by rfl) T.g_law_draw T.law_draw.kp T.b_law_draw .nil pass0 (pa_cons (pv 0) (pa_cons (pe_op op_sub (pv 2) pe_int) pa_nil)))) pa_nil))) pa_nil))))
  (pss_cons (ps_set (i := 7) sc_law_bound.nd rfl (Or.inl rfl) (pe_lst (pa_cons (pe_op op_add_str pe_str (pv 4)) (pa_cons (pe_op op_add_str pe_str (pv 4)) pa_nil))))
  (pss_cons (ps_par (i := 8) (j := 9) rfl sc_law_bound.nd rfl rfl (by decide) rfl rfl (pa_cons (pe_call G_law_rows (hr.mono (by omega)) (by rfl) T.g_law_rows T.law_rows.kp T.b_law_rows .nil pass0 (pa_cons (pe_ix ix_list (pv 7) pe_int (fun _ _ => rfl)) (pa_cons (pv 1) (pa_cons (pe_slice sl_list (pv 5) po_none (po_some (pv 6))) pa_nil)))) (pa_cons (pe_call G_law_rows (hr.mono (by omega)) (by rfl) T.g_law_rows T.law_rows.kp T.b_law_rows .nil pass0 (pa_cons (pe_ix ix_list (pv 7) pe_int (fun _ _ => rfl)) (pa_cons (pv 1) (pa_cons (pe_slice sl_list (pv 5) (po_some (pv 6)) po_none) pa_nil)))) pa_nil)) (by rfl))
  (pss_cons (ps_set (i := 10) sc_law_bound.nd rfl (Or.inl rfl) (pe_ix ix_list (pe_lst (pa_cons pe_str (pa_cons pe_str (pa_cons pe_str (pa_cons pe_str (pa_cons pe_str (pa_cons pe_str pa_nil))))))) (pv 1) (fun _ _ => rfl)))
  (pss_cons (ps_set (i := 11) sc_law_bound.nd rfl (Or.inl rfl) (pe_ifExp (pt_cmpR op_eq (pv 1) pe_int (nomark _)) (pe_callB (cr_sortLS) (by rfl) T.n_sorted (by decide +kernel) (pa_cons (pv 5) pa_nil)) (pe_lst pa_nil)))
  (pss_one (ps_ret (pe_cmpR (op_eqD hr.units) (pe_call G_law_join (hr.mono (by omega)) (by rfl) T.g_law_join T.law_join.kp T.b_law_join .nil pass0 (pa_cons (pv 8) (pa_cons (pv 9) pa_nil))) (pe_ifExp (pt_cmpR op_eq (pv 3) (pv 2) (nomark _)) (pe_tup (pa_cons pe_str (pa_cons (pv 11) pa_nil))) (pe_tup (pa_cons pe_str (pa_cons (pv 10) pa_nil)))) (nomark _)))))))))))))), ?_⟩
    try dsimp only [cxOf]
    walk_at "rd"
    intro s1 o1 s10 s11 ho1
    obtain ⟨s, rfl⟩ := Int.eq_ofNat_of_zero_le s10
    have s6' : s < 6 := by omega
    have k1 : Kp (fun b => b = p) H (upd H p o1) := Kp.refl.set1
    have p1 := upd_same (H := H) (a := p) (o := o1)
    generalize upd H p o1 = H1 at k1 p1 ⊢
    have am : atI ([.int 12, .int 80, .int 6, .int 6, .int 16, .int 4] : List V) (s : Int) = some (.int (mostQ s : Int)) := by
      refine atI_nat ?_
      rcases s6 s6' with rfl | rfl | rfl | rfl | rfl | rfl <;> rfl
    walk_at "rd"
    intro q1 hq1
    have k2 := k1.new (o := .lst ([.int 12, .int 80, .int 6, .int 6, .int 16, .int 4] : List V)) hq1
    have p2 := upd_old (o := .lst ([.int 12, .int 80, .int 6, .int 6, .int 16, .int 4] : List V)) p1 hq1
    have u2 := upd_same (H := H1) (a := q1) (o := .lst ([.int 12, .int 80, .int 6, .int 6, .int 16, .int 4] : List V))
    generalize upd H1 q1 (.lst ([.int 12, .int 80, .int 6, .int 6, .int 16, .int 4] : List V)) = H2 at k2 p2 u2 ⊢
    walk_at "rd"
    intro e1 o3 e10 e11 ho3
    obtain ⟨e, rfl⟩ := Int.eq_ofNat_of_zero_le e10
    have k3 := k2.set1 (o := o3)
    have p3 := upd_same (H := H2) (a := p) (o := o3)
    generalize upd H2 p o3 = H3 at k3 p3 ⊢
    clear u2 k2 p2 k1 p1 am
    obtain ⟨n, en⟩ : ∃ n : Nat, n = mostQ s + e := ⟨_, rfl⟩
    have m80 : mostQ s ≤ 80 ∧ 4 ≤ mostQ s := by rcases s6 s6' with rfl | rfl | rfl | rfl | rfl | rfl <;> decide
    walk_at "rd"
    intro w0 o4 F hw0 ho4 pF kF
    have k4 := k3.trans kF
    have wl : w0.length ≤ sizeLine := by have := hw0.len; rw [sizeLine_eq]; omega
    walk_at "rd"
    have hst : IsStem 5 (cutS w0 none (some 5)) := cut_stem hw0 5
    generalize cutS w0 none (some 5) = stem at hst ⊢
    clear wl hw0
    have hi5 := hst.hi
    have n90 : n < 90 := by omega
    refine ⟨fun σ G => ∃ (_ : Unit) (l : Addr) (o : HO), σ = [some (.ref p), some (.int (s : Int)), some (.int (mostQ s : Int)), some (.int (n : Int)), some (.str stem), some (.ref l), none, none, none, none, none, none, none] ∧ Kp (fun b => b = p) H G ∧ G p = some o ∧ PoolO o (c + 20) ∧ G l = some (.lst ((wsQ stem n).map V.str)) ∧ H l = none ∧ l ≠ p, ?_, ?_⟩
    · dsimp only
      rw [show (mostQ s : Int) + (e : Int) = (n : Int) by rw [en]; rfl]
      walk_at "rd"
      intro D hD
      refine lc_range (fun i G => Same F G ∧ G D = some (.lst ((wsQ stem i).map V.str))) ?_ ?_ ?_
      · exact ⟨(Same.refl _).new hD, upd_same⟩
      · rintro i G hi ⟨s6, gD⟩
        have hi : i < n := hi
        refine ⟨rfl, ?_⟩
        have a1 : atI (Str.ofString "abcdefghij").cps.toList ((0 + (i : Int)) / 9) = some (97 + i / 9) := by rw [Int.zero_add]; exact ab_at (by omega)
        have a2 : atI (Str.ofString "opqruvwxy").cps.toList ((0 + (i : Int)) % 9) = some (tbQ (i % 9)) := by rw [Int.zero_add]; exact op_at
        have l1 : stem.length + (⟨#[97 + i / 9]⟩ : Str).length ≤ sizeLine := by show stem.length + 1 ≤ _; rw [sizeLine_eq]; omega
        have l2 : (stem ++ (⟨#[97 + i / 9]⟩ : Str)).length + (⟨#[tbQ (i % 9)]⟩ : Str).length ≤ sizeLine := by
          have : (stem ++ (⟨#[97 + i / 9]⟩ : Str)).length = stem.length + 1 := by rw [← cps_len, cps_app, List.length_append, cps_len]; rfl
          rw [this]; show stem.length + 1 + 1 ≤ _; rw [sizeLine_eq]; omega
        have ll : ((wsQ stem i).map V.str).length < sizeLine := by rw [List.length_map, wsQ_len, sizeLine_eq]; omega
        walk_at "rd"
        refine ⟨s6.frsh hD, ?_⟩
        rw [upd_same]
        show _ = some (HO.lst ((wsQ stem (i + 1)).map V.str))
        unfold wsQ
        rw [List.range_succ, List.map_append, List.map_append]; rfl
      · rintro G ⟨s6, gD⟩
        exact ⟨(), D, o4, rfl, k4.trans (.of_same s6), s6 _ _ pF, ho4.mono (by omega), gD, k4.none (fun e => by rw [e, pF] at hD; cases hD) hD, fun e => by rw [e, pF] at hD; cases hD⟩
    · rintro σ G ⟨_, l, o5, rfl, k5, p5, ho5, hl5, hfl, nlp⟩
      have hn : mostQ s ≤ n ∧ n ≤ mostQ s + 1 := by omega
      clear k4 pF ho4 o4
      refine ⟨fun σ G => ∃ (_ : Unit) (l : Addr) (o : HO) (part : Nat), σ = [some (.ref p), some (.int (s : Int)), some (.int (mostQ s : Int)), some (.int (n : Int)), some (.str stem), some (.ref l), some (.int (part : Int)), none, none, none, none, none, none] ∧ Kp (fun b => b = p) H G ∧ G p = some o ∧ PoolO o (c + 30) ∧ G l = some (.lst ((wsQ stem n).map V.str)) ∧ (1 ≤ part ∧ part ≤ mostQ s ∧ part < n ∧ n - part ≤ mostQ s), ?_, ?_⟩
      · walk_at "rd"
        intro d o6 d0 d1 ho6
        obtain ⟨d, rfl⟩ := Int.eq_ofNat_of_zero_le d0
        have k6 := k5.set1 (o := o6)
        have p6 := upd_same (H := G) (a := p) (o := o6)
        have hl6 := upd_oth (o := o6) nlp hl5
        generalize upd G p o6 = G6 at k6 p6 hl6 ⊢
        walk_at "rd"
        obtain ⟨j, ej, j0, j1, j2⟩ : ∃ j : Int, (if (n : Int) - (mostQ s : Int) + (d : Int) < (n : Int) - 1 then (n : Int) - (mostQ s : Int) + (d : Int) else (n : Int) - 1) = j ∧ 0 ≤ j ∧ j ≤ (mostQ s : Int) - 1 ∧ (n : Int) - (mostQ s : Int) ≤ j := ⟨_, rfl, by split <;> omega⟩
        dsimp only
        rw [ej]
        obtain ⟨part, ep, q1, q2, q3⟩ : ∃ part : Nat, (if j > 1 then j else 1) = (part : Int) ∧ 1 ≤ part ∧ part ≤ mostQ s - 1 ∧ n - mostQ s ≤ part := ⟨(if j > 1 then j else 1).toNat, by split <;> omega, by split <;> omega, by split <;> omega, by split <;> omega⟩
        rw [ep]
        exact ⟨(), l, o6, part, rfl, k6, p6, ho6.mono (by omega), hl6, by omega⟩
      · rintro σ G ⟨_, l, o5, part, rfl, k5, p5, ho5, hl5, hp1, hp2, hp3, hp4⟩
        have lm : (Str.ofString "m").length + stem.length ≤ sizeLine := by rw [show (Str.ofString "m").length = 1 by decide +kernel, sizeLine_eq]; omega
        have ln : (Str.ofString "n").length + stem.length ≤ sizeLine := by rw [show (Str.ofString "n").length = 1 by decide +kernel, sizeLine_eq]; omega
        have a0 : atI ([.str (Str.ofString "m" ++ stem), .str (Str.ofString "n" ++ stem)] : List V) 0 = some (.str (Str.ofString "m" ++ stem)) := rfl
        have a1 : atI ([.str (Str.ofString "m" ++ stem), .str (Str.ofString "n" ++ stem)] : List V) 1 = some (.str (Str.ofString "n" ++ stem)) := rfl
        have am : atI ([.str (Str.ofString "functions"), .str (Str.ofString "statements"), .str (Str.ofString "records"), .str (Str.ofString "errors"), .str (Str.ofString "blocks"), .str (Str.ofString "unknown")] : List V) (s : Int) = some (.str (whatQ s)) := by
          refine atI_nat ?_
          rcases s6 s6' with rfl | rfl | rfl | rfl | rfl | rfl <;> rfl
        walk_at "rd"
        intro l7 hl7
        have k7 := k5.new (o := .lst [.str (Str.ofString "m" ++ stem), .str (Str.ofString "n" ++ stem)]) hl7
        have p7 := upd_old (o := .lst [.str (Str.ofString "m" ++ stem), .str (Str.ofString "n" ++ stem)]) p5 hl7
        have hl57 := upd_old (o := .lst [.str (Str.ofString "m" ++ stem), .str (Str.ofString "n" ++ stem)]) hl5 hl7
        have hl77 := upd_same (H := G) (a := l7) (o := .lst [.str (Str.ofString "m" ++ stem), .str (Str.ofString "n" ++ stem)])
        generalize upd G l7 (.lst [.str (Str.ofString "m" ++ stem), .str (Str.ofString "n" ++ stem)]) = G7 at k7 p7 hl57 hl77 ⊢
        have B := bnd_plain hst s6' hn.2 hp1 hp2 hp3 hp4
        dsimp only at B
        obtain ⟨R1, R2, R12, n1, n2, b1, b2, b12, bu⟩ := B
        have wlen : ∀ w ∈ wsQ stem n, w.length ≤ 100 := fun w hw => by
          obtain ⟨i, hi, rfl⟩ := wsQ_mem hw
          have := (wdQ_word hst (k := i) (by omega)).len
          omega
        have wl := wsQ_len stem n
        have lm1 : (Str.ofString "m" ++ stem).length ≤ 100 := by rw [← cps_len, cps_app, List.length_append, cps_len, cps_len, show (Str.ofString "m").length = 1 by decide +kernel]; omega
        have ln1 : (Str.ofString "n" ++ stem).length ≤ 100 := by rw [← cps_len, cps_app, List.length_append, cps_len, cps_len, show (Str.ofString "n").length = 1 by decide +kernel]; omega
        walk_at "rd"
        intro t1 ht1
        rw [cutV_to, ← List.map_take]
        have k8 := k7.new (o := .lst (((wsQ stem n).take part).map V.str)) ht1
        have p8 := upd_old (o := .lst (((wsQ stem n).take part).map V.str)) p7 ht1
        have hl58 := upd_old (o := .lst (((wsQ stem n).take part).map V.str)) hl57 ht1
        have hl78 := upd_old (o := .lst (((wsQ stem n).take part).map V.str)) hl77 ht1
        have ht18 := upd_same (H := G7) (a := t1) (o := .lst (((wsQ stem n).take part).map V.str))
        generalize upd G7 t1 (.lst (((wsQ stem n).take part).map V.str)) = G8 at k8 p8 hl58 hl78 ht18 ⊢
        walk_at "rd"
        refine ⟨(), t1, _, s, (wsQ stem n).take part, rfl, s6', ht18, by rw [List.length_take]; omega, lm1, fun w h => wlen w (List.mem_of_mem_take h), fun G9 f1 sf1 _ hf1 => ?_⟩
        have k9 := k8.trans (.of_same sf1)
        have p9 := sf1 _ _ p8
        have hl59 := sf1 _ _ hl58
        have hl79 := sf1 _ _ hl78
        clear k8 p8 hl58 hl78 ht18 ht1 hl57 hl77 p7 k7
        walk_at "rd"
        intro t2 ht2
        rw [cutV_from, ← List.map_drop]
        have kA := k9.new (o := .lst (((wsQ stem n).drop part).map V.str)) ht2
        have hl5A := upd_old (o := .lst (((wsQ stem n).drop part).map V.str)) hl59 ht2
        have pA := upd_old (o := .lst (((wsQ stem n).drop part).map V.str)) p9 ht2
        have hf1A := upd_old (o := .lst (((wsQ stem n).drop part).map V.str)) hf1 ht2
        have ht2A := upd_same (H := G9) (a := t2) (o := .lst (((wsQ stem n).drop part).map V.str))
        generalize upd G9 t2 (.lst (((wsQ stem n).drop part).map V.str)) = GA at kA pA hl5A hf1A ht2A ⊢
        walk_at "rd"
        refine ⟨(), t2, _, s, (wsQ stem n).drop part, rfl, s6', ht2A, by rw [List.length_drop]; omega, ln1, fun w h => wlen w (List.mem_of_mem_drop h), fun GB f2 sf2 _ hf2 => ?_⟩
        have kB := kA.trans (.of_same sf2)
        have pB := sf2 _ _ pA
        have hl5B := sf2 _ _ hl5A
        have hf1B := sf2 _ _ hf1A
        clear kA pA hl5A hf1A ht2A ht2 k9 p9 hl59 hl79 hf1
        generalize gsK (Str.ofString "m" ++ stem) s ((wsQ stem n).take part) = g1 at R1 R12 n1 b1 b12 bu hf1B
        generalize gsK (Str.ofString "n" ++ stem) s ((wsQ stem n).drop part) = g2 at R2 R12 n2 b2 b12 bu hf2
        walk_at "rd"
        intro q8 hq8
        have kC := kB.new (o := (.lst [.str (Str.ofString "functions"), .str (Str.ofString "statements"), .str (Str.ofString "records"), .str (Str.ofString "errors"), .str (Str.ofString "blocks"), .str (Str.ofString "unknown")])) hq8
        have pC := upd_old (o := (.lst [.str (Str.ofString "functions"), .str (Str.ofString "statements"), .str (Str.ofString "records"), .str (Str.ofString "errors"), .str (Str.ofString "blocks"), .str (Str.ofString "unknown")])) pB hq8
        have hl5C := upd_old (o := (.lst [.str (Str.ofString "functions"), .str (Str.ofString "statements"), .str (Str.ofString "records"), .str (Str.ofString "errors"), .str (Str.ofString "blocks"), .str (Str.ofString "unknown")])) hl5B hq8
        have hf1C := upd_old (o := (.lst [.str (Str.ofString "functions"), .str (Str.ofString "statements"), .str (Str.ofString "records"), .str (Str.ofString "errors"), .str (Str.ofString "blocks"), .str (Str.ofString "unknown")])) hf1B hq8
        have hf2C := upd_old (o := (.lst [.str (Str.ofString "functions"), .str (Str.ofString "statements"), .str (Str.ofString "records"), .str (Str.ofString "errors"), .str (Str.ofString "blocks"), .str (Str.ofString "unknown")])) hf2 hq8
        have hq8C := upd_same (H := GB) (a := q8) (o := (.lst [.str (Str.ofString "functions"), .str (Str.ofString "statements"), .str (Str.ofString "records"), .str (Str.ofString "errors"), .str (Str.ofString "blocks"), .str (Str.ofString "unknown")]))
        generalize upd GB q8 (.lst [.str (Str.ofString "functions"), .str (Str.ofString "statements"), .str (Str.ofString "records"), .str (Str.ofString "errors"), .str (Str.ofString "blocks"), .str (Str.ofString "unknown")]) = GC at kC pC hl5C hf1C hf2C hq8C ⊢
        clear kB pB hl5B hf1B hf2 hq8
        walk_at "rd"
        refine ite2 (fun c0 => ?_) (fun c0 => ?_)
        · have h5 : s = 5 := by have := V.int.inj (of_decide_eq_true c0); omega
          rw [if_pos h5] at bu
          walk_at "rd"
          intro u hu
          have kD := kC.new (o := .lst ((sortT (wsQ stem n)).map V.str)) hu
          have pD := upd_old (o := .lst ((sortT (wsQ stem n)).map V.str)) pC hu
          have hf1D := upd_old (o := .lst ((sortT (wsQ stem n)).map V.str)) hf1C hu
          have hf2D := upd_old (o := .lst ((sortT (wsQ stem n)).map V.str)) hf2C hu
          have huD := upd_same (H := GC) (a := u) (o := .lst ((sortT (wsQ stem n)).map V.str))
          generalize upd GC u (.lst ((sortT (wsQ stem n)).map V.str)) = GD at kD pD hf1D hf2D huD ⊢
          have ndW : (wsQ stem n).Nodup := by first | exact wsQ_nd stem n | exact List.nodup_nil
          have aW : ∀ y ∈ sortT (wsQ stem n), asc y := fun y hy => by
            have := sortT_mem.mp hy
            first
              | exact absurd this List.not_mem_nil
              | (obtain ⟨i, hi, rfl⟩ := wsQ_mem this
                 exact word_asc (wdQ_word hst (by omega)))
          walk_at "rd"
          refine ⟨(), f1, f2, g1, g2, rfl, hf1D, hf2D, R1, R2, R12, n1, n2, b1, b2, ?_⟩
          rw [b12]
          by_cases hnm : n ≤ mostQ s
          · rw [if_pos hnm]
            intro GE t v sE ht hv
            rw [bu, setT_sort ndW] at hv
            have huE := sE _ _ huD
            have pE := sE _ _ pD
            have kE := kD.trans (.of_same sE)
            walk_at "rd"
            refine ite2 (fun c1 => ?_) (fun c1 => ?_)
            · walk_at "rd"
              intro t2 ht2
              have d1 := dp_tl (K := K) (upd_old (o := .tup [.str (Str.ofString "library"), .ref u]) ht ht2) (upd_old (o := .tup [.str (Str.ofString "library"), .ref u]) hv ht2)
              have d2 := dp_tl (K := K) (upd_same (H := GE) (a := t2) (o := .tup [.str (Str.ofString "library"), .ref u])) (upd_old (o := .tup [.str (Str.ofString "library"), .ref u]) huE ht2)
              have eq := tl_ok (z := Str.ofString "library") (by unfold asc; decide +kernel) aW
              refine ⟨_, _, d1, d2, eq.1, eq.1, ?_⟩
              rw [eq.2]
              exact k _ _ ho5 (upd_old pE ht2) (kE.new ht2)
            · exact absurd (show decide (V.int (n : Int) = V.int (mostQ s : Int)) = true from decide_eq_true (by rw [show n = mostQ s by omega])) c1
          · rw [if_neg hnm]
            intro GE t sE ht
            have pE := sE _ _ pD
            have kE := kD.trans (.of_same sE)
            walk_at "rd"
            refine ite2 (fun c1 => ?_) (fun c1 => ?_)
            · have := V.int.inj (of_decide_eq_true c1)
              omega
            · walk_at "rd"
              intro t2 ht2
              have d1 := dp_ts (K := K) (upd_old (o := .tup [.str (Str.ofString "toomany"), .str (whatQ s)]) ht ht2)
              have d2 := dp_ts (K := K) (upd_same (H := GE) (a := t2) (o := .tup [.str (Str.ofString "toomany"), .str (whatQ s)]))
              have eq := ts_ok (z := Str.ofString "toomany") (x := whatQ s) (by unfold asc; decide +kernel) (by rcases s6 s6' with rfl | rfl | rfl | rfl | rfl | rfl <;> unfold asc <;> decide +kernel)
              refine ⟨_, _, d1, d2, eq.1, eq.1, ?_⟩
              rw [eq.2]
              exact k _ _ ho5 (upd_old pE ht2) (kE.new ht2)
        · have h5 : s ≠ 5 := fun h5 => c0 (by rw [h5]; rfl)
          rw [if_neg h5] at bu
          walk_at "rd"
          intro u hu
          rw [show (HO.lst []) = HO.lst ((sortT ([] : List Str)).map V.str) by rw [List.perm_nil.mp (sortT_perm [])]; rfl]
          have kD := kC.new (o := .lst ((sortT ([] : List Str)).map V.str)) hu
          have pD := upd_old (o := .lst ((sortT ([] : List Str)).map V.str)) pC hu
          have hf1D := upd_old (o := .lst ((sortT ([] : List Str)).map V.str)) hf1C hu
          have hf2D := upd_old (o := .lst ((sortT ([] : List Str)).map V.str)) hf2C hu
          have huD := upd_same (H := GC) (a := u) (o := .lst ((sortT ([] : List Str)).map V.str))
          generalize upd GC u (.lst ((sortT ([] : List Str)).map V.str)) = GD at kD pD hf1D hf2D huD ⊢
          have ndW : ([] : List Str).Nodup := by first | exact wsQ_nd stem n | exact List.nodup_nil
          have aW : ∀ y ∈ sortT ([] : List Str), asc y := fun y hy => by
            have := sortT_mem.mp hy
            first
              | exact absurd this List.not_mem_nil
              | (obtain ⟨i, hi, rfl⟩ := wsQ_mem this
                 exact word_asc (wdQ_word hst (by omega)))
          walk_at "rd"
          refine ⟨(), f1, f2, g1, g2, rfl, hf1D, hf2D, R1, R2, R12, n1, n2, b1, b2, ?_⟩
          rw [b12]
          by_cases hnm : n ≤ mostQ s
          · rw [if_pos hnm]
            intro GE t v sE ht hv
            rw [bu, setT_sort ndW] at hv
            have huE := sE _ _ huD
            have pE := sE _ _ pD
            have kE := kD.trans (.of_same sE)
            walk_at "rd"
            refine ite2 (fun c1 => ?_) (fun c1 => ?_)
            · walk_at "rd"
              intro t2 ht2
              have d1 := dp_tl (K := K) (upd_old (o := .tup [.str (Str.ofString "library"), .ref u]) ht ht2) (upd_old (o := .tup [.str (Str.ofString "library"), .ref u]) hv ht2)
              have d2 := dp_tl (K := K) (upd_same (H := GE) (a := t2) (o := .tup [.str (Str.ofString "library"), .ref u])) (upd_old (o := .tup [.str (Str.ofString "library"), .ref u]) huE ht2)
              have eq := tl_ok (z := Str.ofString "library") (by unfold asc; decide +kernel) aW
              refine ⟨_, _, d1, d2, eq.1, eq.1, ?_⟩
              rw [eq.2]
              exact k _ _ ho5 (upd_old pE ht2) (kE.new ht2)
            · exact absurd (show decide (V.int (n : Int) = V.int (mostQ s : Int)) = true from decide_eq_true (by rw [show n = mostQ s by omega])) c1
          · rw [if_neg hnm]
            intro GE t sE ht
            have pE := sE _ _ pD
            have kE := kD.trans (.of_same sE)
            walk_at "rd"
            refine ite2 (fun c1 => ?_) (fun c1 => ?_)
            · have := V.int.inj (of_decide_eq_true c1)
              omega
            · walk_at "rd"
              intro t2 ht2
              have d1 := dp_ts (K := K) (upd_old (o := .tup [.str (Str.ofString "toomany"), .str (whatQ s)]) ht ht2)
              have d2 := dp_ts (K := K) (upd_same (H := GE) (a := t2) (o := .tup [.str (Str.ofString "toomany"), .str (whatQ s)]))
              have eq := ts_ok (z := Str.ofString "toomany") (x := whatQ s) (by unfold asc; decide +kernel) (by rcases s6 s6' with rfl | rfl | rfl | rfl | rfl | rfl <;> unfold asc <;> decide +kernel)
              refine ⟨_, _, d1, d2, eq.1, eq.1, ?_⟩
              rw [eq.2]
              exact k _ _ ho5 (upd_old pE ht2) (kE.new ht2)
/-! ### k26: the ring's texts -/
theorem kw_line2 {k k2 : String} (e : cps (Str.ofString k2) = cps (Str.ofString k) ++ [32]) (x : Str) : Str.ofString "    " ++ (Str.ofString k2 ++ x) = lineR (some (2, [Str.ofString k, x])) := by
  show _ = lineS 2 [Str.ofString k, x]
  refine cps_inj ?_
  rw [lineS_cps, cps_app, cps_app, e]
  show _ = 32 :: 32 :: 32 :: 32 :: (cps (Str.ofString k) ++ 32 :: cps x)
  rw [show cps (Str.ofString "    ") = [32, 32, 32, 32] by decide +kernel]
  simp
theorem call_eq (x : Str) : Str.ofString "  call " ++ x = Str.ofString "  " ++ (Str.ofString "call " ++ x) := by
  refine cps_inj ?_
  rw [cps_app, cps_app, cps_app, ← List.append_assoc]
  rw [show cps (Str.ofString "  call ") = cps (Str.ofString "  ") ++ cps (Str.ofString "call ") by decide +kernel]
theorem call_inj {x y : Str} : Str.ofString "  call " ++ x = Str.ofString "  call " ++ y ↔ x = y := by
  refine ⟨fun e => ?_, fun e => by rw [e]⟩
  have e := congrArg cps e
  rw [cps_app, cps_app] at e
  exact cps_inj (List.append_cancel_left e)
theorem lnQ_strs (g : Bool) (x : Str) : strsR (rowsB 1 (lnQ g x)) = if g = true then [V.str (Str.ofString "  maybe"), V.str (Str.ofString "    " ++ (Str.ofString "call " ++ x))] else [V.str (Str.ofString "  " ++ (Str.ofString "call " ++ x))] := by
  rw [lnQ_rows, kw_line (k := "call") (by decide +kernel), kw_line2 (k := "call") (by decide +kernel)]
  cases g
  · rfl
  · show [V.str (lineR (some (1, [Str.ofString "maybe"]))), _] = [_, _]
    rw [show lineR (some (1, [Str.ofString "maybe"])) = Str.ofString "  maybe" by decide +kernel]
theorem gA_strs (n0 x : Str) (g0 : Bool) : strsR (rowsF (gR (psA n0 x g0))) = V.str (Str.ofString "function " ++ n0) :: strsR (rowsB 1 (lnQ g0 x)) := by
  rw [show rowsF (gR (psA n0 x g0)) = some (0, [Str.ofString "function", n0]) :: (rowsB 1 (lnQ g0 x) ++ []) from rfl, List.append_nil, fun_lineQ]; rfl
theorem gB_strs (n0 n1 n2 : Str) (g1 : Bool) : strsR (rowsF (gR (psB n0 n1 n2 g1))) = [V.str (Str.ofString "function " ++ n2), V.str (Str.ofString "  call " ++ n1), V.str (Str.ofString "function " ++ n1)] ++ strsR (rowsB 1 (lnQ g1 n0)) := by
  have e : rowsF (gR (psB n0 n1 n2 g1)) = [some (0, [Str.ofString "function", n2]), some (1, [Str.ofString "call", n1]), some (0, [Str.ofString "function", n1])] ++ (rowsB 1 (lnQ g1 n0) ++ []) := rfl
  rw [e, List.append_nil, strsR_app, call_eq, kw_line (k := "call") (by decide +kernel), fun_lineQ, fun_lineQ]; rfl
/-- what the first part of the law's own reckoning has -/
theorem due_filter {n0 n1 n2 x : Str} (R : Ring n0 n1 n2) (t : Bool) : (((if t = true then [n2, n1, n0] else [n0, n2, n1] : List Str).filter fun z => decide (z ∈ [n0] ++ (if x = n2 then [n2] else []) ++ [n1]))[0]?) = some (dueQ t n0 n1 n2 x) := by
  unfold dueQ
  cases t
  · simp
  · by_cases h : x = n2
    · simp [h]
    · simp [h, Ne.symm R.d02, Ne.symm R.d12]
/-! ### k26: _law_ring -/
def spRng : Sp := fun vs H Q _ => ∃ (_ : Unit) (p : Addr) (c : Nat) (o : HO), vs = [.ref p] ∧ H p = some o ∧ PoolO o c ∧ c < 2 ^ 38 ∧
  ∀ o' H', PoolO o' (c + 30) → H' p = some o' → Kp (fun b => b = p) H H' → Q (.bl true) H'
structure RgS (H : Hp) (p q f g d : Addr) (o : HO) (N : List V) (A B : HO) (D : HO) (F : Hp) : Prop where
  k_ : Kp (fun b => b = p) H F
  p_ : F p = some o
  q_ : F q = some (.lst N)
  f_ : F f = some A
  g_ : F g = some B
  d_ : F d = some D
theorem RgS.new {H : Hp} {p q f g d t : Addr} {o o1 : HO} {N : List V} {A B D : HO} {F : Hp} (I : RgS H p q f g d o N A B D F) (h : F t = none) : RgS H p q f g d o N A B D (upd F t o1) :=
  ⟨I.k_.new h, upd_old I.p_ h, upd_old I.q_ h, upd_old I.f_ h, upd_old I.g_ h, upd_old I.d_ h⟩
theorem ok_law_ring (T : Txt K mg a d) : FnOk P w K mg base CX0 55 a.law_ring d.law_ring ["_law_pool_here"] spRng := by
  have G_law_draw : FnOk P w K mg base CX0 1 a.law_draw d.law_draw ["_law_pool_here", "_law_many"] spDraw := ok_law_draw T
  have G_law_word : FnOk P w K mg base CX0 2 a.law_word d.law_word ["_law_pool_here"] spWord := ok_law_word T
  have G_law_join : FnOk P w K mg base CX0 54 a.law_join d.law_join ["_law_first", "_law_second"] spJn := ok_law_join T
  refine T.law_ring.ok sc_law_ring (fun vs H Q E h => ?_) (fun cdv A outer s H vs Q E hr h => ?_)
  · obtain ⟨_, _, _, _, rfl, _⟩ := h
    rfl
  · obtain ⟨_, p, c, o, rfl, hp, ho, lc, k⟩ := h
    refine ⟨_, (pss_cons (ps_set (i := 1) sc_law_ring.nd rfl (Or.inl rfl) (pe_slice sl_str (pe_call G_law_word (hr.mono (by omega)) (by rfl) T.g_law_word T.law_word.kp T.b_law_word .nil pass0 (pa_cons (pv 0) pa_nil)) po_none (po_some pe_int)))
  (pss_cons (ps_set (i := 2) sc_law_ring.nd rfl (Or.inl rfl) (pe_lst (pa_cons (pe_op op_add_str (pv 1) pe_str) (pa_cons (pe_op op_add_str pe_str (pv 1)) (pa_cons (pe_op op_add_str pe_str (pv 1)) pa_nil)))))
  (pss_cons (ps_set (i := 3) sc_law_ring.nd rfl (Or.inl rfl) (pe_lst (pa_cons (pe_cmpR op_eq (pe_call G_law_draw (hr.mono (by omega)) (by rfl) T.g_law_draw T.law_draw.kp T.b_law_draw .nil pass0 (pa_cons (pv 0) (pa_cons pe_int pa_nil))) pe_int (nomark _)) (pa_cons (pe_cmpR op_eq (pe_call G_law_draw (hr.mono (by omega)) (by rfl) T.g_law_draw T.law_draw.kp T.b_law_draw .nil pass0 (pa_cons (pv 0) (pa_cons pe_int pa_nil))) pe_int (nomark _)) pa_nil))))
  (pss_cons (ps_par (i := 4) (j := 5) rfl sc_law_ring.nd rfl rfl (by decide) rfl rfl (pa_cons (pe_lst (pa_cons (pe_op op_add_str pe_str (pe_ix ix_list (pv 2) pe_int (fun _ _ => rfl))) pa_nil)) (pa_cons (pe_lst (pa_cons (pe_op op_add_str pe_str (pe_ix ix_list (pv 2) pe_int (fun _ _ => rfl))) (pa_cons (pe_op op_add_str pe_str (pe_ix ix_list (pv 2) pe_int (fun _ _ => rfl))) (pa_cons (pe_op op_add_str pe_str (pe_ix ix_list (pv 2) pe_int (fun _ _ => rfl))) pa_nil)))) pa_nil)) (by rfl))
  (pss_cons (ps_for PassesOwn.never rfl (pi_range1 (by rfl) T.n_range (pa_cons pe_int pa_nil)) (pg_name (i := 6) sc_law_ring.nd rfl (Or.inl rfl))
  (pss_cons (ps_set (i := 7) sc_law_ring.nd rfl (Or.inl rfl) (pe_op op_add_str pe_str (pe_ix ix_list (pe_lst (pa_cons (pe_ix ix_list (pv 2) (pe_op op_add pe_int (pe_call G_law_draw (hr.mono (by omega)) (by rfl) T.g_law_draw T.law_draw.kp T.b_law_draw .nil pass0 (pa_cons (pv 0) (pa_cons pe_int pa_nil)))) (fun _ _ => rfl)) (pa_cons (pe_ix ix_list (pv 2) pe_int (fun _ _ => rfl)) pa_nil))) (pv 6) (fun _ _ => rfl))))
  (C8.pss_cut (ps_set (i := 7) sc_law_ring.nd rfl (Or.inl rfl) (pe_ifExp (pt_truth (pe_ix ix_list (pv 3) (pv 6) (fun _ _ => rfl)) (by intro _; rfl)) (pe_lst (pa_cons pe_str (pa_cons (pe_op op_add_str pe_str (pv 7)) pa_nil))) (pe_lst (pa_cons (pe_op op_add_str pe_str (pv 7)) pa_nil))))
  (pss_one (ps_par (i := 4) (j := 5) rfl sc_law_ring.nd rfl rfl (by decide) rfl rfl (pa_cons (pe_op op_cat (pv 4) (pe_ifExp (pt_cmpR op_eq (pv 6) pe_int (nomark _)) (pv 7) (pe_lst pa_nil))) (pa_cons (pe_op op_cat (pv 5) (pe_ifExp (pt_cmpR op_eq (pv 6) pe_int (nomark _)) (pv 7) (pe_lst pa_nil))) pa_nil)) (by rfl))))))
  (pss_cons (ps_set (i := 8) sc_law_ring.nd rfl (Or.inl rfl) (pe_cmpR op_eq (pe_call G_law_draw (hr.mono (by omega)) (by rfl) T.g_law_draw T.law_draw.kp T.b_law_draw .nil pass0 (pa_cons (pv 0) (pa_cons pe_int pa_nil))) pe_int (nomark _)))
  (pss_cons (ps_set (i := 9) sc_law_ring.nd rfl (Or.inl rfl) (pe_tup (pa_cons pe_str (pa_cons (pe_lst pa_nil) pa_nil))))
  (C8.pss_cut (ps_if (PW.pt (pw_and (pt_not (pt_truth (pe_ix ix_list (pv 3) pe_int (fun _ _ => rfl)) (by intro _; rfl))) (pw_and1 (pt_not (pt_truth (pe_ix ix_list (pv 3) pe_int (fun _ _ => rfl)) (by intro _; rfl)))))) (C8.pss_cut (ps_set (i := 10) sc_law_ring.nd rfl (Or.inr rfl) (pe_op op_cat (pe_op op_cat (pe_lst (pa_cons (pe_ix ix_list (pv 2) pe_int (fun _ _ => rfl)) pa_nil)) (pe_ifExp (pt_cmpR op_eq (pe_ix ix_list (pv 4) pe_int (fun _ _ => rfl)) (pe_op op_add_str pe_str (pe_ix ix_list (pv 2) pe_int (fun _ _ => rfl))) (nomark _)) (pe_lst (pa_cons (pe_ix ix_list (pv 2) pe_int (fun _ _ => rfl)) pa_nil)) (pe_lst pa_nil))) (pe_lst (pa_cons (pe_ix ix_list (pv 2) pe_int (fun _ _ => rfl)) pa_nil))))
  (C8.pss_cut (ps_set (i := 11) sc_law_ring.nd rfl (Or.inl rfl) (pe_ifExp (pt_val (pv 8)) (pe_lst (pa_cons (pe_ix ix_list (pv 2) pe_int (fun _ _ => rfl)) (pa_cons (pe_ix ix_list (pv 2) pe_int (fun _ _ => rfl)) (pa_cons (pe_ix ix_list (pv 2) pe_int (fun _ _ => rfl)) pa_nil)))) (pe_lst (pa_cons (pe_ix ix_list (pv 2) pe_int (fun _ _ => rfl)) (pa_cons (pe_ix ix_list (pv 2) pe_int (fun _ _ => rfl)) (pa_cons (pe_ix ix_list (pv 2) pe_int (fun _ _ => rfl)) pa_nil))))))
  (pss_one (ps_set (i := 9) sc_law_ring.nd rfl (Or.inl rfl) (pe_tup (pa_cons pe_str (pa_cons (pe_ix ix_list (pe_lc (own := [("_law_name", 12)]) rfl sc_law_ring.nd (pi_list (pv 11)) (blkOk_by (own := [("_law_name", 12)]) (N := ["_law_pool_here", "_law_stem", "_law_names", "_law_guards", "_law_first", "_law_second", "_law_k", "_law_line", "_law_is_turned", "_law_due", "_law_through", "_law_order", "_law_name"]) (sc := defScope s_law_ring) (by decide +kernel)) (fun _ _ _ _ _ => (pg_name (i := 12) sc_law_ring.nd rfl (Or.inl rfl))) (fun _ _ _ _ _ => (pts_one (pt_cmpR (op_inK (K := K) rfl) (pv 12) (pv 10) (by rfl)))) (fun _ _ _ _ _ => (pv 12))) pe_int (fun _ _ => rfl)) pa_nil))))))) pss_nil)
  (pss_cons (ps_if (pt_val (pv 8)) (pss_one (ps_ret (pe_cmpR (op_eqD hr.units) (pe_call G_law_join (hr.mono (by omega)) (by rfl) T.g_law_join T.law_join.kp T.b_law_join .nil pass0 (pa_cons (pv 5) (pa_cons (pv 4) pa_nil))) (pv 9) (nomark _)))) pss_nil)
  (pss_one (ps_ret (pe_cmpR (op_eqD hr.units) (pe_call G_law_join (hr.mono (by omega)) (by rfl) T.g_law_join T.law_join.kp T.b_law_join .nil pass0 (pa_cons (pv 4) (pa_cons (pv 5) pa_nil))) (pv 9) (nomark _))))))))))))), ?_⟩
    try dsimp only [cxOf]
    walk_at "rd"
    intro w0 o1 F hw0 ho1 pF kF
    have wl : w0.length ≤ sizeLine := by have := hw0.len; rw [sizeLine_eq]; omega
    have hst : IsStem 6 (cutS w0 none (some 6)) := cut_stem hw0 6
    walk_at "rd"
    generalize cutS w0 none (some 6) = stem at hst ⊢
    clear wl hw0
    have R := ring_of hst
    have ls := hst.hi
    have so : stem.length + (Str.ofString "o").length ≤ sizeLine := by rw [show (Str.ofString "o").length = 1 by decide +kernel, sizeLine_eq]; omega
    have sp : (Str.ofString "p").length + stem.length ≤ sizeLine := by rw [show (Str.ofString "p").length = 1 by decide +kernel, sizeLine_eq]; omega
    have sq : (Str.ofString "q").length + stem.length ≤ sizeLine := by rw [show (Str.ofString "q").length = 1 by decide +kernel, sizeLine_eq]; omega
    walk_at "rd"
    generalize stem ++ Str.ofString "o" = n0 at R ⊢
    generalize Str.ofString "p" ++ stem = n1 at R ⊢
    generalize Str.ofString "q" ++ stem = n2 at R ⊢
    have w0 := R.w0.len
    have w1 := R.w1.len
    have w2 := R.w2.len
    intro q hq
    have k1 := kF.new (o := .lst [.str n0, .str n1, .str n2]) hq
    have p1 := upd_old (o := .lst [.str n0, .str n1, .str n2]) pF hq
    have q1 := upd_same (H := F) (a := q) (o := .lst [.str n0, .str n1, .str n2])
    have nqp : q ≠ p := fun e => by rw [e, pF] at hq; cases hq
    generalize upd F q (.lst [.str n0, .str n1, .str n2]) = H1 at k1 p1 q1 ⊢
    clear so sp sq ls pF kF hq
    walk_at "rd"
    intro r1 o2 r10 r11 ho2
    have k2 := k1.set1 (o := o2)
    have p2 := upd_same (H := H1) (a := p) (o := o2)
    have q2 := upd_oth (o := o2) nqp q1
    generalize upd H1 p o2 = H2 at k2 p2 q2 ⊢
    obtain ⟨g0, eg0⟩ : ∃ b, b = decide (V.int r1 = V.int 0) := ⟨_, rfl⟩
    walk_at "rd"
    intro r2 o3 r20 r21 ho3
    have k3 := k2.set1 (o := o3)
    have p3 := upd_same (H := H2) (a := p) (o := o3)
    have q3 := upd_oth (o := o3) nqp q2
    generalize upd H2 p o3 = H3 at k3 p3 q3 ⊢
    obtain ⟨g1, eg1⟩ : ∃ b, b = decide (V.int r2 = V.int 0) := ⟨_, rfl⟩
    walk_at "rd"
    rw [← eg0, ← eg1]
    intro u hu
    have k4 := k3.new (o := .lst [.bl g0, .bl g1]) hu
    have p4 := upd_old (o := .lst [.bl g0, .bl g1]) p3 hu
    have q4 := upd_old (o := .lst [.bl g0, .bl g1]) q3 hu
    have u4 := upd_same (H := H3) (a := u) (o := .lst [.bl g0, .bl g1])
    have nup : u ≠ p := fun e => by rw [e, p3] at hu; cases hu
    generalize upd H3 u (.lst [.bl g0, .bl g1]) = H4 at k4 p4 q4 u4 ⊢
    clear k3 p3 q3 hu k2 p2 q2 k1 p1 q1
    have e9 : (Str.ofString "function ").length = 9 := by decide +kernel
    have e7 : (Str.ofString "  call ").length = 7 := by decide +kernel
    have l0 : (Str.ofString "function ").length + n0.length ≤ sizeLine := by rw [e9, sizeLine_eq]; omega
    have l1 : (Str.ofString "function ").length + n1.length ≤ sizeLine := by rw [e9, sizeLine_eq]; omega
    have l2 : (Str.ofString "function ").length + n2.length ≤ sizeLine := by rw [e9, sizeLine_eq]; omega
    have l3 : (Str.ofString "  call ").length + n1.length ≤ sizeLine := by rw [e7, sizeLine_eq]; omega
    have l4 : (Str.ofString "  call ").length + n2.length ≤ sizeLine := by rw [e7, sizeLine_eq]; omega
    have a0 : atI ([.str n0, .str n1, .str n2] : List V) 0 = some (.str n0) := rfl
    have a1 : atI ([.str n0, .str n1, .str n2] : List V) 1 = some (.str n1) := rfl
    have a2 : atI ([.str n0, .str n1, .str n2] : List V) 2 = some (.str n2) := rfl
    walk_at "rd"
    intro f hf
    have k5 := k4.new (o := .lst [.str (Str.ofString "function " ++ n0)]) hf
    have p5 := upd_old (o := .lst [.str (Str.ofString "function " ++ n0)]) p4 hf
    have q5 := upd_old (o := .lst [.str (Str.ofString "function " ++ n0)]) q4 hf
    have u5 := upd_old (o := .lst [.str (Str.ofString "function " ++ n0)]) u4 hf
    have f5 := upd_same (H := H4) (a := f) (o := .lst [.str (Str.ofString "function " ++ n0)])
    have nfp : f ≠ p := fun e => by rw [e, p4] at hf; cases hf
    generalize upd H4 f (.lst [.str (Str.ofString "function " ++ n0)]) = H5 at k5 p5 q5 u5 f5 ⊢
    walk_at "rd"
    intro g hg
    have k6 := k5.new (o := .lst [.str (Str.ofString "function " ++ n2), .str (Str.ofString "  call " ++ n1), .str (Str.ofString "function " ++ n1)]) hg
    have p6 := upd_old (o := .lst [.str (Str.ofString "function " ++ n2), .str (Str.ofString "  call " ++ n1), .str (Str.ofString "function " ++ n1)]) p5 hg
    have q6 := upd_old (o := .lst [.str (Str.ofString "function " ++ n2), .str (Str.ofString "  call " ++ n1), .str (Str.ofString "function " ++ n1)]) q5 hg
    have u6 := upd_old (o := .lst [.str (Str.ofString "function " ++ n2), .str (Str.ofString "  call " ++ n1), .str (Str.ofString "function " ++ n1)]) u5 hg
    have f6 := upd_old (o := .lst [.str (Str.ofString "function " ++ n2), .str (Str.ofString "  call " ++ n1), .str (Str.ofString "function " ++ n1)]) f5 hg
    have g6 := upd_same (H := H5) (a := g) (o := .lst [.str (Str.ofString "function " ++ n2), .str (Str.ofString "  call " ++ n1), .str (Str.ofString "function " ++ n1)])
    have ngp : g ≠ p := fun e => by rw [e, p5] at hg; cases hg
    generalize upd H5 g (.lst [.str (Str.ofString "function " ++ n2), .str (Str.ofString "  call " ++ n1), .str (Str.ofString "function " ++ n1)]) = H6 at k6 p6 q6 u6 f6 g6 ⊢
    clear k5 p5 q5 u5 f5 hg hf k4 p4 q4 u4
    walk_at "rd"
    refine for_range (fun i σ G => ∃ (_ : Unit) (f' g' : Addr) (o : HO) (x : Str) (v6 v7 : Option V), σ = [some (.ref p), some (.str stem), some (.ref q), some (.ref u), some (.ref f'), some (.ref g'), v6, v7, none, none, none, none, none] ∧
      Kp (fun b => b = p) H G ∧ G p = some o ∧ PoolO o (c + 18 + i) ∧ (x = n1 ∨ x = n2) ∧ G q = some (.lst [.str n0, .str n1, .str n2]) ∧ G u = some (.lst [.bl g0, .bl g1]) ∧
      G f' = some (.lst (V.str (Str.ofString "function " ++ n0) :: if i = 0 then [] else strsR (rowsB 1 (lnQ g0 x)))) ∧ f' ≠ p ∧ g' ≠ p ∧
      G g' = some (.lst ([V.str (Str.ofString "function " ++ n2), V.str (Str.ofString "  call " ++ n1), V.str (Str.ofString "function " ++ n1)] ++ if i ≤ 1 then [] else strsR (rowsB 1 (lnQ g1 n0))))) ?_ ?_ ?_
    · exact ⟨(), f, g, o3, n1, none, none, rfl, k6, p6, ho3.mono (by omega), .inl rfl, q6, u6, f6, nfp, ngp, g6⟩
    · rintro i σ G hi ⟨_, f', g', o, x, v6, v7, rfl, k7, p7, ho7, hx, q7, u7, f7, nf7, ng7, g7⟩
      have hi : i < 2 := hi
      have a10 : atI ([.bl g0, .bl g1] : List V) (0 + (i : Int)) = some (.bl (if i = 0 then g0 else g1)) := by
        rcases (show i = 0 ∨ i = 1 by omega) with rfl | rfl <;> rfl
      walk_at "rd"
      intro r o' r0 r1 ho'
      obtain ⟨r, rfl⟩ := Int.eq_ofNat_of_zero_le r0
      have k8 := k7.set1 (o := o')
      have p8 := upd_same (H := G) (a := p) (o := o')
      have q8 := upd_oth (o := o') nqp q7
      have u8 := upd_oth (o := o') nup u7
      have f8 := upd_oth (o := o') nf7 f7
      have g8 := upd_oth (o := o') ng7 g7
      generalize upd G p o' = G8 at k8 p8 q8 u8 f8 g8 ⊢
      obtain ⟨y, hy, ey⟩ : ∃ y, (y = n1 ∨ y = n2) ∧ atI ([.str n0, .str n1, .str n2] : List V) (1 + (r : Int)) = some (.str y) := by
        rcases (show r = 0 ∨ r = 1 by omega) with rfl | rfl
        · exact ⟨n1, .inl rfl, rfl⟩
        · exact ⟨n2, .inr rfl, rfl⟩
      obtain ⟨z, hz, ez⟩ : ∃ z, z = (if i = 0 then y else n0) ∧ atI ([.str y, .str n0] : List V) (0 + (i : Int)) = some (.str z) := by
        rcases (show i = 0 ∨ i = 1 by omega) with rfl | rfl <;> exact ⟨_, rfl, rfl⟩
      have wz : z.length ≤ 8 := by
        rw [hz]
        split
        · rcases hy with rfl | rfl <;> omega
        · omega
      have e5 : (Str.ofString "call ").length = 5 := by decide +kernel
      have lz : (Str.ofString "call ").length + z.length ≤ sizeLine := by rw [e5, sizeLine_eq]; omega
      have lcz : (Str.ofString "call " ++ z).length ≤ 20 := by rw [← cps_len, cps_app, List.length_append, cps_len, cps_len, e5]; omega
      walk_at "rd"
      intro t ht
      have k9 := k8.new (o := .lst [.str y, .str n0]) ht
      have p9 := upd_old (o := .lst [.str y, .str n0]) p8 ht
      have q9 := upd_old (o := .lst [.str y, .str n0]) q8 ht
      have u9 := upd_old (o := .lst [.str y, .str n0]) u8 ht
      have f9 := upd_old (o := .lst [.str y, .str n0]) f8 ht
      have g9 := upd_old (o := .lst [.str y, .str n0]) g8 ht
      have t9 := upd_same (H := G8) (a := t) (o := .lst [.str y, .str n0])
      generalize upd G8 t (.lst [.str y, .str n0]) = G9 at k9 p9 q9 u9 f9 g9 t9 ⊢
      clear ht k8 p8 q8 u8 f8 g8 k7 p7 q7 u7 f7 g7
      have e2 : (Str.ofString "  ").length = 2 := by decide +kernel
      have e4 : (Str.ofString "    ").length = 4 := by decide +kernel
      have l5 : (Str.ofString "  ").length + (Str.ofString "call " ++ z).length ≤ sizeLine := by rw [e2, sizeLine_eq]; omega
      have l6 : (Str.ofString "    ").length + (Str.ofString "call " ++ z).length ≤ sizeLine := by rw [e4, sizeLine_eq]; omega
      walk_at "rd"
      obtain ⟨gi, egi⟩ : ∃ b, b = if i = 0 then g0 else g1 := ⟨_, rfl⟩
      rw [← egi] at a10
      refine ⟨fun σ' F => ∃ (_ : Unit) (l : Addr), σ' = [some (.ref p), some (.str stem), some (.ref q), some (.ref u), some (.ref f'), some (.ref g'), some (.int (0 + (i : Int))), some (.ref l), none, none, none, none, none] ∧ Kp (fun b => b = p) H F ∧ F p = some o' ∧
        F q = some (.lst [.str n0, .str n1, .str n2]) ∧ F u = some (.lst [.bl g0, .bl g1]) ∧ F f' = some (.lst (V.str (Str.ofString "function " ++ n0) :: if i = 0 then [] else strsR (rowsB 1 (lnQ g0 x)))) ∧
        F g' = some (.lst ([V.str (Str.ofString "function " ++ n2), V.str (Str.ofString "  call " ++ n1), V.str (Str.ofString "function " ++ n1)] ++ if i ≤ 1 then [] else strsR (rowsB 1 (lnQ g1 n0)))) ∧ F l = some (.lst (strsR (rowsB 1 (lnQ gi z)))), ?_, ?_⟩
      · rw [lnQ_strs gi z]
        walk_at "rd"
        refine ite2 (fun c0 => ?_) (fun c0 => ?_)
        · rw [if_pos c0]
          walk_at "rd"
          intro l hl
          exact ⟨(), l, rfl, k9.new hl, upd_old p9 hl, upd_old q9 hl, upd_old u9 hl, upd_old f9 hl, upd_old g9 hl, upd_same⟩
        · rw [if_neg c0]
          walk_at "rd"
          intro l hl
          exact ⟨(), l, rfl, k9.new hl, upd_old p9 hl, upd_old q9 hl, upd_old u9 hl, upd_old f9 hl, upd_old g9 hl, upd_same⟩
      · clear k9 p9 q9 u9 f9 g9 t9
        rintro σ' F ⟨_, l, rfl, k9, p9, q9, u9, f9, g9, l9⟩
        have ho8 : PoolO o' (c + 18 + (i + 1)) := ho'.mono (by omega)
        have lq : ∀ (g : Bool) (z : Str), (strsR (rowsB 1 (lnQ g z))).length ≤ 2 := fun g z => by rw [lnQ_strs]; cases g; exact Nat.le_succ 1; exact Nat.le_refl 2
        have lq1 := lq gi z
        rcases (show i = 0 ∨ i = 1 by omega) with rfl | rfl
        · rw [if_pos rfl] at f9 hz egi
          rw [if_pos (by omega)] at g9
          rw [hz, egi] at l9 lq1
          walk_at "rd"
          refine ⟨by rw [sizeLine_eq]; show 1 + _ ≤ _; omega, fun f2 hf2 => ?_⟩
          have kA := k9.new (o := .lst ([V.str (Str.ofString "function " ++ n0)] ++ strsR (rowsB 1 (lnQ g0 y)))) hf2
          have pA := upd_old (o := .lst ([V.str (Str.ofString "function " ++ n0)] ++ strsR (rowsB 1 (lnQ g0 y)))) p9 hf2
          have qA := upd_old (o := .lst ([V.str (Str.ofString "function " ++ n0)] ++ strsR (rowsB 1 (lnQ g0 y)))) q9 hf2
          have uA := upd_old (o := .lst ([V.str (Str.ofString "function " ++ n0)] ++ strsR (rowsB 1 (lnQ g0 y)))) u9 hf2
          have gA := upd_old (o := .lst ([V.str (Str.ofString "function " ++ n0)] ++ strsR (rowsB 1 (lnQ g0 y)))) g9 hf2
          have fA := upd_same (H := F) (a := f2) (o := .lst ([V.str (Str.ofString "function " ++ n0)] ++ strsR (rowsB 1 (lnQ g0 y))))
          have nfA : f2 ≠ p := fun e => by rw [e, p9] at hf2; cases hf2
          generalize upd F f2 (.lst ([V.str (Str.ofString "function " ++ n0)] ++ strsR (rowsB 1 (lnQ g0 y)))) = FA at kA pA qA uA gA fA ⊢
          walk_at "rd"
          intro e he
          have kB := kA.new (o := .lst []) he
          have pB := upd_old (o := .lst []) pA he
          have qB := upd_old (o := .lst []) qA he
          have uB := upd_old (o := .lst []) uA he
          have gB := upd_old (o := .lst []) gA he
          have fB := upd_old (o := .lst []) fA he
          have eB := upd_same (H := FA) (a := e) (o := .lst [])
          generalize upd FA e (.lst []) = FB at kB pB qB uB gB fB eB ⊢
          walk_at "rd"
          intro g2 hg2
          walk_at "rd"
          exact ⟨(), f2, g2, o', y, _, _, rfl, kB.new hg2, upd_old pB hg2, ho8, hy, upd_old qB hg2, upd_old uB hg2, upd_old fB hg2, nfA, (fun e => by rw [e, pB] at hg2; cases hg2), upd_same⟩
        · rw [if_neg (by omega)] at f9 hz egi
          rw [if_pos (by omega)] at g9
          rw [hz, egi] at l9 lq1
          walk_at "rd"
          intro e he
          have kA := k9.new (o := .lst []) he
          have pA := upd_old (o := .lst []) p9 he
          have qA := upd_old (o := .lst []) q9 he
          have uA := upd_old (o := .lst []) u9 he
          have gA := upd_old (o := .lst []) g9 he
          have fA := upd_old (o := .lst []) f9 he
          have lA := upd_old (o := .lst []) l9 he
          have eA := upd_same (H := F) (a := e) (o := .lst [])
          generalize upd F e (.lst []) = FA at kA pA qA uA gA fA lA eA ⊢
          walk_at "rd"
          have lx := lq g0 x
          refine ⟨by rw [sizeLine_eq]; show _ + 1 + 0 ≤ _; omega, fun f2 hf2 => ?_⟩
          have kB := kA.new (o := (.lst ((V.str (Str.ofString "function " ++ n0) :: strsR (rowsB 1 (lnQ g0 x))) ++ []))) hf2
          have pB := upd_old (o := (.lst ((V.str (Str.ofString "function " ++ n0) :: strsR (rowsB 1 (lnQ g0 x))) ++ []))) pA hf2
          have qB := upd_old (o := (.lst ((V.str (Str.ofString "function " ++ n0) :: strsR (rowsB 1 (lnQ g0 x))) ++ []))) qA hf2
          have uB := upd_old (o := (.lst ((V.str (Str.ofString "function " ++ n0) :: strsR (rowsB 1 (lnQ g0 x))) ++ []))) uA hf2
          have gB := upd_old (o := (.lst ((V.str (Str.ofString "function " ++ n0) :: strsR (rowsB 1 (lnQ g0 x))) ++ []))) gA hf2
          have lB := upd_old (o := (.lst ((V.str (Str.ofString "function " ++ n0) :: strsR (rowsB 1 (lnQ g0 x))) ++ []))) lA hf2
          have fB := upd_same (H := FA) (a := f2) (o := (.lst ((V.str (Str.ofString "function " ++ n0) :: strsR (rowsB 1 (lnQ g0 x))) ++ [])))
          have nfB : f2 ≠ p := fun e => by rw [e, pA] at hf2; cases hf2
          generalize upd FA f2 (.lst ((V.str (Str.ofString "function " ++ n0) :: strsR (rowsB 1 (lnQ g0 x))) ++ [])) = FB at kB pB qB uB gB lB fB ⊢
          rw [List.append_nil] at fB
          walk_at "rd"
          refine ⟨by rw [sizeLine_eq]; show 3 + _ ≤ _; omega, fun g2 hg2 => ?_⟩
          walk_at "rd"
          exact ⟨(), f2, g2, o', x, _, _, rfl, kB.new hg2, upd_old pB hg2, ho8, hx, upd_old qB hg2, upd_old uB hg2, upd_old fB hg2, nfB, (fun e => by rw [e, pB] at hg2; cases hg2), upd_same⟩
    · rintro σ G ⟨_, f', g', o, x, v6, v7, rfl, k7, p7, ho7, hx, q7, u7, f7, nf7, ng7, g7⟩
      rw [show (2 : Int).toNat = 2 from rfl] at f7 g7 ho7
      rw [if_neg (by omega)] at f7 g7
      have xw : x.length ≤ 8 := by rcases hx with rfl | rfl <;> omega
      have lq : ∀ (g : Bool) (z : Str), (strsR (rowsB 1 (lnQ g z))).length ≤ 2 := fun g z => by rw [lnQ_strs]; cases g; exact Nat.le_succ 1; exact Nat.le_refl 2
      have af : g0 = false → atI (V.str (Str.ofString "function " ++ n0) :: strsR (rowsB 1 (lnQ g0 x))) 1 = some (.str (Str.ofString "  call " ++ x)) := fun e => by
        rw [e, lnQ_strs, call_eq]; rfl
      rw [← gB_strs] at g7
      walk_at "rd"
      intro r o' r0 r1 ho'
      have k8 := k7.set1 (o := o')
      have p8 := upd_same (H := G) (a := p) (o := o')
      have q8 := upd_oth (o := o') nqp q7
      have u8 := upd_oth (o := o') nup u7
      have f8 := upd_oth (o := o') nf7 f7
      have g8 := upd_oth (o := o') ng7 g7
      generalize upd G p o' = G8 at k8 p8 q8 u8 f8 g8 ⊢
      obtain ⟨t, et⟩ : ∃ b, b = decide (V.int r = V.int 0) := ⟨_, rfl⟩
      walk_at "rd"
      rw [← et]
      intro e he
      have k9 := k8.new (o := .lst []) he
      have p9 := upd_old (o := .lst []) p8 he
      have q9 := upd_old (o := .lst []) q8 he
      have u9 := upd_old (o := .lst []) u8 he
      have f9 := upd_old (o := .lst []) f8 he
      have g9 := upd_old (o := .lst []) g8 he
      have e9 := upd_same (H := G8) (a := e) (o := .lst [])
      generalize upd G8 e (.lst []) = G9 at k9 p9 q9 u9 f9 g9 e9 ⊢
      walk_at "rd"
      intro d hd
      have kA := k9.new (o := .tup [.str (Str.ofString "library"), .ref e]) hd
      have pA := upd_old (o := .tup [.str (Str.ofString "library"), .ref e]) p9 hd
      have qA := upd_old (o := .tup [.str (Str.ofString "library"), .ref e]) q9 hd
      have uA := upd_old (o := .tup [.str (Str.ofString "library"), .ref e]) u9 hd
      have fA := upd_old (o := .tup [.str (Str.ofString "library"), .ref e]) f9 hd
      have gA := upd_old (o := .tup [.str (Str.ofString "library"), .ref e]) g9 hd
      have eA := upd_old (o := .tup [.str (Str.ofString "library"), .ref e]) e9 hd
      have dA := upd_same (H := G9) (a := d) (o := .tup [.str (Str.ofString "library"), .ref e])
      generalize upd G9 d (.tup [.str (Str.ofString "library"), .ref e]) = GA at kA pA qA uA fA gA eA dA ⊢
      clear k9 p9 q9 u9 f9 g9 e9 hd k8 p8 q8 u8 f8 g8 he k7 p7 q7 u7 f7 g7
      have ho9 : PoolO o' (c + 30) := ho'.mono (by omega)
      walk_at "rd"
      refine ⟨fun σ F => ∃ (_ : Unit) (d : Addr) (v10 v11 : Option V), σ = [some (.ref p), some (.str stem), some (.ref q), some (.ref u), some (.ref f'), some (.ref g'), v6, v7, some (.bl t), some (.ref d), v10, v11, none] ∧ Kp (fun b => b = p) H F ∧ F p = some o' ∧
        F f' = some (.lst (strsR (rowsF (gR (psA n0 x g0))))) ∧ F g' = some (.lst (strsR (rowsF (gR (psB n0 n1 n2 g1))))) ∧
        ((g0 = true ∨ g1 = true) → ∃ e, F d = some (.tup [.str (Str.ofString "library"), .ref e]) ∧ F e = some (.lst [])) ∧ (¬ (g0 = true ∨ g1 = true) → F d = some (.tup [.str (Str.ofString "endless"), .str (dueQ t n0 n1 n2 x)])), ?_, ?_⟩
      · walk_at "rd"
        refine ite2 (fun c0 => ?_) (fun c0 => ?_)
        · have h0 : g0 = false := by simpa using c0
          walk_at "rd"
          refine ite2 (fun c1 => ?_) (fun c1 => ?_)
          · have h1 : g1 = false := by simpa using c1
            have af := af h0
            have cc : decide (V.str (Str.ofString "  call " ++ x) = V.str (Str.ofString "  call " ++ n2)) = decide (x = n2) := by
              by_cases h : x = n2
              · rw [h]; simp
              · have : V.str (Str.ofString "  call " ++ x) ≠ V.str (Str.ofString "  call " ++ n2) := fun z => h (call_inj.mp (V.str.inj z))
                simp [h, this]
            have I : RgS H p q f' g' d o' [.str n0, .str n1, .str n2] _ _ _ GA := ⟨kA, pA, qA, fA, gA, dA⟩
            walk_at "rd"
            refine ⟨fun σ F => ∃ (_ : Unit) (l : Addr), σ = [some (.ref p), some (.str stem), some (.ref q), some (.ref u), some (.ref f'), some (.ref g'), v6, v7, some (.bl t), some (.ref d), some (.ref l), none, none] ∧
              RgS H p q f' g' d o' [.str n0, .str n1, .str n2] (.lst (V.str (Str.ofString "function " ++ n0) :: strsR (rowsB 1 (lnQ g0 x)))) (.lst (strsR (rowsF (gR (psB n0 n1 n2 g1))))) (.tup [.str (Str.ofString "library"), .ref e]) F ∧ F l = some (.lst (([n0] ++ (if x = n2 then [n2] else []) ++ [n1]).map V.str)), ?_, ?_⟩
            · walk_at "rd"
              intro t1 ht1
              walk_at "rd"
              rw [cc]
              refine ite2 (fun c2 => ?_) (fun c2 => ?_)
              · have ex := of_decide_eq_true c2
                rw [if_pos ex]
                walk_at "rd"
                intro t2 ht2
                walk_at "rd"
                intro t3 ht3
                walk_at "rd"
                intro t4 ht4
                walk_at "rd"
                intro t5 ht5
                exact ⟨(), t5, rfl, ((((I.new ht1).new ht2).new ht3).new ht4).new ht5, upd_same⟩
              · have ex : ¬ x = n2 := fun z => c2 (decide_eq_true z)
                rw [if_neg ex]
                walk_at "rd"
                intro t2 ht2
                walk_at "rd"
                intro t3 ht3
                walk_at "rd"
                intro t4 ht4
                walk_at "rd"
                intro t5 ht5
                exact ⟨(), t5, rfl, ((((I.new ht1).new ht2).new ht3).new ht4).new ht5, upd_same⟩
            · rintro σ F ⟨_, l, rfl, I, hl⟩
              clear kA pA qA uA fA gA eA dA
              refine ⟨fun σ F => ∃ (_ : Unit) (l2 : Addr), σ = [some (.ref p), some (.str stem), some (.ref q), some (.ref u), some (.ref f'), some (.ref g'), v6, v7, some (.bl t), some (.ref d), some (.ref l), some (.ref l2), none] ∧
                RgS H p q f' g' d o' [.str n0, .str n1, .str n2] (.lst (V.str (Str.ofString "function " ++ n0) :: strsR (rowsB 1 (lnQ g0 x)))) (.lst (strsR (rowsF (gR (psB n0 n1 n2 g1))))) (.tup [.str (Str.ofString "library"), .ref e]) F ∧ F l = some (.lst (([n0] ++ (if x = n2 then [n2] else []) ++ [n1]).map V.str)) ∧
                F l2 = some (.lst ((if t = true then [n2, n1, n0] else [n0, n2, n1] : List Str).map V.str)), ?_, ?_⟩
              · have qI := I.q_
                walk_at "rd"
                refine ite2 (fun c2 => ?_) (fun c2 => ?_)
                · walk_at "rd"
                  intro l2 hl2
                  rw [if_pos c2]
                  exact ⟨(), l2, rfl, I.new hl2, upd_old hl hl2, upd_same⟩
                · walk_at "rd"
                  intro l2 hl2
                  rw [if_neg c2]
                  exact ⟨(), l2, rfl, I.new hl2, upd_old hl hl2, upd_same⟩
              · clear I hl
                rintro σ F ⟨_, l2, rfl, I, hl, hl2⟩
                have df := due_filter (x := x) R t
                have los : (if t = true then [n2, n1, n0] else [n0, n2, n1] : List Str).length ≤ 3 := by split <;> exact Nat.le_refl 3
                generalize (if t = true then [n2, n1, n0] else [n0, n2, n1] : List Str) = os at df hl2 los
                generalize [n0] ++ (if x = n2 then [n2] else []) ++ [n1] = ts at df hl
                walk_at "rd"
                refine ⟨⟨_, SqL.of hl2⟩, fun D2 hD2 => ?_⟩
                refine lc_list (xs := os.map V.str) (fun j G' => Same F G' ∧ G' D2 = some (.lst (((os.take j).filter fun z => decide (z ∈ ts)).map V.str))) ?_ ?_ ?_ ?_
                · exact ⟨(Same.refl _).new hD2, upd_same⟩
                · rintro j G' _ ⟨s2, _⟩
                  exact SqL.of (s2 _ _ hl2)
                · rintro j v G' hv ⟨s2, gD2⟩
                  obtain ⟨y, hy, rfl⟩ : ∃ y, os[j]? = some y ∧ v = .str y := by
                    rw [List.getElem?_map] at hv
                    cases e : os[j]? with
                    | none => rw [e] at hv; cases hv
                    | some y => rw [e] at hv; cases hv; exact ⟨y, rfl, rfl⟩
                  have ts2 := s2 _ _ hl
                  have lfl := List.length_filter_le (fun z => decide (z ∈ ts)) (os.take j)
                  have ltk : (os.take j).length ≤ 300 := by rw [List.length_take]; omega
                  have flt : (os.take (j + 1)).filter (fun z => decide (z ∈ ts)) = (os.take j).filter (fun z => decide (z ∈ ts)) ++ if y ∈ ts then [y] else [] := by
                    rw [List.take_add_one, hy, List.filter_append]
                    by_cases m : y ∈ ts <;> simp [m]
                  walk_at "rd"
                  refine ⟨flat_strs, _, rfl, ?_⟩
                  refine ite2 (fun c0 => ?_) (fun c0 => ?_)
                  · have m : y ∈ ts := by simpa [inV_strL] using c0
                    rw [flt, if_pos m]
                    walk_at "rd"
                    refine ⟨by rw [List.length_map, sizeLine_eq]; omega, s2.frsh hD2, ?_⟩
                    rw [upd_same, List.map_append]; rfl
                  · have m : y ∉ ts := by simpa [inV_strL] using c0
                    rw [flt, if_neg m, List.append_nil]
                    exact ⟨s2, gD2⟩
                · rintro G' ⟨s2, gD2⟩
                  rw [List.length_map, List.take_length] at gD2
                  have ad : atI ((os.filter fun z => decide (z ∈ ts)).map V.str) 0 = some (.str (dueQ t n0 n1 n2 x)) := atI_nat (by rw [List.getElem?_map, df]; rfl)
                  have f2 := s2 _ _ I.f_
                  have g2 := s2 _ _ I.g_
                  have p2 := s2 _ _ I.p_
                  have k2 := I.k_.trans (.of_same s2)
                  walk_at "rd"
                  intro d2 hd2
                  exact ⟨(), d2, some (.ref l), some (.ref l2), rfl, k2.new hd2, upd_old p2 hd2, by rw [gA_strs]; exact upd_old f2 hd2, upd_old g2 hd2, (fun z => absurd z (by rw [h0, h1]; simp)), fun _ => upd_same⟩
          · have h1 : g1 = true := by simpa using c1
            walk_at "rd"
            exact ⟨(), d, none, none, rfl, kA, pA, by rw [gA_strs]; exact fA, gA, fun _ => ⟨e, dA, eA⟩, fun n => absurd (.inr h1) n⟩
        · have h0 : g0 = true := by simpa using c0
          walk_at "rd"
          exact ⟨(), d, none, none, rfl, kA, pA, by rw [gA_strs]; exact fA, gA, fun _ => ⟨e, dA, eA⟩, fun n => absurd (.inl h0) n⟩
      · rintro σ F ⟨_, d, v10, v11, rfl, kB, pB, fB, gB, d1, d2⟩
        have hA : FineG (gR (psA n0 x g0)) fun _ => 0 := R.rdA hx
        have hB : FineG (gR (psB n0 n1 n2 g1)) fun z => if z = n2 then 1 else 0 := R.rdB
        have lA : (gR (psA n0 x g0)).length ≤ 12 := by rw [gR_len]; show 1 ≤ 12; omega
        have lB : (gR (psB n0 n1 n2 g1)).length ≤ 12 := by rw [gR_len]; show 2 ≤ 12; omega
        have wdue : IsWord (dueQ t n0 n1 n2 x) := by
          unfold dueQ
          split
          · split
            · exact R.w2
            · exact R.w1
          · exact R.w0
        have fin : ∀ Q' : VK, (∀ (H' : Hp) (v : V) (z : PyData), Same F H' → Dp K H' v z → Dp K H' (.ref d) z → SeqAt.shaped z = true → PyData.eqv z z = true → Q' v H') → outJn F Q' (libG (gR (psJ t n0 n1 n2 x g0 g1))) := fun Q' q => by
          by_cases hg : g0 = true ∨ g1 = true
          · obtain ⟨e, e1, e2⟩ := d1 hg
            rw [R.fine hx t hg]
            intro H' v u' s hv hu
            rw [psJ_unk hx t, show sortT (setT ([] : List Str)) = [] from List.perm_nil.mp (sortT_perm [])] at hu
            have eq := tl_ok (z := Str.ofString "library") (xs := []) (by unfold asc; decide +kernel) (fun y hy => nomatch hy)
            exact q H' (.ref v) _ s (dp_tl (xs := []) hv hu) (dp_tl (xs := []) (s _ _ e1) (s _ _ e2)) eq.1 eq.2
          · have d3 := d2 hg
            have h0 : g0 = false := by cases h : g0; rfl; exact absurd (.inl h) hg
            have h1 : g1 = false := by cases h : g1; rfl; exact absurd (.inr h) hg
            rw [h0, h1, R.loop hx t]
            intro H' v s hv
            have eq := ts_ok (z := Str.ofString "endless") (x := dueQ t n0 n1 n2 x) (by unfold asc; decide +kernel) (word_asc wdue)
            exact q H' (.ref v) _ s (dp_ts hv) (dp_ts (s _ _ d3)) eq.1 eq.2
        have rJ := R.rdJ (g0 := g0) (g1 := g1) hx t
        walk_at "rd"
        refine ite2 (fun c0 => ?_) (fun c0 => ?_)
        · rw [c0] at fin rJ
          walk_at "rd"
          refine ⟨(), g', f', _, _, rfl, gB, fB, hB.rd, hA.rd, by rw [gR_app]; exact rJ, lB, lA, hB.libG, hA.libG, ?_⟩
          rw [gR_app]
          refine fin _ fun H' v z s z1 z2 z3 z4 => ?_
          have pC := s _ _ pB
          have kC := kB.trans (.of_same s)
          walk_at "rd"
          refine ⟨_, _, z1, z2, z3, z3, ?_⟩
          rw [z4]
          exact k _ _ ho9 pC kC
        · have c1 : t = false := by simpa using c0
          rw [c1] at fin rJ
          walk_at "rd"
          refine ⟨(), f', g', _, _, rfl, fB, gB, hA.rd, hB.rd, by rw [gR_app]; exact rJ, lA, lB, hA.libG, hB.libG, ?_⟩
          rw [gR_app]
          refine fin _ fun H' v z s z1 z2 z3 z4 => ?_
          have pC := s _ _ pB
          have kC := kB.trans (.of_same s)
          walk_at "rd"
          refine ⟨_, _, z1, z2, z3, z3, ?_⟩
          rw [z4]
          exact k _ _ ho9 pC kC
/-! ### k26: the law -/
def spLaw (K : PySem.W.Frag) : Sp := fun vs H Q _ => ∃ (p : Addr) (ns : List Int), vs = [.ref p] ∧ SqL K H p (ns.map V.int) ∧ ns.length ≤ 63 ∧ ∀ H', Q (.bl true) H'
theorem ok_law (T : Txt K mg a d) : FnOk P w K mg base CX0 58 a.law d.law ["_law_script"] (spLaw K) := by
  have G_law_pool : FnOk P w K mg base CX0 1 a.law_pool d.law_pool ["_law_script", "_law_at"] (spPool K) := ok_law_pool T
  have G_law_bound : FnOk P w K mg base CX0 55 a.law_bound d.law_bound ["_law_pool_here"] spBnd := ok_law_bound T
  have G_law_ring : FnOk P w K mg base CX0 55 a.law_ring d.law_ring ["_law_pool_here"] spRng := ok_law_ring T
  refine T.law.ok sc_law (fun vs H Q E h => ?_) (fun cdv A outer s H vs Q E hr h => ?_)
  · obtain ⟨p, ns, rfl, _⟩ := h
    rfl
  · obtain ⟨sa, ns, rfl, hS, hl, k⟩ := h
    refine ⟨_, (pss_cons (ps_for PassesOwn.never rfl (pi_range1 (by rfl) T.n_range (pa_cons (pe_callB (call_max2 rfl) (by rfl) T.n_max (by decide +kernel) (pa_cons pe_int (pa_cons (pe_callB (call_min2 rfl) (by rfl) T.n_min (by decide +kernel) (pa_cons pe_int (pa_cons (pe_callB call_len_seq (by rfl) T.n_len PySem.boot_len (pa_cons (pv 0) pa_nil)) pa_nil))) pa_nil))) pa_nil)) (pg_name (i := 1) sc_law.nd rfl (Or.inl rfl))
  (pss_cons (ps_set (i := 2) sc_law.nd rfl (Or.inl rfl) (pe_call G_law_pool (hr.mono (by omega)) (by rfl) T.g_law_pool T.law_pool.kp T.b_law_pool .nil pass0 (pa_cons (pv 0) (pa_cons (pv 1) pa_nil))))
  (pss_one (ps_for PassesOwn.never rfl (pi_range1 (by rfl) T.n_range (pa_cons pe_int pa_nil)) (pg_name (i := 3) sc_law.nd rfl (Or.inl rfl))
  (pss_one (ps_if (PW.pt (pw_or (pt_not (pt_val (pe_call G_law_bound (hr.mono (by omega)) (by rfl) T.g_law_bound T.law_bound.kp T.b_law_bound .nil pass0 (pa_cons (pv 2) pa_nil)))) (pw_or1 (pt_not (pt_val (pe_call G_law_ring (hr.mono (by omega)) (by rfl) T.g_law_ring T.law_ring.kp T.b_law_ring .nil pass0 (pa_cons (pv 2) pa_nil))))))) (pss_one (ps_ret pe_bl)) pss_nil))))))
  (pss_one (ps_ret pe_bl))), ?_⟩
    try dsimp only [cxOf]
    walk_at "rd"
    refine for_range (fun i σ H1 => Same H H1 ∧ ∃ v1 v2 v3, σ = [some (.ref sa), v1, v2, v3]) ?_ ?_ ?_
    · exact ⟨Same.refl H, _, _, _, rfl⟩
    · rintro i σ H1 hi ⟨s1, v1, v2, v3, rfl⟩
      have hi12 : i < 63 := by revert hi; split <;> split <;> omega
      refine ⟨_, rfl, _, rfl, sa, ns, i, ?_, s1.seq hS, by omega, fun p o hp ho => ?_⟩
      · rw [Int.zero_add]; rfl
      have fp : H p = none := s1.free hp
      have s2 : Same H (upd H1 p o) := s1.new hp
      have hp0 := upd_same (H := H1) (a := p) (o := o)
      generalize upd H1 p o = H2 at s2 hp0 ⊢
      walk_at "rd"
      refine for_range (fun j σ G => ∃ (_ : Unit) (c : Nat) (o : HO) (v3 : Option V), σ = [some (.ref sa), some (.int (0 + (i : Int))), some (.ref p), v3] ∧ c = j * 60 ∧ G p = some o ∧ PoolO o c ∧ Same H G) ?_ ?_ ?_
      · exact ⟨(), 0, o, _, rfl, rfl, hp0, ho, s2⟩
      · rintro j σ G hj ⟨_, c, o, v3, rfl, ec, hpG, hoG, sG⟩
        have hj : j < 3 := hj
        have l1 : c < 2 ^ 38 := by omega
        have l2 : c + 30 < 2 ^ 38 := by omega
        walk_at "rd"
        refine ⟨(), p, c, o, rfl, hpG, hoG, l1, fun o1 G1 ho1 hp1 k1 => ?_⟩
        have sG1 : Same H G1 := Kp.same sG k1 fun b hb => by rw [hb]; exact fp
        walk_at "rd"
        refine ⟨(), p, c + 30, o1, rfl, hp1, ho1, l2, fun o2 G2 ho2 hp2 k2 => ?_⟩
        have sG2 : Same H G2 := Kp.same sG1 k2 fun b hb => by rw [hb]; exact fp
        walk_at "rd"
        exact ⟨(), c + 30 + 30, o2, _, rfl, by omega, hp2, ho2, sG2⟩
      · rintro σ G ⟨_, c, o, v3, rfl, ec, hpG, hoG, sG⟩
        exact ⟨sG, _, _, _, rfl⟩
    · rintro σ H1 ⟨_, v1, v2, v3, rfl⟩
      exact k _
end
theorem all_mk {w : World} {K : PySem.W.Frag} {h : Heap} {mg : Str → Option Value} {fa : Addr} (X : K.In h) (G : h.Ns mainGlobals mg) (hfa : mg "law" = some (.ref fa))
    {C1 : Addr}
    {t6 : Tok}
    {t8 : Tok}
    {t10 : Tok}
    {t12 : Tok}
    {t14 : Tok}
    {t16 : Tok}
    {t18 : Tok}
    {t20 : Tok}
    {t24 t25 t26 t27 t28 t29 t30 t31 : Tok} {p22 : Addr} {dd32 : Option Addr} {nn33 : Nat} {sl34 : Array (Option Value)}
    {f35 p36 : Addr} {rs39 : List Value}
    {od40 an40 : Option Addr} {sl40 : Array (Option Value)} {oc40 kV40 dc40 pm40 cd40 ct40 : Value}
    {f41 : Addr}
    {od43 an43 : Option Addr} {sl43 : Array (Option Value)} {oc43 kV43 dc43 pm43 cd43 ct43 : Value}
    {C45 : Addr}
    {f47 : Addr} {nm48 qn48 : Str} {N48 : Addr} {bs48 bm48 : List Value} {sn48 : List Str} {sub48 : List Value} {ab48 : Bool} {col48 : Option Bool} {dd48 : Option Addr} {k048 k148 k248 k348 k548 : Option Value}
    {oc48 : Value} {od48 : Option Addr} {doc48 pm48 : Value} {an48 : Option Addr} {cda48 cc48 : Addr} {ct48 : Value} {osl48 : Array (Option Value)} {ccl48 : Value} {cdd48 : Option Addr} {vs48 : Array Value} {ccs48 : Array (Option Value)} {tf48 : Tok} {cl48 : Value} {cld48 : Option Addr} {csl48 : Array (Option Value)}
    {C70 : Addr}
    {f72 : Addr} {nm73 qn73 : Str} {N73 : Addr} {bs73 bm73 : List Value} {sn73 : List Str} {sub73 : List Value} {ab73 : Bool} {col73 : Option Bool} {dd73 : Option Addr} {k073 k173 k273 k373 k573 : Option Value}
    {oc73 : Value} {od73 : Option Addr} {doc73 pm73 : Value} {an73 : Option Addr} {cda73 cc73 : Addr} {ct73 : Value} {osl73 : Array (Option Value)} {ccl73 : Value} {cdd73 : Option Addr} {vs73 : Array Value} {ccs73 : Array (Option Value)} {tf73 : Tok} {cl73 : Value} {cld73 : Option Addr} {csl73 : Array (Option Value)}
    {C95 : Addr}
    {f97 : Addr} {nm98 qn98 : Str} {N98 : Addr} {bs98 bm98 : List Value} {sn98 : List Str} {sub98 : List Value} {ab98 : Bool} {col98 : Option Bool} {dd98 : Option Addr} {k098 k198 k298 k398 k598 : Option Value}
    {oc98 : Value} {od98 : Option Addr} {doc98 pm98 : Value} {an98 : Option Addr} {cda98 cc98 : Addr} {ct98 : Value} {osl98 : Array (Option Value)} {ccl98 : Value} {cdd98 : Option Addr} {vs98 : Array Value} {ccs98 : Array (Option Value)} {tf98 : Tok} {cl98 : Value} {cld98 : Option Addr} {csl98 : Array (Option Value)}
    {C120 : Addr}
    {f122 : Addr} {nm123 qn123 : Str} {N123 : Addr} {bs123 bm123 : List Value} {sn123 : List Str} {sub123 : List Value} {ab123 : Bool} {col123 : Option Bool} {dd123 : Option Addr} {k0123 k1123 k2123 k3123 k5123 : Option Value}
    {oc123 : Value} {od123 : Option Addr} {doc123 pm123 : Value} {an123 : Option Addr} {cda123 cc123 : Addr} {ct123 : Value} {osl123 : Array (Option Value)} {ccl123 : Value} {cdd123 : Option Addr} {vs123 : Array Value} {ccs123 : Array (Option Value)} {tf123 : Tok} {cl123 : Value} {cld123 : Option Addr} {csl123 : Array (Option Value)}
    {t148 : Tok}
    {f149 : Addr}
    {od151 an151 : Option Addr} {sl151 : Array (Option Value)} {oc151 kV151 dc151 pm151 cd151 ct151 : Value}
    {C152 : Addr}
    {f163 : Addr}
    {od168 an168 : Option Addr} {sl168 : Array (Option Value)} {oc168 kV168 dc168 pm168 cd168 ct168 : Value}
    {f169 : Addr}
    {od172 an172 : Option Addr} {sl172 : Array (Option Value)} {oc172 kV172 dc172 pm172 cd172 ct172 : Value}
    {f173 : Addr}
    {od176 an176 : Option Addr} {sl176 : Array (Option Value)} {oc176 kV176 dc176 pm176 cd176 ct176 : Value}
    {f177 : Addr}
    {od180 an180 : Option Addr} {sl180 : Array (Option Value)} {oc180 kV180 dc180 pm180 cd180 ct180 : Value}
    {f181 : Addr}
    {od184 an184 : Option Addr} {sl184 : Array (Option Value)} {oc184 kV184 dc184 pm184 cd184 ct184 : Value}
    {f185 : Addr}
    {od188 an188 : Option Addr} {sl188 : Array (Option Value)} {oc188 kV188 dc188 pm188 cd188 ct188 : Value}
    {f189 : Addr}
    {od192 an192 : Option Addr} {sl192 : Array (Option Value)} {oc192 kV192 dc192 pm192 cd192 ct192 : Value}
    {f193 : Addr}
    {od196 an196 : Option Addr} {sl196 : Array (Option Value)} {oc196 kV196 dc196 pm196 cd196 ct196 : Value}
    {t198 : Tok}
    {t200 : Tok}
    {p202 : Addr}
    {dd204 : Option Addr} {nn205 : Nat} {sl206 : Array (Option Value)}
    {t207 : Tok}
    {t208 : Tok}
    {t209 : Tok}
    {t210 : Tok}
    {t211 : Tok}
    {p213 : Addr}
    {dd215 : Option Addr} {nn216 : Nat} {sl217 : Array (Option Value)}
    {p218 : Addr}
    {p219 : Addr}
    {p220 : Addr}
    {p221 : Addr}
    {p222 : Addr}
    {p223 : Addr}
    {dd225 : Option Addr} {nn226 : Nat} {sl227 : Array (Option Value)}
    {t228 : Tok}
    {t229 : Tok}
    {dd231 : Option Addr} {nn232 : Nat} {sl233 : Array (Option Value)}
    {t234 : Tok}
    {t235 : Tok}
    {dd237 : Option Addr} {nn238 : Nat} {sl239 : Array (Option Value)}
    {t240 : Tok}
    {t241 : Tok}
    {dd243 : Option Addr} {nn244 : Nat} {sl245 : Array (Option Value)}
    {t246 : Tok}
    {t247 : Tok}
    {dd249 : Option Addr} {nn250 : Nat} {sl251 : Array (Option Value)}
    {t252 : Tok}
    {t253 : Tok}
    {dd255 : Option Addr} {nn256 : Nat} {sl257 : Array (Option Value)}
    {t258 : Tok}
    {t259 : Tok}
    {C260 : Addr}
    {f272 : Addr}
    {od277 an277 : Option Addr} {sl277 : Array (Option Value)} {oc277 dc277 pm277 cd277 ct277 : Value}
    {T278 : Addr} {oc279 : Value} {od280 : Option Addr} {on281 : Nat} {os282 : Array (Option Value)}
    {t283 : Tok}
    {kV277 : Value}
    {f285 : Addr}
    {od287 an287 : Option Addr} {sl287 : Array (Option Value)} {oc287 kV287 dc287 pm287 cd287 ct287 : Value}
    {f288 : Addr}
    {od290 an290 : Option Addr} {sl290 : Array (Option Value)} {oc290 dc290 pm290 cd290 ct290 : Value}
    {T291 : Addr} {oc292 : Value} {od293 : Option Addr} {on294 : Nat} {os295 : Array (Option Value)}
    {kV290 : Value}
    {f298 : Addr}
    {od300 an300 : Option Addr} {sl300 : Array (Option Value)} {oc300 kV300 dc300 pm300 cd300 ct300 : Value}
    {f301 : Addr}
    {od303 an303 : Option Addr} {sl303 : Array (Option Value)} {oc303 kV303 dc303 pm303 cd303 ct303 : Value}
    {f304 : Addr}
    {od306 an306 : Option Addr} {sl306 : Array (Option Value)} {oc306 kV306 dc306 pm306 cd306 ct306 : Value}
    {f307 : Addr}
    {od309 an309 : Option Addr} {sl309 : Array (Option Value)} {oc309 kV309 dc309 pm309 cd309 ct309 : Value}
    {f310 : Addr}
    {od312 an312 : Option Addr} {sl312 : Array (Option Value)} {oc312 kV312 dc312 pm312 cd312 ct312 : Value}
    {f313 : Addr}
    {od316 an316 : Option Addr} {sl316 : Array (Option Value)} {oc316 kV316 dc316 pm316 cd316 ct316 : Value}
    {f317 : Addr}
    {od320 an320 : Option Addr} {sl320 : Array (Option Value)} {oc320 kV320 dc320 pm320 cd320 ct320 : Value}
    {f321 : Addr}
    {od324 an324 : Option Addr} {sl324 : Array (Option Value)} {oc324 kV324 dc324 pm324 cd324 ct324 : Value}
    {f325 : Addr}
    {od328 an328 : Option Addr} {sl328 : Array (Option Value)} {oc328 kV328 dc328 pm328 cd328 ct328 : Value}
    {f329 : Addr}
    {od332 an332 : Option Addr} {sl332 : Array (Option Value)} {oc332 kV332 dc332 pm332 cd332 ct332 : Value}
    {f333 : Addr}
    {od336 an336 : Option Addr} {sl336 : Array (Option Value)} {oc336 kV336 dc336 pm336 cd336 ct336 : Value}
    {f337 : Addr}
    {od340 an340 : Option Addr} {sl340 : Array (Option Value)} {oc340 kV340 dc340 pm340 cd340 ct340 : Value}
    {f343 p344 : Addr} {rs347 : List Value}
    {od348 an348 : Option Addr} {sl348 : Array (Option Value)} {oc348 kV348 dc348 pm348 cd348 ct348 : Value}
    {f349 : Addr}
    {od351 an351 : Option Addr} {sl351 : Array (Option Value)} {oc351 kV351 dc351 pm351 cd351 ct351 : Value}
    {f352 : Addr}
    {od354 an354 : Option Addr} {sl354 : Array (Option Value)} {oc354 kV354 dc354 pm354 cd354 ct354 : Value}
    {f355 : Addr}
    {od357 an357 : Option Addr} {sl357 : Array (Option Value)} {oc357 kV357 dc357 pm357 cd357 ct357 : Value}
    {f358 : Addr}
    {od360 an360 : Option Addr} {sl360 : Array (Option Value)} {oc360 kV360 dc360 pm360 cd360 ct360 : Value}
    {f361 : Addr}
    {od363 an363 : Option Addr} {sl363 : Array (Option Value)} {oc363 kV363 dc363 pm363 cd363 ct363 : Value}
    {f364 : Addr}
    {od366 an366 : Option Addr} {sl366 : Array (Option Value)} {oc366 kV366 dc366 pm366 cd366 ct366 : Value}
    {f367 : Addr}
    {od369 an369 : Option Addr} {sl369 : Array (Option Value)} {oc369 kV369 dc369 pm369 cd369 ct369 : Value}
    {od370 an370 : Option Addr} {sl370 : Array (Option Value)} {oc370 kV370 dc370 pm370 cd370 ct370 : Value}
    (a2 : PySem.W.nsIn K mainGlobals "Mode" = some (some (.ref C1)))
    (r3 : PySem.W.readsIn K C1 (.type "type") = true)
    (s4 : PySem.W.specialIn K (.ref C1) "__getattribute__" = some (some (.builtin "type.__getattribute__")))
    (z5 : PySem.W.findCls K (.ref C1) (.type "type") "JOIN" = some (.val (.str "join" t6)))
    (z7 : PySem.W.findCls K (.ref C1) (.type "type") "INNER" = some (.val (.str "inner" t8)))
    (z9 : PySem.W.findCls K (.ref C1) (.type "type") "APART" = some (.val (.str "apart" t10)))
    (z11 : PySem.W.findCls K (.ref C1) (.type "type") "MUST" = some (.val (.str "must" t12)))
    (z13 : PySem.W.findCls K (.ref C1) (.type "type") "EITHER" = some (.val (.str "either" t14)))
    (z15 : PySem.W.findCls K (.ref C1) (.type "type") "NEVER" = some (.val (.str "never" t16)))
    (z17 : PySem.W.findCls K (.ref C1) (.type "type") "OUTSIDE" = some (.val (.str "outside" t18)))
    (z19 : PySem.W.findCls K (.ref C1) (.type "type") "ALONE" = some (.val (.str "alone" t20)))
    (z21 : PySem.W.findCls K (.ref C1) (.type "type") "ALL" = some (.val (.ref p22)))
    (l23 : K.lookup p22 = some ⟨.type "tuple", dd32, .seq #[.str "join" t24, .str "inner" t25, .str "apart" t26, .str "must" t27, .str "either" t28, .str "never" t29, .str "outside" t30, .str "alone" t31] nn33, sl34⟩)
    (z37 : PySem.W.findCls K (.ref C1) (.type "type") "is_mode" = some (.get (.builtin "staticmethod.__get__") (.ref p36) .none (.ref C1)))
    (r38 : PySem.W.recIn K p36 "staticmethod" = some (.ref f35 :: rs39))
    (l40 : K.lookup f35 = some ⟨oc40, od40, .func (PySem.W.fnOf "is_mode" "Mode.is_mode" (defArgs s_Mode_is_mode) (defBody s_Mode_is_mode) (defScope s_Mode_is_mode) .none kV40 dc40 pm40 an40 cd40 ct40), sl40⟩)
    (c40 : PySem.W.codeIn K cd40 "Mode.is_mode" = true)
    (k40 : PySem.W.keepIn K (.ref f35) = true)
    (a42 : PySem.W.nsIn K mainGlobals "is_word" = some (some (.ref f41)))
    (l43 : K.lookup f41 = some ⟨oc43, od43, .func (PySem.W.fnOf "is_word" "is_word" (defArgs s_is_word) (defBody s_is_word) (defScope s_is_word) .none kV43 dc43 pm43 an43 cd43 ct43), sl43⟩)
    (c43 : PySem.W.codeIn K cd43 "is_word" = true)
    (k43 : PySem.W.keepIn K (.ref f41) = true)
    (z44 : PySem.W.nsIn K cStatics "thirdparty.any" = some none)
    (a46 : PySem.W.nsIn K mainGlobals "TooMany" = some (some (.ref C45)))
    (e49 : K.lookup C45 = some (excClassObj nm48 qn48 C45 N48 bs48 bm48 true sn48 sub48 ab48 col48 dd48 k048 k148 k248 k348 k548 "ValueError.__new__"))
    (e50 : PySem.HandSPX.refsVE bm48 = true)
    (e51 : PySem.W.findIn K (.ref C45) "__setattr__" = some (some (.builtin "object.__setattr__")))
    (e52 : PySem.W.findIn K (.ref C45) "__getattribute__" = some (some (.builtin "BaseException.__getattribute__")))
    (e53 : PySem.W.findIn K (.ref C45) "__getattr__" = some none)
    (e54 : PySem.W.findIn K (.ref C45) "__init__" = some (some (.ref f47)))
    (e55 : PySem.W.typeIn K (.ref f47) = some (.type "function"))
    (e56 : PySem.W.keepIn K (.ref C45) = true)
    (e57 : PySem.W.subIn K (.ref C45) (.type "BaseException") = some true)
    (e58 : PySem.W.subIn K (.ref C45) (.type "ValueError") = some true)
    (e59 : PySem.W.typeIn K (.ref C45) = some (.type "type"))
    (e60 : PySem.W.hasDictIn K C45 = true)
    (e61 : PySem.W.ks_superIn K C45 C45 "__init__" = some (some (.builtin "ValueError.__init__")))
    (e62 : PySem.W.mroIn K C45 (.ref C45) = some true)
    (e63 : PySem.W.exmOne K (.ref C45) (.ref C45) = some true)
    (e64 : K.lookup f47 = some ⟨oc48, od48, .func (PySem.W.ksFn "__init__" "TooMany.__init__" (defArgs s_TooManyU_initU) (defBody s_TooManyU_initU) (defScope s_TooManyU_initU) .none .none doc48 pm48 an48 (.ref cda48) ct48 cc48), osl48⟩)
    (e65 : PySem.W.codeIn K (.ref cda48) "TooMany.__init__" = true)
    (e66 : K.lookup cda48 = some ⟨ccl48, cdd48, .fields vs48, ccs48⟩)
    (e67 : vs48[2]? = some (.str P.main.file tf48))
    (e68 : K.lookup cc48 = some ⟨cl48, cld48, .cell (some (.ref C45)), csl48⟩)
    (e69 : PySem.W.findIn K (.ref C45) "what" = some none)
    (a71 : PySem.W.nsIn K mainGlobals "BadLibrary" = some (some (.ref C70)))
    (e74 : K.lookup C70 = some (excClassObj nm73 qn73 C70 N73 bs73 bm73 true sn73 sub73 ab73 col73 dd73 k073 k173 k273 k373 k573 "ValueError.__new__"))
    (e75 : PySem.HandSPX.refsVE bm73 = true)
    (e76 : PySem.W.findIn K (.ref C70) "__setattr__" = some (some (.builtin "object.__setattr__")))
    (e77 : PySem.W.findIn K (.ref C70) "__getattribute__" = some (some (.builtin "BaseException.__getattribute__")))
    (e78 : PySem.W.findIn K (.ref C70) "__getattr__" = some none)
    (e79 : PySem.W.findIn K (.ref C70) "__init__" = some (some (.ref f72)))
    (e80 : PySem.W.typeIn K (.ref f72) = some (.type "function"))
    (e81 : PySem.W.keepIn K (.ref C70) = true)
    (e82 : PySem.W.subIn K (.ref C70) (.type "BaseException") = some true)
    (e83 : PySem.W.subIn K (.ref C70) (.type "ValueError") = some true)
    (e84 : PySem.W.typeIn K (.ref C70) = some (.type "type"))
    (e85 : PySem.W.hasDictIn K C70 = true)
    (e86 : PySem.W.ks_superIn K C70 C70 "__init__" = some (some (.builtin "ValueError.__init__")))
    (e87 : PySem.W.mroIn K C70 (.ref C70) = some true)
    (e88 : PySem.W.exmOne K (.ref C70) (.ref C70) = some true)
    (e89 : K.lookup f72 = some ⟨oc73, od73, .func (PySem.W.ksFn "__init__" "BadLibrary.__init__" (defArgs s_BadLibraryU_initU) (defBody s_BadLibraryU_initU) (defScope s_BadLibraryU_initU) .none .none doc73 pm73 an73 (.ref cda73) ct73 cc73), osl73⟩)
    (e90 : PySem.W.codeIn K (.ref cda73) "BadLibrary.__init__" = true)
    (e91 : K.lookup cda73 = some ⟨ccl73, cdd73, .fields vs73, ccs73⟩)
    (e92 : vs73[2]? = some (.str P.main.file tf73))
    (e93 : K.lookup cc73 = some ⟨cl73, cld73, .cell (some (.ref C70)), csl73⟩)
    (e94 : PySem.W.findIn K (.ref C70) "line" = some none)
    (a96 : PySem.W.nsIn K mainGlobals "Endless" = some (some (.ref C95)))
    (e99 : K.lookup C95 = some (excClassObj nm98 qn98 C95 N98 bs98 bm98 true sn98 sub98 ab98 col98 dd98 k098 k198 k298 k398 k598 "ValueError.__new__"))
    (e100 : PySem.HandSPX.refsVE bm98 = true)
    (e101 : PySem.W.findIn K (.ref C95) "__setattr__" = some (some (.builtin "object.__setattr__")))
    (e102 : PySem.W.findIn K (.ref C95) "__getattribute__" = some (some (.builtin "BaseException.__getattribute__")))
    (e103 : PySem.W.findIn K (.ref C95) "__getattr__" = some none)
    (e104 : PySem.W.findIn K (.ref C95) "__init__" = some (some (.ref f97)))
    (e105 : PySem.W.typeIn K (.ref f97) = some (.type "function"))
    (e106 : PySem.W.keepIn K (.ref C95) = true)
    (e107 : PySem.W.subIn K (.ref C95) (.type "BaseException") = some true)
    (e108 : PySem.W.subIn K (.ref C95) (.type "ValueError") = some true)
    (e109 : PySem.W.typeIn K (.ref C95) = some (.type "type"))
    (e110 : PySem.W.hasDictIn K C95 = true)
    (e111 : PySem.W.ks_superIn K C95 C95 "__init__" = some (some (.builtin "ValueError.__init__")))
    (e112 : PySem.W.mroIn K C95 (.ref C95) = some true)
    (e113 : PySem.W.exmOne K (.ref C95) (.ref C95) = some true)
    (e114 : K.lookup f97 = some ⟨oc98, od98, .func (PySem.W.ksFn "__init__" "Endless.__init__" (defArgs s_EndlessU_initU) (defBody s_EndlessU_initU) (defScope s_EndlessU_initU) .none .none doc98 pm98 an98 (.ref cda98) ct98 cc98), osl98⟩)
    (e115 : PySem.W.codeIn K (.ref cda98) "Endless.__init__" = true)
    (e116 : K.lookup cda98 = some ⟨ccl98, cdd98, .fields vs98, ccs98⟩)
    (e117 : vs98[2]? = some (.str P.main.file tf98))
    (e118 : K.lookup cc98 = some ⟨cl98, cld98, .cell (some (.ref C95)), csl98⟩)
    (e119 : PySem.W.findIn K (.ref C95) "name" = some none)
    (a121 : PySem.W.nsIn K mainGlobals "Clash" = some (some (.ref C120)))
    (e124 : K.lookup C120 = some (excClassObj nm123 qn123 C120 N123 bs123 bm123 true sn123 sub123 ab123 col123 dd123 k0123 k1123 k2123 k3123 k5123 "ValueError.__new__"))
    (e125 : PySem.HandSPX.refsVE bm123 = true)
    (e126 : PySem.W.findIn K (.ref C120) "__setattr__" = some (some (.builtin "object.__setattr__")))
    (e127 : PySem.W.findIn K (.ref C120) "__getattribute__" = some (some (.builtin "BaseException.__getattribute__")))
    (e128 : PySem.W.findIn K (.ref C120) "__getattr__" = some none)
    (e129 : PySem.W.findIn K (.ref C120) "__init__" = some (some (.ref f122)))
    (e130 : PySem.W.typeIn K (.ref f122) = some (.type "function"))
    (e131 : PySem.W.keepIn K (.ref C120) = true)
    (e132 : PySem.W.subIn K (.ref C120) (.type "BaseException") = some true)
    (e133 : PySem.W.subIn K (.ref C120) (.type "ValueError") = some true)
    (e134 : PySem.W.typeIn K (.ref C120) = some (.type "type"))
    (e135 : PySem.W.hasDictIn K C120 = true)
    (e136 : PySem.W.ks_superIn K C120 C120 "__init__" = some (some (.builtin "ValueError.__init__")))
    (e137 : PySem.W.mroIn K C120 (.ref C120) = some true)
    (e138 : PySem.W.exmOne K (.ref C120) (.ref C120) = some true)
    (e139 : K.lookup f122 = some ⟨oc123, od123, .func (PySem.W.ksFn "__init__" "Clash.__init__" (defArgs s_ClashU_initU) (defBody s_ClashU_initU) (defScope s_ClashU_initU) .none .none doc123 pm123 an123 (.ref cda123) ct123 cc123), osl123⟩)
    (e140 : PySem.W.codeIn K (.ref cda123) "Clash.__init__" = true)
    (e141 : K.lookup cda123 = some ⟨ccl123, cdd123, .fields vs123, ccs123⟩)
    (e142 : vs123[2]? = some (.str P.main.file tf123))
    (e143 : K.lookup cc123 = some ⟨cl123, cld123, .cell (some (.ref C120)), csl123⟩)
    (e144 : PySem.W.findIn K (.ref C120) "name" = some none)
    (z145 : PySem.W.exmOne K (.ref C45) (.ref C95) = some false)
    (z146 : PySem.W.exmOne K (.ref C95) (.ref C45) = some false)
    (z147 : PySem.W.nsIn K mainGlobals "DEEPEST" = some (some (.int 8 t148)))
    (a150 : PySem.W.nsIn K mainGlobals "split_line" = some (some (.ref f149)))
    (l151 : K.lookup f149 = some ⟨oc151, od151, .func (PySem.W.fnOf "split_line" "split_line" (defArgs s_split_line) (defBody s_split_line) (defScope s_split_line) .none kV151 dc151 pm151 an151 cd151 ct151), sl151⟩)
    (c151 : PySem.W.codeIn K cd151 "split_line" = true)
    (k151 : PySem.W.keepIn K (.ref f149) = true)
    (a153 : PySem.W.nsIn K mainGlobals "Reader" = some (some (.ref C152)))
    (q154 : PySem.W.plainGet K C152 Str.empty = true)
    (q155 : PySem.W.hasDictIn K C152 = true)
    (q156 : PySem.W.plainOver K C152 = true)
    (q157 : PySem.W.findIn K (.ref C152) "__setattr__" = some (some (.builtin "object.__setattr__")))
    (z158 : PySem.W.findIn K (.ref C152) "rows" = some none)
    (z159 : PySem.W.findIn K (.ref C152) "at" = some none)
    (z160 : PySem.W.findIn K (.ref C152) "starts" = some none)
    (z161 : PySem.W.findIn K (.ref C152) "bodies" = some none)
    (z162 : PySem.W.findIn K (.ref C152) "marks" = some none)
    (q164 : PySem.W.makesIn K C152 = true)
    (q165 : PySem.W.findIn K (.ref C152) "__init__" = some (some (.ref f163)))
    (q166 : PySem.W.isFn K (.ref f163) = true)
    (q167 : PySem.W.keepIn K (.ref C152) = true)
    (l168 : K.lookup f163 = some ⟨oc168, od168, .func (PySem.W.fnOf "__init__" "Reader.__init__" (defArgs s_ReaderU_initU) (defBody s_ReaderU_initU) (defScope s_ReaderU_initU) .none kV168 dc168 pm168 an168 cd168 ct168), sl168⟩)
    (c168 : PySem.W.codeIn K cd168 "Reader.__init__" = true)
    (k168 : PySem.W.keepIn K (.ref f163) = true)
    (q170 : PySem.W.findIn K (.ref C152) "words_at" = some (some (.ref f169)))
    (q171 : PySem.W.isFn K (.ref f169) = true)
    (l172 : K.lookup f169 = some ⟨oc172, od172, .func (PySem.W.fnOf "words_at" "Reader.words_at" (defArgs s_Reader_words_at) (defBody s_Reader_words_at) (defScope s_Reader_words_at) .none kV172 dc172 pm172 an172 cd172 ct172), sl172⟩)
    (c172 : PySem.W.codeIn K cd172 "Reader.words_at" = true)
    (k172 : PySem.W.keepIn K (.ref f169) = true)
    (q174 : PySem.W.findIn K (.ref C152) "wrong_if" = some (some (.ref f173)))
    (q175 : PySem.W.isFn K (.ref f173) = true)
    (l176 : K.lookup f173 = some ⟨oc176, od176, .func (PySem.W.fnOf "wrong_if" "Reader.wrong_if" (defArgs s_Reader_wrong_if) (defBody s_Reader_wrong_if) (defScope s_Reader_wrong_if) .none kV176 dc176 pm176 an176 cd176 ct176), sl176⟩)
    (c176 : PySem.W.codeIn K cd176 "Reader.wrong_if" = true)
    (k176 : PySem.W.keepIn K (.ref f173) = true)
    (q178 : PySem.W.findIn K (.ref C152) "read_all" = some (some (.ref f177)))
    (q179 : PySem.W.isFn K (.ref f177) = true)
    (l180 : K.lookup f177 = some ⟨oc180, od180, .func (PySem.W.fnOf "read_all" "Reader.read_all" (defArgs s_Reader_read_all) (defBody s_Reader_read_all) (defScope s_Reader_read_all) .none kV180 dc180 pm180 an180 cd180 ct180), sl180⟩)
    (c180 : PySem.W.codeIn K cd180 "Reader.read_all" = true)
    (k180 : PySem.W.keepIn K (.ref f177) = true)
    (q182 : PySem.W.findIn K (.ref C152) "read_body" = some (some (.ref f181)))
    (q183 : PySem.W.isFn K (.ref f181) = true)
    (l184 : K.lookup f181 = some ⟨oc184, od184, .func (PySem.W.fnOf "read_body" "Reader.read_body" (defArgs s_Reader_read_body) (defBody s_Reader_read_body) (defScope s_Reader_read_body) .none kV184 dc184 pm184 an184 cd184 ct184), sl184⟩)
    (c184 : PySem.W.codeIn K cd184 "Reader.read_body" = true)
    (k184 : PySem.W.keepIn K (.ref f181) = true)
    (q186 : PySem.W.findIn K (.ref C152) "read_statement" = some (some (.ref f185)))
    (q187 : PySem.W.isFn K (.ref f185) = true)
    (l188 : K.lookup f185 = some ⟨oc188, od188, .func (PySem.W.fnOf "read_statement" "Reader.read_statement" (defArgs s_Reader_read_statement) (defBody s_Reader_read_statement) (defScope s_Reader_read_statement) .none kV188 dc188 pm188 an188 cd188 ct188), sl188⟩)
    (c188 : PySem.W.codeIn K cd188 "Reader.read_statement" = true)
    (k188 : PySem.W.keepIn K (.ref f185) = true)
    (q190 : PySem.W.findIn K (.ref C152) "read_block" = some (some (.ref f189)))
    (q191 : PySem.W.isFn K (.ref f189) = true)
    (l192 : K.lookup f189 = some ⟨oc192, od192, .func (PySem.W.fnOf "read_block" "Reader.read_block" (defArgs s_Reader_read_block) (defBody s_Reader_read_block) (defScope s_Reader_read_block) .none kV192 dc192 pm192 an192 cd192 ct192), sl192⟩)
    (c192 : PySem.W.codeIn K cd192 "Reader.read_block" = true)
    (k192 : PySem.W.keepIn K (.ref f189) = true)
    (q194 : PySem.W.findIn K (.ref C152) "read_try" = some (some (.ref f193)))
    (q195 : PySem.W.isFn K (.ref f193) = true)
    (l196 : K.lookup f193 = some ⟨oc196, od196, .func (PySem.W.fnOf "read_try" "Reader.read_try" (defArgs s_Reader_read_try) (defBody s_Reader_read_try) (defScope s_Reader_read_try) .none kV196 dc196 pm196 an196 cd196 ct196), sl196⟩)
    (c196 : PySem.W.codeIn K cd196 "Reader.read_try" = true)
    (k196 : PySem.W.keepIn K (.ref f193) = true)
    (z197 : PySem.W.nsIn K mainGlobals "MOST_CHARACTERS" = some (some (.int 6000 t198)))
    (z199 : PySem.W.nsIn K mainGlobals "MOST_WEIGHT" = some (some (.int 400 t200)))
    (a201 : PySem.W.nsIn K mainGlobals "DATABASE_ERRORS" = some (some (.ref p202)))
    (l203 : K.lookup p202 = some ⟨.type "tuple", dd204, .seq #[.str "doomed" t207, .str "missing" t208, .str "present" t209, .str "refused" t210, .str "waits" t211] nn205, sl206⟩)
    (a212 : PySem.W.nsIn K mainGlobals "BOUNDS" = some (some (.ref p213)))
    (l214 : K.lookup p213 = some ⟨.type "tuple", dd215, .seq #[.ref p218, .ref p219, .ref p220, .ref p221, .ref p222, .ref p223] nn216, sl217⟩)
    (l224 : K.lookup p218 = some ⟨.type "tuple", dd225, .seq #[.str "functions" t228, .int 12 t229] nn226, sl227⟩)
    (l230 : K.lookup p219 = some ⟨.type "tuple", dd231, .seq #[.str "statements" t234, .int 80 t235] nn232, sl233⟩)
    (l236 : K.lookup p220 = some ⟨.type "tuple", dd237, .seq #[.str "records" t240, .int 6 t241] nn238, sl239⟩)
    (l242 : K.lookup p221 = some ⟨.type "tuple", dd243, .seq #[.str "errors" t246, .int 11 t247] nn244, sl245⟩)
    (l248 : K.lookup p222 = some ⟨.type "tuple", dd249, .seq #[.str "blocks" t252, .int 16 t253] nn250, sl251⟩)
    (l254 : K.lookup p223 = some ⟨.type "tuple", dd255, .seq #[.str "unknown" t258, .int 4 t259] nn256, sl257⟩)
    (a261 : PySem.W.nsIn K mainGlobals "Library" = some (some (.ref C260)))
    (q262 : PySem.W.plainGet K C260 Str.empty = true)
    (q263 : PySem.W.hasDictIn K C260 = true)
    (q264 : PySem.W.plainOver K C260 = true)
    (q265 : PySem.W.findIn K (.ref C260) "__setattr__" = some (some (.builtin "object.__setattr__")))
    (z266 : PySem.W.findIn K (.ref C260) "text" = some none)
    (z267 : PySem.W.findIn K (.ref C260) "lines" = some none)
    (z268 : PySem.W.findIn K (.ref C260) "starts" = some none)
    (z269 : PySem.W.findIn K (.ref C260) "bodies" = some none)
    (z270 : PySem.W.findIn K (.ref C260) "marks" = some none)
    (z271 : PySem.W.findIn K (.ref C260) "pairs" = some none)
    (q273 : PySem.W.makesIn K C260 = true)
    (q274 : PySem.W.findIn K (.ref C260) "__init__" = some (some (.ref f272)))
    (q275 : PySem.W.isFn K (.ref f272) = true)
    (q276 : PySem.W.keepIn K (.ref C260) = true)
    (l277 : K.lookup f272 = some ⟨oc277, od277, .func (PySem.W.fnOf "__init__" "Library.__init__" (defArgs s_LibraryU_initU) (defBody s_LibraryU_initU) (defScope s_LibraryU_initU) (.ref T278) kV277 dc277 pm277 an277 cd277 ct277), sl277⟩)
    (c277 : PySem.W.codeIn K cd277 "Library.__init__" = true)
    (k277 : PySem.W.keepIn K (.ref f272) = true)
    (lT284 : K.lookup T278 = some ⟨oc279, od280, .seq #[.int 6000 t283] on281, os282⟩)
    (a286 : PySem.W.nsIn K mainGlobals "parts_of" = some (some (.ref f285)))
    (l287 : K.lookup f285 = some ⟨oc287, od287, .func (PySem.W.fnOf "parts_of" "parts_of" (defArgs s_parts_of) (defBody s_parts_of) (defScope s_parts_of) .none kV287 dc287 pm287 an287 cd287 ct287), sl287⟩)
    (c287 : PySem.W.codeIn K cd287 "parts_of" = true)
    (k287 : PySem.W.keepIn K (.ref f285) = true)
    (a289 : PySem.W.nsIn K mainGlobals "listed_statements" = some (some (.ref f288)))
    (l290 : K.lookup f288 = some ⟨oc290, od290, .func (PySem.W.fnOf "listed_statements" "listed_statements" (defArgs s_listed_statements) (defBody s_listed_statements) (defScope s_listed_statements) (.ref T291) kV290 dc290 pm290 an290 cd290 ct290), sl290⟩)
    (c290 : PySem.W.codeIn K cd290 "listed_statements" = true)
    (k290 : PySem.W.keepIn K (.ref f288) = true)
    (lT297 : K.lookup T291 = some ⟨oc292, od293, .seq #[.bool false] on294, os295⟩)
    (a299 : PySem.W.nsIn K mainGlobals "words_of" = some (some (.ref f298)))
    (l300 : K.lookup f298 = some ⟨oc300, od300, .func (PySem.W.fnOf "words_of" "words_of" (defArgs s_words_of) (defBody s_words_of) (defScope s_words_of) .none kV300 dc300 pm300 an300 cd300 ct300), sl300⟩)
    (c300 : PySem.W.codeIn K cd300 "words_of" = true)
    (k300 : PySem.W.keepIn K (.ref f298) = true)
    (a302 : PySem.W.nsIn K mainGlobals "comes_back" = some (some (.ref f301)))
    (l303 : K.lookup f301 = some ⟨oc303, od303, .func (PySem.W.fnOf "comes_back" "comes_back" (defArgs s_comes_back) (defBody s_comes_back) (defScope s_comes_back) .none kV303 dc303 pm303 an303 cd303 ct303), sl303⟩)
    (c303 : PySem.W.codeIn K cd303 "comes_back" = true)
    (k303 : PySem.W.keepIn K (.ref f301) = true)
    (a305 : PySem.W.nsIn K mainGlobals "free_statements" = some (some (.ref f304)))
    (l306 : K.lookup f304 = some ⟨oc306, od306, .func (PySem.W.fnOf "free_statements" "free_statements" (defArgs s_free_statements) (defBody s_free_statements) (defScope s_free_statements) .none kV306 dc306 pm306 an306 cd306 ct306), sl306⟩)
    (c306 : PySem.W.codeIn K cd306 "free_statements" = true)
    (k306 : PySem.W.keepIn K (.ref f304) = true)
    (a308 : PySem.W.nsIn K mainGlobals "weight_of" = some (some (.ref f307)))
    (l309 : K.lookup f307 = some ⟨oc309, od309, .func (PySem.W.fnOf "weight_of" "weight_of" (defArgs s_weight_of) (defBody s_weight_of) (defScope s_weight_of) .none kV309 dc309 pm309 an309 cd309 ct309), sl309⟩)
    (c309 : PySem.W.codeIn K cd309 "weight_of" = true)
    (k309 : PySem.W.keepIn K (.ref f307) = true)
    (a311 : PySem.W.nsIn K mainGlobals "body_weight" = some (some (.ref f310)))
    (l312 : K.lookup f310 = some ⟨oc312, od312, .func (PySem.W.fnOf "body_weight" "body_weight" (defArgs s_body_weight) (defBody s_body_weight) (defScope s_body_weight) .none kV312 dc312 pm312 an312 cd312 ct312), sl312⟩)
    (c312 : PySem.W.codeIn K cd312 "body_weight" = true)
    (k312 : PySem.W.keepIn K (.ref f310) = true)
    (q314 : PySem.W.findIn K (.ref C260) "stay_in_bounds" = some (some (.ref f313)))
    (q315 : PySem.W.isFn K (.ref f313) = true)
    (l316 : K.lookup f313 = some ⟨oc316, od316, .func (PySem.W.fnOf "stay_in_bounds" "Library.stay_in_bounds" (defArgs s_Library_stay_in_bounds) (defBody s_Library_stay_in_bounds) (defScope s_Library_stay_in_bounds) .none kV316 dc316 pm316 an316 cd316 ct316), sl316⟩)
    (c316 : PySem.W.codeIn K cd316 "Library.stay_in_bounds" = true)
    (k316 : PySem.W.keepIn K (.ref f313) = true)
    (q318 : PySem.W.findIn K (.ref C260) "come_to_an_end" = some (some (.ref f317)))
    (q319 : PySem.W.isFn K (.ref f317) = true)
    (l320 : K.lookup f317 = some ⟨oc320, od320, .func (PySem.W.fnOf "come_to_an_end" "Library.come_to_an_end" (defArgs s_Library_come_to_an_end) (defBody s_Library_come_to_an_end) (defScope s_Library_come_to_an_end) .none kV320 dc320 pm320 an320 cd320 ct320), sl320⟩)
    (c320 : PySem.W.codeIn K cd320 "Library.come_to_an_end" = true)
    (k320 : PySem.W.keepIn K (.ref f317) = true)
    (q322 : PySem.W.findIn K (.ref C260) "functions" = some (some (.ref f321)))
    (q323 : PySem.W.isFn K (.ref f321) = true)
    (l324 : K.lookup f321 = some ⟨oc324, od324, .func (PySem.W.fnOf "functions" "Library.functions" (defArgs s_Library_functions) (defBody s_Library_functions) (defScope s_Library_functions) .none kV324 dc324 pm324 an324 cd324 ct324), sl324⟩)
    (c324 : PySem.W.codeIn K cd324 "Library.functions" = true)
    (k324 : PySem.W.keepIn K (.ref f321) = true)
    (q326 : PySem.W.findIn K (.ref C260) "records" = some (some (.ref f325)))
    (q327 : PySem.W.isFn K (.ref f325) = true)
    (l328 : K.lookup f325 = some ⟨oc328, od328, .func (PySem.W.fnOf "records" "Library.records" (defArgs s_Library_records) (defBody s_Library_records) (defScope s_Library_records) .none kV328 dc328 pm328 an328 cd328 ct328), sl328⟩)
    (c328 : PySem.W.codeIn K cd328 "Library.records" = true)
    (k328 : PySem.W.keepIn K (.ref f325) = true)
    (q330 : PySem.W.findIn K (.ref C260) "errors" = some (some (.ref f329)))
    (q331 : PySem.W.isFn K (.ref f329) = true)
    (l332 : K.lookup f329 = some ⟨oc332, od332, .func (PySem.W.fnOf "errors" "Library.errors" (defArgs s_Library_errors) (defBody s_Library_errors) (defScope s_Library_errors) .none kV332 dc332 pm332 an332 cd332 ct332), sl332⟩)
    (c332 : PySem.W.codeIn K cd332 "Library.errors" = true)
    (k332 : PySem.W.keepIn K (.ref f329) = true)
    (q334 : PySem.W.findIn K (.ref C260) "unknown" = some (some (.ref f333)))
    (q335 : PySem.W.isFn K (.ref f333) = true)
    (l336 : K.lookup f333 = some ⟨oc336, od336, .func (PySem.W.fnOf "unknown" "Library.unknown" (defArgs s_Library_unknown) (defBody s_Library_unknown) (defScope s_Library_unknown) .none kV336 dc336 pm336 an336 cd336 ct336), sl336⟩)
    (c336 : PySem.W.codeIn K cd336 "Library.unknown" = true)
    (k336 : PySem.W.keepIn K (.ref f333) = true)
    (q338 : PySem.W.findIn K (.ref C260) "blocks" = some (some (.ref f337)))
    (q339 : PySem.W.isFn K (.ref f337) = true)
    (l340 : K.lookup f337 = some ⟨oc340, od340, .func (PySem.W.fnOf "blocks" "Library.blocks" (defArgs s_Library_blocks) (defBody s_Library_blocks) (defScope s_Library_blocks) .none kV340 dc340 pm340 an340 cd340 ct340), sl340⟩)
    (c340 : PySem.W.codeIn K cd340 "Library.blocks" = true)
    (k340 : PySem.W.keepIn K (.ref f337) = true)
    (r341 : PySem.W.readsIn K C260 (.type "type") = true)
    (s342 : PySem.W.specialIn K (.ref C260) "__getattribute__" = some (some (.builtin "type.__getattribute__")))
    (z345 : PySem.W.findCls K (.ref C260) (.type "type") "joined" = some (.get (.builtin "staticmethod.__get__") (.ref p344) .none (.ref C260)))
    (r346 : PySem.W.recIn K p344 "staticmethod" = some (.ref f343 :: rs347))
    (l348 : K.lookup f343 = some ⟨oc348, od348, .func (PySem.W.fnOf "joined" "Library.joined" (defArgs s_Library_joined) (defBody s_Library_joined) (defScope s_Library_joined) .none kV348 dc348 pm348 an348 cd348 ct348), sl348⟩)
    (c348 : PySem.W.codeIn K cd348 "Library.joined" = true)
    (k348 : PySem.W.keepIn K (.ref f343) = true)
    (a350 : PySem.W.nsIn K mainGlobals "_law_pool" = some (some (.ref f349)))
    (l351 : K.lookup f349 = some ⟨oc351, od351, .func (PySem.W.fnOf "_law_pool" "_law_pool" (defArgs s_law_pool) (defBody s_law_pool) (defScope s_law_pool) .none kV351 dc351 pm351 an351 cd351 ct351), sl351⟩)
    (c351 : PySem.W.codeIn K cd351 "_law_pool" = true)
    (k351 : PySem.W.keepIn K (.ref f349) = true)
    (a353 : PySem.W.nsIn K mainGlobals "_law_draw" = some (some (.ref f352)))
    (l354 : K.lookup f352 = some ⟨oc354, od354, .func (PySem.W.fnOf "_law_draw" "_law_draw" (defArgs s_law_draw) (defBody s_law_draw) (defScope s_law_draw) .none kV354 dc354 pm354 an354 cd354 ct354), sl354⟩)
    (c354 : PySem.W.codeIn K cd354 "_law_draw" = true)
    (k354 : PySem.W.keepIn K (.ref f352) = true)
    (a356 : PySem.W.nsIn K mainGlobals "_law_word" = some (some (.ref f355)))
    (l357 : K.lookup f355 = some ⟨oc357, od357, .func (PySem.W.fnOf "_law_word" "_law_word" (defArgs s_law_word) (defBody s_law_word) (defScope s_law_word) .none kV357 dc357 pm357 an357 cd357 ct357), sl357⟩)
    (c357 : PySem.W.codeIn K cd357 "_law_word" = true)
    (k357 : PySem.W.keepIn K (.ref f355) = true)
    (a359 : PySem.W.nsIn K mainGlobals "_law_join" = some (some (.ref f358)))
    (l360 : K.lookup f358 = some ⟨oc360, od360, .func (PySem.W.fnOf "_law_join" "_law_join" (defArgs s_law_join) (defBody s_law_join) (defScope s_law_join) .none kV360 dc360 pm360 an360 cd360 ct360), sl360⟩)
    (c360 : PySem.W.codeIn K cd360 "_law_join" = true)
    (k360 : PySem.W.keepIn K (.ref f358) = true)
    (a362 : PySem.W.nsIn K mainGlobals "_law_rows" = some (some (.ref f361)))
    (l363 : K.lookup f361 = some ⟨oc363, od363, .func (PySem.W.fnOf "_law_rows" "_law_rows" (defArgs s_law_rows) (defBody s_law_rows) (defScope s_law_rows) .none kV363 dc363 pm363 an363 cd363 ct363), sl363⟩)
    (c363 : PySem.W.codeIn K cd363 "_law_rows" = true)
    (k363 : PySem.W.keepIn K (.ref f361) = true)
    (a365 : PySem.W.nsIn K mainGlobals "_law_bound" = some (some (.ref f364)))
    (l366 : K.lookup f364 = some ⟨oc366, od366, .func (PySem.W.fnOf "_law_bound" "_law_bound" (defArgs s_law_bound) (defBody s_law_bound) (defScope s_law_bound) .none kV366 dc366 pm366 an366 cd366 ct366), sl366⟩)
    (c366 : PySem.W.codeIn K cd366 "_law_bound" = true)
    (k366 : PySem.W.keepIn K (.ref f364) = true)
    (a368 : PySem.W.nsIn K mainGlobals "_law_ring" = some (some (.ref f367)))
    (l369 : K.lookup f367 = some ⟨oc369, od369, .func (PySem.W.fnOf "_law_ring" "_law_ring" (defArgs s_law_ring) (defBody s_law_ring) (defScope s_law_ring) .none kV369 dc369 pm369 an369 cd369 ct369), sl369⟩)
    (c369 : PySem.W.codeIn K cd369 "_law_ring" = true)
    (k369 : PySem.W.keepIn K (.ref f367) = true)
    (l370 : K.lookup fa = some ⟨oc370, od370, .func (PySem.W.fnOf "law" "law" (defArgs s_law) (defBody s_law) (defScope s_law) .none kV370 dc370 pm370 an370 cd370 ct370), sl370⟩)
    (c370 : PySem.W.codeIn K cd370 "law" = true)
    (k370 : PySem.W.keepIn K (.ref fa) = true)
    (z371 : PySem.W.nsIn K mainGlobals "len" = some none)
    (z372 : PySem.W.nsIn K mainGlobals "isinstance" = some none)
    (z373 : PySem.W.nsIn K mainGlobals "str" = some none)
    (z374 : PySem.W.nsIn K mainGlobals "all" = some none)
    (z375 : PySem.W.nsIn K mainGlobals "super" = some none)
    (z376 : PySem.W.nsIn K mainGlobals "tuple" = some none)
    (z377 : PySem.W.nsIn K mainGlobals "list" = some none)
    (z378 : PySem.W.nsIn K mainGlobals "sorted" = some none)
    (z379 : PySem.W.nsIn K mainGlobals "set" = some none)
    (z380 : PySem.W.nsIn K mainGlobals "abs" = some none)
    (z381 : PySem.W.nsIn K mainGlobals "int" = some none)
    (z382 : PySem.W.nsIn K mainGlobals "range" = some none)
    (z383 : PySem.W.nsIn K mainGlobals "max" = some none)
    (z384 : PySem.W.nsIn K mainGlobals "min" = some none)
    : ∃ fd : FuncData, (∀ (s : Shared) (v : Value), BindsTo s fd ⟨[v], []⟩ [("_law_script", v)]) ∧ ∀ base : Heap, K.In base → base.Ns mainGlobals mg → FnOk P w K mg base CX0 58 fa fd ["_law_script"] (spLaw K) := by
  have F40 := fun_mk (st := s_Mode_is_mode) l40 c40 k40
  have b40 := F40.binds (ps := ["thing"]) fun _ _ _ _ _ _ us hl => match us, hl with | [_], _ => rfl
  have F43 := fun_mk (st := s_is_word) l43 c43 k43
  have b43 := F43.binds (ps := ["thing"]) fun _ _ _ _ _ _ us hl => match us, hl with | [_], _ => rfl
  have F151 := fun_mk (st := s_split_line) l151 c151 k151
  have b151 := F151.binds (ps := ["line"]) fun _ _ _ _ _ _ us hl => match us, hl with | [_], _ => rfl
  have F168 := fun_mk (st := s_ReaderU_initU) l168 c168 k168
  have b168 := F168.binds (ps := ["self", "lines"]) fun _ _ _ _ _ _ us hl => match us, hl with | [_, _], _ => rfl
  have F172 := fun_mk (st := s_Reader_words_at) l172 c172 k172
  have b172 := F172.binds (ps := ["self", "nesting"]) fun _ _ _ _ _ _ us hl => match us, hl with | [_, _], _ => rfl
  have F176 := fun_mk (st := s_Reader_wrong_if) l176 c176 k176
  have b176 := F176.binds (ps := ["self", "is_wrong"]) fun _ _ _ _ _ _ us hl => match us, hl with | [_, _], _ => rfl
  have F180 := fun_mk (st := s_Reader_read_all) l180 c180 k180
  have b180 := F180.binds (ps := ["self"]) fun _ _ _ _ _ _ us hl => match us, hl with | [_], _ => rfl
  have F184 := fun_mk (st := s_Reader_read_body) l184 c184 k184
  have b184 := F184.binds (ps := ["self", "nesting"]) fun _ _ _ _ _ _ us hl => match us, hl with | [_, _], _ => rfl
  have F188 := fun_mk (st := s_Reader_read_statement) l188 c188 k188
  have b188 := F188.binds (ps := ["self", "words", "nesting"]) fun _ _ _ _ _ _ us hl => match us, hl with | [_, _, _], _ => rfl
  have F192 := fun_mk (st := s_Reader_read_block) l192 c192 k192
  have b192 := F192.binds (ps := ["self", "words", "nesting"]) fun _ _ _ _ _ _ us hl => match us, hl with | [_, _, _], _ => rfl
  have F196 := fun_mk (st := s_Reader_read_try) l196 c196 k196
  have b196 := F196.binds (ps := ["self", "nesting"]) fun _ _ _ _ _ _ us hl => match us, hl with | [_, _], _ => rfl
  have F277 : FunD K "__init__" "Library.__init__" (defArgs s_LibraryU_initU) (defBody s_LibraryU_initU) (defScope s_LibraryU_initU) [.int 6000] []  f272 (PySem.W.fnOf "__init__" "Library.__init__" (defArgs s_LibraryU_initU) (defBody s_LibraryU_initU) (defScope s_LibraryU_initU) (.ref T278) kV277 dc277 pm277 an277 cd277 ct277) := ⟨⟨_, _, _, _, _, _, _, _, _, _, rfl, l277, c277, .inr ⟨by decide, _, _, _, _, rfl, lT284, rfl, (.cons ⟨_, rfl⟩ .nil)⟩, .inl rfl⟩, k277⟩
  have F287 := fun_mk (st := s_parts_of) l287 c287 k287
  have b287 := F287.binds (ps := ["statement"]) fun _ _ _ _ _ _ us hl => match us, hl with | [_], _ => rfl
  have F290 : FunD K "listed_statements" "listed_statements" (defArgs s_listed_statements) (defBody s_listed_statements) (defScope s_listed_statements) [.bl false] []  f288 (PySem.W.fnOf "listed_statements" "listed_statements" (defArgs s_listed_statements) (defBody s_listed_statements) (defScope s_listed_statements) (.ref T291) kV290 dc290 pm290 an290 cd290 ct290) := ⟨⟨_, _, _, _, _, _, _, _, _, _, rfl, l290, c290, .inr ⟨by decide, _, _, _, _, rfl, lT297, rfl, (.cons rfl .nil)⟩, .inl rfl⟩, k290⟩
  have F300 := fun_mk (st := s_words_of) l300 c300 k300
  have b300 := F300.binds (ps := ["statement"]) fun _ _ _ _ _ _ us hl => match us, hl with | [_], _ => rfl
  have F303 := fun_mk (st := s_comes_back) l303 c303 k303
  have b303 := F303.binds (ps := ["name", "calls"]) fun _ _ _ _ _ _ us hl => match us, hl with | [_, _], _ => rfl
  have F306 := fun_mk (st := s_free_statements) l306 c306 k306
  have b306 := F306.binds (ps := ["body"]) fun _ _ _ _ _ _ us hl => match us, hl with | [_], _ => rfl
  have F309 := fun_mk (st := s_weight_of) l309 c309 k309
  have b309 := F309.binds (ps := ["name", "bodies", "known"]) fun _ _ _ _ _ _ us hl => match us, hl with | [_, _, _], _ => rfl
  have F312 := fun_mk (st := s_body_weight) l312 c312 k312
  have b312 := F312.binds (ps := ["body", "bodies", "known"]) fun _ _ _ _ _ _ us hl => match us, hl with | [_, _, _], _ => rfl
  have F316 := fun_mk (st := s_Library_stay_in_bounds) l316 c316 k316
  have b316 := F316.binds (ps := ["self"]) fun _ _ _ _ _ _ us hl => match us, hl with | [_], _ => rfl
  have F320 := fun_mk (st := s_Library_come_to_an_end) l320 c320 k320
  have b320 := F320.binds (ps := ["self"]) fun _ _ _ _ _ _ us hl => match us, hl with | [_], _ => rfl
  have F324 := fun_mk (st := s_Library_functions) l324 c324 k324
  have b324 := F324.binds (ps := ["self"]) fun _ _ _ _ _ _ us hl => match us, hl with | [_], _ => rfl
  have F328 := fun_mk (st := s_Library_records) l328 c328 k328
  have b328 := F328.binds (ps := ["self"]) fun _ _ _ _ _ _ us hl => match us, hl with | [_], _ => rfl
  have F332 := fun_mk (st := s_Library_errors) l332 c332 k332
  have b332 := F332.binds (ps := ["self"]) fun _ _ _ _ _ _ us hl => match us, hl with | [_], _ => rfl
  have F336 := fun_mk (st := s_Library_unknown) l336 c336 k336
  have b336 := F336.binds (ps := ["self"]) fun _ _ _ _ _ _ us hl => match us, hl with | [_], _ => rfl
  have F340 := fun_mk (st := s_Library_blocks) l340 c340 k340
  have b340 := F340.binds (ps := ["self"]) fun _ _ _ _ _ _ us hl => match us, hl with | [_], _ => rfl
  have F348 := fun_mk (st := s_Library_joined) l348 c348 k348
  have F351 := fun_mk (st := s_law_pool) l351 c351 k351
  have b351 := F351.binds (ps := ["_law_script", "_law_at"]) fun _ _ _ _ _ _ us hl => match us, hl with | [_, _], _ => rfl
  have F354 := fun_mk (st := s_law_draw) l354 c354 k354
  have b354 := F354.binds (ps := ["_law_pool_here", "_law_many"]) fun _ _ _ _ _ _ us hl => match us, hl with | [_, _], _ => rfl
  have F357 := fun_mk (st := s_law_word) l357 c357 k357
  have b357 := F357.binds (ps := ["_law_pool_here"]) fun _ _ _ _ _ _ us hl => match us, hl with | [_], _ => rfl
  have F360 := fun_mk (st := s_law_join) l360 c360 k360
  have b360 := F360.binds (ps := ["_law_first", "_law_second"]) fun _ _ _ _ _ _ us hl => match us, hl with | [_, _], _ => rfl
  have F363 := fun_mk (st := s_law_rows) l363 c363 k363
  have b363 := F363.binds (ps := ["_law_name", "_law_sort", "_law_words"]) fun _ _ _ _ _ _ us hl => match us, hl with | [_, _, _], _ => rfl
  have F366 := fun_mk (st := s_law_bound) l366 c366 k366
  have b366 := F366.binds (ps := ["_law_pool_here"]) fun _ _ _ _ _ _ us hl => match us, hl with | [_], _ => rfl
  have F369 := fun_mk (st := s_law_ring) l369 c369 k369
  have b369 := F369.binds (ps := ["_law_pool_here"]) fun _ _ _ _ _ _ us hl => match us, hl with | [_], _ => rfl
  have F370 := fun_mk (st := s_law) l370 c370 k370
  have b370 := F370.binds (ps := ["_law_script"]) fun _ _ _ _ _ _ us hl => match us, hl with | [_], _ => rfl
  have T : Txt K mg ⟨C1, p22, f35, p36, f41, C45, f47, C70, f72, C95, f97, C120, f122, f149, C152, f163, f169, f173, f177, f181, f185, f189, f193, p202, p213, p218, p219, p220, p221, p222, p223, C260, f272, f285, f288, f298, f301, f304, f307, f310, f313, f317, f321, f325, f329, f333, f337, f343, p344, f349, f352, f355, f358, f361, f364, f367, fa⟩ ⟨PySem.W.fnOf "is_mode" "Mode.is_mode" (defArgs s_Mode_is_mode) (defBody s_Mode_is_mode) (defScope s_Mode_is_mode) .none kV40 dc40 pm40 an40 cd40 ct40, PySem.W.fnOf "is_word" "is_word" (defArgs s_is_word) (defBody s_is_word) (defScope s_is_word) .none kV43 dc43 pm43 an43 cd43 ct43, PySem.W.fnOf "split_line" "split_line" (defArgs s_split_line) (defBody s_split_line) (defScope s_split_line) .none kV151 dc151 pm151 an151 cd151 ct151, PySem.W.fnOf "__init__" "Reader.__init__" (defArgs s_ReaderU_initU) (defBody s_ReaderU_initU) (defScope s_ReaderU_initU) .none kV168 dc168 pm168 an168 cd168 ct168, PySem.W.fnOf "words_at" "Reader.words_at" (defArgs s_Reader_words_at) (defBody s_Reader_words_at) (defScope s_Reader_words_at) .none kV172 dc172 pm172 an172 cd172 ct172, PySem.W.fnOf "wrong_if" "Reader.wrong_if" (defArgs s_Reader_wrong_if) (defBody s_Reader_wrong_if) (defScope s_Reader_wrong_if) .none kV176 dc176 pm176 an176 cd176 ct176, PySem.W.fnOf "read_all" "Reader.read_all" (defArgs s_Reader_read_all) (defBody s_Reader_read_all) (defScope s_Reader_read_all) .none kV180 dc180 pm180 an180 cd180 ct180, PySem.W.fnOf "read_body" "Reader.read_body" (defArgs s_Reader_read_body) (defBody s_Reader_read_body) (defScope s_Reader_read_body) .none kV184 dc184 pm184 an184 cd184 ct184, PySem.W.fnOf "read_statement" "Reader.read_statement" (defArgs s_Reader_read_statement) (defBody s_Reader_read_statement) (defScope s_Reader_read_statement) .none kV188 dc188 pm188 an188 cd188 ct188, PySem.W.fnOf "read_block" "Reader.read_block" (defArgs s_Reader_read_block) (defBody s_Reader_read_block) (defScope s_Reader_read_block) .none kV192 dc192 pm192 an192 cd192 ct192, PySem.W.fnOf "read_try" "Reader.read_try" (defArgs s_Reader_read_try) (defBody s_Reader_read_try) (defScope s_Reader_read_try) .none kV196 dc196 pm196 an196 cd196 ct196, PySem.W.fnOf "__init__" "Library.__init__" (defArgs s_LibraryU_initU) (defBody s_LibraryU_initU) (defScope s_LibraryU_initU) (.ref T278) kV277 dc277 pm277 an277 cd277 ct277, PySem.W.fnOf "parts_of" "parts_of" (defArgs s_parts_of) (defBody s_parts_of) (defScope s_parts_of) .none kV287 dc287 pm287 an287 cd287 ct287, PySem.W.fnOf "listed_statements" "listed_statements" (defArgs s_listed_statements) (defBody s_listed_statements) (defScope s_listed_statements) (.ref T291) kV290 dc290 pm290 an290 cd290 ct290, PySem.W.fnOf "words_of" "words_of" (defArgs s_words_of) (defBody s_words_of) (defScope s_words_of) .none kV300 dc300 pm300 an300 cd300 ct300, PySem.W.fnOf "comes_back" "comes_back" (defArgs s_comes_back) (defBody s_comes_back) (defScope s_comes_back) .none kV303 dc303 pm303 an303 cd303 ct303, PySem.W.fnOf "free_statements" "free_statements" (defArgs s_free_statements) (defBody s_free_statements) (defScope s_free_statements) .none kV306 dc306 pm306 an306 cd306 ct306, PySem.W.fnOf "weight_of" "weight_of" (defArgs s_weight_of) (defBody s_weight_of) (defScope s_weight_of) .none kV309 dc309 pm309 an309 cd309 ct309, PySem.W.fnOf "body_weight" "body_weight" (defArgs s_body_weight) (defBody s_body_weight) (defScope s_body_weight) .none kV312 dc312 pm312 an312 cd312 ct312, PySem.W.fnOf "stay_in_bounds" "Library.stay_in_bounds" (defArgs s_Library_stay_in_bounds) (defBody s_Library_stay_in_bounds) (defScope s_Library_stay_in_bounds) .none kV316 dc316 pm316 an316 cd316 ct316, PySem.W.fnOf "come_to_an_end" "Library.come_to_an_end" (defArgs s_Library_come_to_an_end) (defBody s_Library_come_to_an_end) (defScope s_Library_come_to_an_end) .none kV320 dc320 pm320 an320 cd320 ct320, PySem.W.fnOf "functions" "Library.functions" (defArgs s_Library_functions) (defBody s_Library_functions) (defScope s_Library_functions) .none kV324 dc324 pm324 an324 cd324 ct324, PySem.W.fnOf "records" "Library.records" (defArgs s_Library_records) (defBody s_Library_records) (defScope s_Library_records) .none kV328 dc328 pm328 an328 cd328 ct328, PySem.W.fnOf "errors" "Library.errors" (defArgs s_Library_errors) (defBody s_Library_errors) (defScope s_Library_errors) .none kV332 dc332 pm332 an332 cd332 ct332, PySem.W.fnOf "unknown" "Library.unknown" (defArgs s_Library_unknown) (defBody s_Library_unknown) (defScope s_Library_unknown) .none kV336 dc336 pm336 an336 cd336 ct336, PySem.W.fnOf "blocks" "Library.blocks" (defArgs s_Library_blocks) (defBody s_Library_blocks) (defScope s_Library_blocks) .none kV340 dc340 pm340 an340 cd340 ct340, PySem.W.fnOf "joined" "Library.joined" (defArgs s_Library_joined) (defBody s_Library_joined) (defScope s_Library_joined) .none kV348 dc348 pm348 an348 cd348 ct348, PySem.W.fnOf "_law_pool" "_law_pool" (defArgs s_law_pool) (defBody s_law_pool) (defScope s_law_pool) .none kV351 dc351 pm351 an351 cd351 ct351, PySem.W.fnOf "_law_draw" "_law_draw" (defArgs s_law_draw) (defBody s_law_draw) (defScope s_law_draw) .none kV354 dc354 pm354 an354 cd354 ct354, PySem.W.fnOf "_law_word" "_law_word" (defArgs s_law_word) (defBody s_law_word) (defScope s_law_word) .none kV357 dc357 pm357 an357 cd357 ct357, PySem.W.fnOf "_law_join" "_law_join" (defArgs s_law_join) (defBody s_law_join) (defScope s_law_join) .none kV360 dc360 pm360 an360 cd360 ct360, PySem.W.fnOf "_law_rows" "_law_rows" (defArgs s_law_rows) (defBody s_law_rows) (defScope s_law_rows) .none kV363 dc363 pm363 an363 cd363 ct363, PySem.W.fnOf "_law_bound" "_law_bound" (defArgs s_law_bound) (defBody s_law_bound) (defScope s_law_bound) .none kV366 dc366 pm366 an366 cd366 ct366, PySem.W.fnOf "_law_ring" "_law_ring" (defArgs s_law_ring) (defBody s_law_ring) (defScope s_law_ring) .none kV369 dc369 pm369 an369 cd369 ct369, PySem.W.fnOf "law" "law" (defArgs s_law) (defBody s_law) (defScope s_law) .none kV370 dc370 pm370 an370 cd370 ct370⟩ := ⟨PySem.W.mg_of X G a2, ⟨r3, s4⟩, ⟨_, z5, ⟨_, rfl⟩⟩, ⟨_, z7, ⟨_, rfl⟩⟩, ⟨_, z9, ⟨_, rfl⟩⟩, ⟨_, z11, ⟨_, rfl⟩⟩, ⟨_, z13, ⟨_, rfl⟩⟩, ⟨_, z15, ⟨_, rfl⟩⟩, ⟨_, z17, ⟨_, rfl⟩⟩, ⟨_, z19, ⟨_, rfl⟩⟩, ⟨_, z21, rfl⟩, fun H => .inr ⟨_, _, _, l23, rfl, rfl, sz_le rfl, (.cons ⟨_, rfl⟩ (.cons ⟨_, rfl⟩ (.cons ⟨_, rfl⟩ (.cons ⟨_, rfl⟩ (.cons ⟨_, rfl⟩ (.cons ⟨_, rfl⟩ (.cons ⟨_, rfl⟩ (.cons ⟨_, rfl⟩ .nil))))))))⟩, ⟨_, l23, rfl⟩, F40, b40, ⟨z37, _, r38⟩, F43, b43, PySem.W.mg_of X G a42, PySem.W.mg_of X G a46, ec_TooMany e49 e50 e51 e52 e53 e54 e55 e56 e57 e58 e59 e60 e61 e62 e63 z44 e64 e65 e66 e67 e68 e69, PySem.W.mg_of X G a71, ec_BadLibrary e74 e75 e76 e77 e78 e79 e80 e81 e82 e83 e84 e85 e86 e87 e88 z44 e89 e90 e91 e92 e93 e94, PySem.W.mg_of X G a96, ec_Endless e99 e100 e101 e102 e103 e104 e105 e106 e107 e108 e109 e110 e111 e112 e113 z44 e114 e115 e116 e117 e118 e119, PySem.W.mg_of X G a121, ec_Clash e124 e125 e126 e127 e128 e129 e130 e131 e132 e133 e134 e135 e136 e137 e138 z44 e139 e140 e141 e142 e143 e144, z145, z146, ⟨_, PySem.W.mg_of X G z147, ⟨_, rfl⟩⟩, F151, b151, PySem.W.mg_of X G a150, PySem.W.mg_of X G a153, ⟨q154, q155, q156, q157⟩, z158, z159, z160, z161, z162, F168, b168, ⟨q164, q165, q166, q167⟩, F172, b172, ⟨q170, q171, k172⟩, F176, b176, ⟨q174, q175, k176⟩, F180, b180, ⟨q178, q179, k180⟩, F184, b184, ⟨q182, q183, k184⟩, F188, b188, ⟨q186, q187, k188⟩, F192, b192, ⟨q190, q191, k192⟩, F196, b196, ⟨q194, q195, k196⟩, ⟨_, PySem.W.mg_of X G z197, ⟨_, rfl⟩⟩, ⟨_, PySem.W.mg_of X G z199, ⟨_, rfl⟩⟩, PySem.W.mg_of X G a201, fun H => .inr ⟨_, _, _, l203, rfl, rfl, sz_le rfl, (.cons ⟨_, rfl⟩ (.cons ⟨_, rfl⟩ (.cons ⟨_, rfl⟩ (.cons ⟨_, rfl⟩ (.cons ⟨_, rfl⟩ .nil)))))⟩, PySem.W.mg_of X G a212, fun H => .inr ⟨_, _, _, l224, rfl, rfl, sz_le rfl, (.cons ⟨_, rfl⟩ (.cons ⟨_, rfl⟩ .nil))⟩, fun H => .inr ⟨_, _, _, l230, rfl, rfl, sz_le rfl, (.cons ⟨_, rfl⟩ (.cons ⟨_, rfl⟩ .nil))⟩, fun H => .inr ⟨_, _, _, l236, rfl, rfl, sz_le rfl, (.cons ⟨_, rfl⟩ (.cons ⟨_, rfl⟩ .nil))⟩, fun H => .inr ⟨_, _, _, l242, rfl, rfl, sz_le rfl, (.cons ⟨_, rfl⟩ (.cons ⟨_, rfl⟩ .nil))⟩, fun H => .inr ⟨_, _, _, l248, rfl, rfl, sz_le rfl, (.cons ⟨_, rfl⟩ (.cons ⟨_, rfl⟩ .nil))⟩, fun H => .inr ⟨_, _, _, l254, rfl, rfl, sz_le rfl, (.cons ⟨_, rfl⟩ (.cons ⟨_, rfl⟩ .nil))⟩, fun H => .inr ⟨_, _, _, l214, rfl, rfl, sz_le rfl, (.cons rfl (.cons rfl (.cons rfl (.cons rfl (.cons rfl (.cons rfl .nil))))))⟩, PySem.W.mg_of X G a261, ⟨q262, q263, q264, q265⟩, z266, z267, z268, z269, z270, z271, F277, ⟨q273, q274, q275, q276⟩, F287, b287, PySem.W.mg_of X G a286, F290, PySem.W.mg_of X G a289, F300, b300, PySem.W.mg_of X G a299, F303, b303, PySem.W.mg_of X G a302, F306, b306, PySem.W.mg_of X G a305, F309, b309, PySem.W.mg_of X G a308, F312, b312, PySem.W.mg_of X G a311, F316, b316, ⟨q314, q315, k316⟩, F320, b320, ⟨q318, q319, k320⟩, F324, b324, ⟨q322, q323, k324⟩, F328, b328, ⟨q326, q327, k328⟩, F332, b332, ⟨q330, q331, k332⟩, F336, b336, ⟨q334, q335, k336⟩, F340, b340, ⟨q338, q339, k340⟩, ⟨r341, s342⟩, F348, ⟨z345, _, r346⟩, F351, b351, PySem.W.mg_of X G a350, F354, b354, PySem.W.mg_of X G a353, F357, b357, PySem.W.mg_of X G a356, F360, b360, PySem.W.mg_of X G a359, F363, b363, PySem.W.mg_of X G a362, F366, b366, PySem.W.mg_of X G a365, F369, b369, PySem.W.mg_of X G a368, F370, b370, hfa, PySem.W.mg_none_of X G z371, PySem.W.mg_none_of X G z372, PySem.W.mg_none_of X G z373, PySem.W.mg_none_of X G z374, PySem.W.mg_none_of X G z375, PySem.W.mg_none_of X G z376, PySem.W.mg_none_of X G z377, PySem.W.mg_none_of X G z378, PySem.W.mg_none_of X G z379, PySem.W.mg_none_of X G z380, PySem.W.mg_none_of X G z381, PySem.W.mg_none_of X G z382, PySem.W.mg_none_of X G z383, PySem.W.mg_none_of X G z384⟩
  exact ⟨_, fun s v => .of_eq rfl, fun base _ _ => ok_law T⟩
theorem all_mk' {w : World} {K : PySem.W.Frag} {h : Heap} {mg : Str → Option Value} {fa f0 : Addr} (X : K.In h) (G : h.Ns mainGlobals mg) (hfa0 : mg "law" = some (.ref fa))
    {C1 : Addr}
    {t6 : Tok}
    {t8 : Tok}
    {t10 : Tok}
    {t12 : Tok}
    {t14 : Tok}
    {t16 : Tok}
    {t18 : Tok}
    {t20 : Tok}
    {t24 t25 t26 t27 t28 t29 t30 t31 : Tok} {p22 : Addr} {dd32 : Option Addr} {nn33 : Nat} {sl34 : Array (Option Value)}
    {f35 p36 : Addr} {rs39 : List Value}
    {od40 an40 : Option Addr} {sl40 : Array (Option Value)} {oc40 kV40 dc40 pm40 cd40 ct40 : Value}
    {f41 : Addr}
    {od43 an43 : Option Addr} {sl43 : Array (Option Value)} {oc43 kV43 dc43 pm43 cd43 ct43 : Value}
    {C45 : Addr}
    {f47 : Addr} {nm48 qn48 : Str} {N48 : Addr} {bs48 bm48 : List Value} {sn48 : List Str} {sub48 : List Value} {ab48 : Bool} {col48 : Option Bool} {dd48 : Option Addr} {k048 k148 k248 k348 k548 : Option Value}
    {oc48 : Value} {od48 : Option Addr} {doc48 pm48 : Value} {an48 : Option Addr} {cda48 cc48 : Addr} {ct48 : Value} {osl48 : Array (Option Value)} {ccl48 : Value} {cdd48 : Option Addr} {vs48 : Array Value} {ccs48 : Array (Option Value)} {tf48 : Tok} {cl48 : Value} {cld48 : Option Addr} {csl48 : Array (Option Value)}
    {C70 : Addr}
    {f72 : Addr} {nm73 qn73 : Str} {N73 : Addr} {bs73 bm73 : List Value} {sn73 : List Str} {sub73 : List Value} {ab73 : Bool} {col73 : Option Bool} {dd73 : Option Addr} {k073 k173 k273 k373 k573 : Option Value}
    {oc73 : Value} {od73 : Option Addr} {doc73 pm73 : Value} {an73 : Option Addr} {cda73 cc73 : Addr} {ct73 : Value} {osl73 : Array (Option Value)} {ccl73 : Value} {cdd73 : Option Addr} {vs73 : Array Value} {ccs73 : Array (Option Value)} {tf73 : Tok} {cl73 : Value} {cld73 : Option Addr} {csl73 : Array (Option Value)}
    {C95 : Addr}
    {f97 : Addr} {nm98 qn98 : Str} {N98 : Addr} {bs98 bm98 : List Value} {sn98 : List Str} {sub98 : List Value} {ab98 : Bool} {col98 : Option Bool} {dd98 : Option Addr} {k098 k198 k298 k398 k598 : Option Value}
    {oc98 : Value} {od98 : Option Addr} {doc98 pm98 : Value} {an98 : Option Addr} {cda98 cc98 : Addr} {ct98 : Value} {osl98 : Array (Option Value)} {ccl98 : Value} {cdd98 : Option Addr} {vs98 : Array Value} {ccs98 : Array (Option Value)} {tf98 : Tok} {cl98 : Value} {cld98 : Option Addr} {csl98 : Array (Option Value)}
    {C120 : Addr}
    {f122 : Addr} {nm123 qn123 : Str} {N123 : Addr} {bs123 bm123 : List Value} {sn123 : List Str} {sub123 : List Value} {ab123 : Bool} {col123 : Option Bool} {dd123 : Option Addr} {k0123 k1123 k2123 k3123 k5123 : Option Value}
    {oc123 : Value} {od123 : Option Addr} {doc123 pm123 : Value} {an123 : Option Addr} {cda123 cc123 : Addr} {ct123 : Value} {osl123 : Array (Option Value)} {ccl123 : Value} {cdd123 : Option Addr} {vs123 : Array Value} {ccs123 : Array (Option Value)} {tf123 : Tok} {cl123 : Value} {cld123 : Option Addr} {csl123 : Array (Option Value)}
    {t148 : Tok}
    {f149 : Addr}
    {od151 an151 : Option Addr} {sl151 : Array (Option Value)} {oc151 kV151 dc151 pm151 cd151 ct151 : Value}
    {C152 : Addr}
    {f163 : Addr}
    {od168 an168 : Option Addr} {sl168 : Array (Option Value)} {oc168 kV168 dc168 pm168 cd168 ct168 : Value}
    {f169 : Addr}
    {od172 an172 : Option Addr} {sl172 : Array (Option Value)} {oc172 kV172 dc172 pm172 cd172 ct172 : Value}
    {f173 : Addr}
    {od176 an176 : Option Addr} {sl176 : Array (Option Value)} {oc176 kV176 dc176 pm176 cd176 ct176 : Value}
    {f177 : Addr}
    {od180 an180 : Option Addr} {sl180 : Array (Option Value)} {oc180 kV180 dc180 pm180 cd180 ct180 : Value}
    {f181 : Addr}
    {od184 an184 : Option Addr} {sl184 : Array (Option Value)} {oc184 kV184 dc184 pm184 cd184 ct184 : Value}
    {f185 : Addr}
    {od188 an188 : Option Addr} {sl188 : Array (Option Value)} {oc188 kV188 dc188 pm188 cd188 ct188 : Value}
    {f189 : Addr}
    {od192 an192 : Option Addr} {sl192 : Array (Option Value)} {oc192 kV192 dc192 pm192 cd192 ct192 : Value}
    {f193 : Addr}
    {od196 an196 : Option Addr} {sl196 : Array (Option Value)} {oc196 kV196 dc196 pm196 cd196 ct196 : Value}
    {t198 : Tok}
    {t200 : Tok}
    {p202 : Addr}
    {dd204 : Option Addr} {nn205 : Nat} {sl206 : Array (Option Value)}
    {t207 : Tok}
    {t208 : Tok}
    {t209 : Tok}
    {t210 : Tok}
    {t211 : Tok}
    {p213 : Addr}
    {dd215 : Option Addr} {nn216 : Nat} {sl217 : Array (Option Value)}
    {p218 : Addr}
    {p219 : Addr}
    {p220 : Addr}
    {p221 : Addr}
    {p222 : Addr}
    {p223 : Addr}
    {dd225 : Option Addr} {nn226 : Nat} {sl227 : Array (Option Value)}
    {t228 : Tok}
    {t229 : Tok}
    {dd231 : Option Addr} {nn232 : Nat} {sl233 : Array (Option Value)}
    {t234 : Tok}
    {t235 : Tok}
    {dd237 : Option Addr} {nn238 : Nat} {sl239 : Array (Option Value)}
    {t240 : Tok}
    {t241 : Tok}
    {dd243 : Option Addr} {nn244 : Nat} {sl245 : Array (Option Value)}
    {t246 : Tok}
    {t247 : Tok}
    {dd249 : Option Addr} {nn250 : Nat} {sl251 : Array (Option Value)}
    {t252 : Tok}
    {t253 : Tok}
    {dd255 : Option Addr} {nn256 : Nat} {sl257 : Array (Option Value)}
    {t258 : Tok}
    {t259 : Tok}
    {C260 : Addr}
    {f272 : Addr}
    {od277 an277 : Option Addr} {sl277 : Array (Option Value)} {oc277 dc277 pm277 cd277 ct277 : Value}
    {T278 : Addr} {oc279 : Value} {od280 : Option Addr} {on281 : Nat} {os282 : Array (Option Value)}
    {t283 : Tok}
    {kV277 : Value}
    {f285 : Addr}
    {od287 an287 : Option Addr} {sl287 : Array (Option Value)} {oc287 kV287 dc287 pm287 cd287 ct287 : Value}
    {f288 : Addr}
    {od290 an290 : Option Addr} {sl290 : Array (Option Value)} {oc290 dc290 pm290 cd290 ct290 : Value}
    {T291 : Addr} {oc292 : Value} {od293 : Option Addr} {on294 : Nat} {os295 : Array (Option Value)}
    {kV290 : Value}
    {f298 : Addr}
    {od300 an300 : Option Addr} {sl300 : Array (Option Value)} {oc300 kV300 dc300 pm300 cd300 ct300 : Value}
    {f301 : Addr}
    {od303 an303 : Option Addr} {sl303 : Array (Option Value)} {oc303 kV303 dc303 pm303 cd303 ct303 : Value}
    {f304 : Addr}
    {od306 an306 : Option Addr} {sl306 : Array (Option Value)} {oc306 kV306 dc306 pm306 cd306 ct306 : Value}
    {f307 : Addr}
    {od309 an309 : Option Addr} {sl309 : Array (Option Value)} {oc309 kV309 dc309 pm309 cd309 ct309 : Value}
    {f310 : Addr}
    {od312 an312 : Option Addr} {sl312 : Array (Option Value)} {oc312 kV312 dc312 pm312 cd312 ct312 : Value}
    {f313 : Addr}
    {od316 an316 : Option Addr} {sl316 : Array (Option Value)} {oc316 kV316 dc316 pm316 cd316 ct316 : Value}
    {f317 : Addr}
    {od320 an320 : Option Addr} {sl320 : Array (Option Value)} {oc320 kV320 dc320 pm320 cd320 ct320 : Value}
    {f321 : Addr}
    {od324 an324 : Option Addr} {sl324 : Array (Option Value)} {oc324 kV324 dc324 pm324 cd324 ct324 : Value}
    {f325 : Addr}
    {od328 an328 : Option Addr} {sl328 : Array (Option Value)} {oc328 kV328 dc328 pm328 cd328 ct328 : Value}
    {f329 : Addr}
    {od332 an332 : Option Addr} {sl332 : Array (Option Value)} {oc332 kV332 dc332 pm332 cd332 ct332 : Value}
    {f333 : Addr}
    {od336 an336 : Option Addr} {sl336 : Array (Option Value)} {oc336 kV336 dc336 pm336 cd336 ct336 : Value}
    {f337 : Addr}
    {od340 an340 : Option Addr} {sl340 : Array (Option Value)} {oc340 kV340 dc340 pm340 cd340 ct340 : Value}
    {f343 p344 : Addr} {rs347 : List Value}
    {od348 an348 : Option Addr} {sl348 : Array (Option Value)} {oc348 kV348 dc348 pm348 cd348 ct348 : Value}
    {f349 : Addr}
    {od351 an351 : Option Addr} {sl351 : Array (Option Value)} {oc351 kV351 dc351 pm351 cd351 ct351 : Value}
    {f352 : Addr}
    {od354 an354 : Option Addr} {sl354 : Array (Option Value)} {oc354 kV354 dc354 pm354 cd354 ct354 : Value}
    {f355 : Addr}
    {od357 an357 : Option Addr} {sl357 : Array (Option Value)} {oc357 kV357 dc357 pm357 cd357 ct357 : Value}
    {f358 : Addr}
    {od360 an360 : Option Addr} {sl360 : Array (Option Value)} {oc360 kV360 dc360 pm360 cd360 ct360 : Value}
    {f361 : Addr}
    {od363 an363 : Option Addr} {sl363 : Array (Option Value)} {oc363 kV363 dc363 pm363 cd363 ct363 : Value}
    {f364 : Addr}
    {od366 an366 : Option Addr} {sl366 : Array (Option Value)} {oc366 kV366 dc366 pm366 cd366 ct366 : Value}
    {f367 : Addr}
    {od369 an369 : Option Addr} {sl369 : Array (Option Value)} {oc369 kV369 dc369 pm369 cd369 ct369 : Value}
    {od370 an370 : Option Addr} {sl370 : Array (Option Value)} {oc370 kV370 dc370 pm370 cd370 ct370 : Value}
    (a0 : PySem.W.nsIn K mainGlobals "law" = some (some (.ref f0)))
    (a2 : PySem.W.nsIn K mainGlobals "Mode" = some (some (.ref C1)))
    (r3 : PySem.W.readsIn K C1 (.type "type") = true)
    (s4 : PySem.W.specialIn K (.ref C1) "__getattribute__" = some (some (.builtin "type.__getattribute__")))
    (z5 : PySem.W.findCls K (.ref C1) (.type "type") "JOIN" = some (.val (.str "join" t6)))
    (z7 : PySem.W.findCls K (.ref C1) (.type "type") "INNER" = some (.val (.str "inner" t8)))
    (z9 : PySem.W.findCls K (.ref C1) (.type "type") "APART" = some (.val (.str "apart" t10)))
    (z11 : PySem.W.findCls K (.ref C1) (.type "type") "MUST" = some (.val (.str "must" t12)))
    (z13 : PySem.W.findCls K (.ref C1) (.type "type") "EITHER" = some (.val (.str "either" t14)))
    (z15 : PySem.W.findCls K (.ref C1) (.type "type") "NEVER" = some (.val (.str "never" t16)))
    (z17 : PySem.W.findCls K (.ref C1) (.type "type") "OUTSIDE" = some (.val (.str "outside" t18)))
    (z19 : PySem.W.findCls K (.ref C1) (.type "type") "ALONE" = some (.val (.str "alone" t20)))
    (z21 : PySem.W.findCls K (.ref C1) (.type "type") "ALL" = some (.val (.ref p22)))
    (l23 : K.lookup p22 = some ⟨.type "tuple", dd32, .seq #[.str "join" t24, .str "inner" t25, .str "apart" t26, .str "must" t27, .str "either" t28, .str "never" t29, .str "outside" t30, .str "alone" t31] nn33, sl34⟩)
    (z37 : PySem.W.findCls K (.ref C1) (.type "type") "is_mode" = some (.get (.builtin "staticmethod.__get__") (.ref p36) .none (.ref C1)))
    (r38 : PySem.W.recIn K p36 "staticmethod" = some (.ref f35 :: rs39))
    (l40 : K.lookup f35 = some ⟨oc40, od40, .func (PySem.W.fnOf "is_mode" "Mode.is_mode" (defArgs s_Mode_is_mode) (defBody s_Mode_is_mode) (defScope s_Mode_is_mode) .none kV40 dc40 pm40 an40 cd40 ct40), sl40⟩)
    (c40 : PySem.W.codeIn K cd40 "Mode.is_mode" = true)
    (k40 : PySem.W.keepIn K (.ref f35) = true)
    (a42 : PySem.W.nsIn K mainGlobals "is_word" = some (some (.ref f41)))
    (l43 : K.lookup f41 = some ⟨oc43, od43, .func (PySem.W.fnOf "is_word" "is_word" (defArgs s_is_word) (defBody s_is_word) (defScope s_is_word) .none kV43 dc43 pm43 an43 cd43 ct43), sl43⟩)
    (c43 : PySem.W.codeIn K cd43 "is_word" = true)
    (k43 : PySem.W.keepIn K (.ref f41) = true)
    (z44 : PySem.W.nsIn K cStatics "thirdparty.any" = some none)
    (a46 : PySem.W.nsIn K mainGlobals "TooMany" = some (some (.ref C45)))
    (e49 : K.lookup C45 = some (excClassObj nm48 qn48 C45 N48 bs48 bm48 true sn48 sub48 ab48 col48 dd48 k048 k148 k248 k348 k548 "ValueError.__new__"))
    (e50 : PySem.HandSPX.refsVE bm48 = true)
    (e51 : PySem.W.findIn K (.ref C45) "__setattr__" = some (some (.builtin "object.__setattr__")))
    (e52 : PySem.W.findIn K (.ref C45) "__getattribute__" = some (some (.builtin "BaseException.__getattribute__")))
    (e53 : PySem.W.findIn K (.ref C45) "__getattr__" = some none)
    (e54 : PySem.W.findIn K (.ref C45) "__init__" = some (some (.ref f47)))
    (e55 : PySem.W.typeIn K (.ref f47) = some (.type "function"))
    (e56 : PySem.W.keepIn K (.ref C45) = true)
    (e57 : PySem.W.subIn K (.ref C45) (.type "BaseException") = some true)
    (e58 : PySem.W.subIn K (.ref C45) (.type "ValueError") = some true)
    (e59 : PySem.W.typeIn K (.ref C45) = some (.type "type"))
    (e60 : PySem.W.hasDictIn K C45 = true)
    (e61 : PySem.W.ks_superIn K C45 C45 "__init__" = some (some (.builtin "ValueError.__init__")))
    (e62 : PySem.W.mroIn K C45 (.ref C45) = some true)
    (e63 : PySem.W.exmOne K (.ref C45) (.ref C45) = some true)
    (e64 : K.lookup f47 = some ⟨oc48, od48, .func (PySem.W.ksFn "__init__" "TooMany.__init__" (defArgs s_TooManyU_initU) (defBody s_TooManyU_initU) (defScope s_TooManyU_initU) .none .none doc48 pm48 an48 (.ref cda48) ct48 cc48), osl48⟩)
    (e65 : PySem.W.codeIn K (.ref cda48) "TooMany.__init__" = true)
    (e66 : K.lookup cda48 = some ⟨ccl48, cdd48, .fields vs48, ccs48⟩)
    (e67 : vs48[2]? = some (.str P.main.file tf48))
    (e68 : K.lookup cc48 = some ⟨cl48, cld48, .cell (some (.ref C45)), csl48⟩)
    (e69 : PySem.W.findIn K (.ref C45) "what" = some none)
    (a71 : PySem.W.nsIn K mainGlobals "BadLibrary" = some (some (.ref C70)))
    (e74 : K.lookup C70 = some (excClassObj nm73 qn73 C70 N73 bs73 bm73 true sn73 sub73 ab73 col73 dd73 k073 k173 k273 k373 k573 "ValueError.__new__"))
    (e75 : PySem.HandSPX.refsVE bm73 = true)
    (e76 : PySem.W.findIn K (.ref C70) "__setattr__" = some (some (.builtin "object.__setattr__")))
    (e77 : PySem.W.findIn K (.ref C70) "__getattribute__" = some (some (.builtin "BaseException.__getattribute__")))
    (e78 : PySem.W.findIn K (.ref C70) "__getattr__" = some none)
    (e79 : PySem.W.findIn K (.ref C70) "__init__" = some (some (.ref f72)))
    (e80 : PySem.W.typeIn K (.ref f72) = some (.type "function"))
    (e81 : PySem.W.keepIn K (.ref C70) = true)
    (e82 : PySem.W.subIn K (.ref C70) (.type "BaseException") = some true)
    (e83 : PySem.W.subIn K (.ref C70) (.type "ValueError") = some true)
    (e84 : PySem.W.typeIn K (.ref C70) = some (.type "type"))
    (e85 : PySem.W.hasDictIn K C70 = true)
    (e86 : PySem.W.ks_superIn K C70 C70 "__init__" = some (some (.builtin "ValueError.__init__")))
    (e87 : PySem.W.mroIn K C70 (.ref C70) = some true)
    (e88 : PySem.W.exmOne K (.ref C70) (.ref C70) = some true)
    (e89 : K.lookup f72 = some ⟨oc73, od73, .func (PySem.W.ksFn "__init__" "BadLibrary.__init__" (defArgs s_BadLibraryU_initU) (defBody s_BadLibraryU_initU) (defScope s_BadLibraryU_initU) .none .none doc73 pm73 an73 (.ref cda73) ct73 cc73), osl73⟩)
    (e90 : PySem.W.codeIn K (.ref cda73) "BadLibrary.__init__" = true)
    (e91 : K.lookup cda73 = some ⟨ccl73, cdd73, .fields vs73, ccs73⟩)
    (e92 : vs73[2]? = some (.str P.main.file tf73))
    (e93 : K.lookup cc73 = some ⟨cl73, cld73, .cell (some (.ref C70)), csl73⟩)
    (e94 : PySem.W.findIn K (.ref C70) "line" = some none)
    (a96 : PySem.W.nsIn K mainGlobals "Endless" = some (some (.ref C95)))
    (e99 : K.lookup C95 = some (excClassObj nm98 qn98 C95 N98 bs98 bm98 true sn98 sub98 ab98 col98 dd98 k098 k198 k298 k398 k598 "ValueError.__new__"))
    (e100 : PySem.HandSPX.refsVE bm98 = true)
    (e101 : PySem.W.findIn K (.ref C95) "__setattr__" = some (some (.builtin "object.__setattr__")))
    (e102 : PySem.W.findIn K (.ref C95) "__getattribute__" = some (some (.builtin "BaseException.__getattribute__")))
    (e103 : PySem.W.findIn K (.ref C95) "__getattr__" = some none)
    (e104 : PySem.W.findIn K (.ref C95) "__init__" = some (some (.ref f97)))
    (e105 : PySem.W.typeIn K (.ref f97) = some (.type "function"))
    (e106 : PySem.W.keepIn K (.ref C95) = true)
    (e107 : PySem.W.subIn K (.ref C95) (.type "BaseException") = some true)
    (e108 : PySem.W.subIn K (.ref C95) (.type "ValueError") = some true)
    (e109 : PySem.W.typeIn K (.ref C95) = some (.type "type"))
    (e110 : PySem.W.hasDictIn K C95 = true)
    (e111 : PySem.W.ks_superIn K C95 C95 "__init__" = some (some (.builtin "ValueError.__init__")))
    (e112 : PySem.W.mroIn K C95 (.ref C95) = some true)
    (e113 : PySem.W.exmOne K (.ref C95) (.ref C95) = some true)
    (e114 : K.lookup f97 = some ⟨oc98, od98, .func (PySem.W.ksFn "__init__" "Endless.__init__" (defArgs s_EndlessU_initU) (defBody s_EndlessU_initU) (defScope s_EndlessU_initU) .none .none doc98 pm98 an98 (.ref cda98) ct98 cc98), osl98⟩)
    (e115 : PySem.W.codeIn K (.ref cda98) "Endless.__init__" = true)
    (e116 : K.lookup cda98 = some ⟨ccl98, cdd98, .fields vs98, ccs98⟩)
    (e117 : vs98[2]? = some (.str P.main.file tf98))
    (e118 : K.lookup cc98 = some ⟨cl98, cld98, .cell (some (.ref C95)), csl98⟩)
    (e119 : PySem.W.findIn K (.ref C95) "name" = some none)
    (a121 : PySem.W.nsIn K mainGlobals "Clash" = some (some (.ref C120)))
    (e124 : K.lookup C120 = some (excClassObj nm123 qn123 C120 N123 bs123 bm123 true sn123 sub123 ab123 col123 dd123 k0123 k1123 k2123 k3123 k5123 "ValueError.__new__"))
    (e125 : PySem.HandSPX.refsVE bm123 = true)
    (e126 : PySem.W.findIn K (.ref C120) "__setattr__" = some (some (.builtin "object.__setattr__")))
    (e127 : PySem.W.findIn K (.ref C120) "__getattribute__" = some (some (.builtin "BaseException.__getattribute__")))
    (e128 : PySem.W.findIn K (.ref C120) "__getattr__" = some none)
    (e129 : PySem.W.findIn K (.ref C120) "__init__" = some (some (.ref f122)))
    (e130 : PySem.W.typeIn K (.ref f122) = some (.type "function"))
    (e131 : PySem.W.keepIn K (.ref C120) = true)
    (e132 : PySem.W.subIn K (.ref C120) (.type "BaseException") = some true)
    (e133 : PySem.W.subIn K (.ref C120) (.type "ValueError") = some true)
    (e134 : PySem.W.typeIn K (.ref C120) = some (.type "type"))
    (e135 : PySem.W.hasDictIn K C120 = true)
    (e136 : PySem.W.ks_superIn K C120 C120 "__init__" = some (some (.builtin "ValueError.__init__")))
    (e137 : PySem.W.mroIn K C120 (.ref C120) = some true)
    (e138 : PySem.W.exmOne K (.ref C120) (.ref C120) = some true)
    (e139 : K.lookup f122 = some ⟨oc123, od123, .func (PySem.W.ksFn "__init__" "Clash.__init__" (defArgs s_ClashU_initU) (defBody s_ClashU_initU) (defScope s_ClashU_initU) .none .none doc123 pm123 an123 (.ref cda123) ct123 cc123), osl123⟩)
    (e140 : PySem.W.codeIn K (.ref cda123) "Clash.__init__" = true)
    (e141 : K.lookup cda123 = some ⟨ccl123, cdd123, .fields vs123, ccs123⟩)
    (e142 : vs123[2]? = some (.str P.main.file tf123))
    (e143 : K.lookup cc123 = some ⟨cl123, cld123, .cell (some (.ref C120)), csl123⟩)
    (e144 : PySem.W.findIn K (.ref C120) "name" = some none)
    (z145 : PySem.W.exmOne K (.ref C45) (.ref C95) = some false)
    (z146 : PySem.W.exmOne K (.ref C95) (.ref C45) = some false)
    (z147 : PySem.W.nsIn K mainGlobals "DEEPEST" = some (some (.int 8 t148)))
    (a150 : PySem.W.nsIn K mainGlobals "split_line" = some (some (.ref f149)))
    (l151 : K.lookup f149 = some ⟨oc151, od151, .func (PySem.W.fnOf "split_line" "split_line" (defArgs s_split_line) (defBody s_split_line) (defScope s_split_line) .none kV151 dc151 pm151 an151 cd151 ct151), sl151⟩)
    (c151 : PySem.W.codeIn K cd151 "split_line" = true)
    (k151 : PySem.W.keepIn K (.ref f149) = true)
    (a153 : PySem.W.nsIn K mainGlobals "Reader" = some (some (.ref C152)))
    (q154 : PySem.W.plainGet K C152 Str.empty = true)
    (q155 : PySem.W.hasDictIn K C152 = true)
    (q156 : PySem.W.plainOver K C152 = true)
    (q157 : PySem.W.findIn K (.ref C152) "__setattr__" = some (some (.builtin "object.__setattr__")))
    (z158 : PySem.W.findIn K (.ref C152) "rows" = some none)
    (z159 : PySem.W.findIn K (.ref C152) "at" = some none)
    (z160 : PySem.W.findIn K (.ref C152) "starts" = some none)
    (z161 : PySem.W.findIn K (.ref C152) "bodies" = some none)
    (z162 : PySem.W.findIn K (.ref C152) "marks" = some none)
    (q164 : PySem.W.makesIn K C152 = true)
    (q165 : PySem.W.findIn K (.ref C152) "__init__" = some (some (.ref f163)))
    (q166 : PySem.W.isFn K (.ref f163) = true)
    (q167 : PySem.W.keepIn K (.ref C152) = true)
    (l168 : K.lookup f163 = some ⟨oc168, od168, .func (PySem.W.fnOf "__init__" "Reader.__init__" (defArgs s_ReaderU_initU) (defBody s_ReaderU_initU) (defScope s_ReaderU_initU) .none kV168 dc168 pm168 an168 cd168 ct168), sl168⟩)
    (c168 : PySem.W.codeIn K cd168 "Reader.__init__" = true)
    (k168 : PySem.W.keepIn K (.ref f163) = true)
    (q170 : PySem.W.findIn K (.ref C152) "words_at" = some (some (.ref f169)))
    (q171 : PySem.W.isFn K (.ref f169) = true)
    (l172 : K.lookup f169 = some ⟨oc172, od172, .func (PySem.W.fnOf "words_at" "Reader.words_at" (defArgs s_Reader_words_at) (defBody s_Reader_words_at) (defScope s_Reader_words_at) .none kV172 dc172 pm172 an172 cd172 ct172), sl172⟩)
    (c172 : PySem.W.codeIn K cd172 "Reader.words_at" = true)
    (k172 : PySem.W.keepIn K (.ref f169) = true)
    (q174 : PySem.W.findIn K (.ref C152) "wrong_if" = some (some (.ref f173)))
    (q175 : PySem.W.isFn K (.ref f173) = true)
    (l176 : K.lookup f173 = some ⟨oc176, od176, .func (PySem.W.fnOf "wrong_if" "Reader.wrong_if" (defArgs s_Reader_wrong_if) (defBody s_Reader_wrong_if) (defScope s_Reader_wrong_if) .none kV176 dc176 pm176 an176 cd176 ct176), sl176⟩)
    (c176 : PySem.W.codeIn K cd176 "Reader.wrong_if" = true)
    (k176 : PySem.W.keepIn K (.ref f173) = true)
    (q178 : PySem.W.findIn K (.ref C152) "read_all" = some (some (.ref f177)))
    (q179 : PySem.W.isFn K (.ref f177) = true)
    (l180 : K.lookup f177 = some ⟨oc180, od180, .func (PySem.W.fnOf "read_all" "Reader.read_all" (defArgs s_Reader_read_all) (defBody s_Reader_read_all) (defScope s_Reader_read_all) .none kV180 dc180 pm180 an180 cd180 ct180), sl180⟩)
    (c180 : PySem.W.codeIn K cd180 "Reader.read_all" = true)
    (k180 : PySem.W.keepIn K (.ref f177) = true)
    (q182 : PySem.W.findIn K (.ref C152) "read_body" = some (some (.ref f181)))
    (q183 : PySem.W.isFn K (.ref f181) = true)
    (l184 : K.lookup f181 = some ⟨oc184, od184, .func (PySem.W.fnOf "read_body" "Reader.read_body" (defArgs s_Reader_read_body) (defBody s_Reader_read_body) (defScope s_Reader_read_body) .none kV184 dc184 pm184 an184 cd184 ct184), sl184⟩)
    (c184 : PySem.W.codeIn K cd184 "Reader.read_body" = true)
    (k184 : PySem.W.keepIn K (.ref f181) = true)
    (q186 : PySem.W.findIn K (.ref C152) "read_statement" = some (some (.ref f185)))
    (q187 : PySem.W.isFn K (.ref f185) = true)
    (l188 : K.lookup f185 = some ⟨oc188, od188, .func (PySem.W.fnOf "read_statement" "Reader.read_statement" (defArgs s_Reader_read_statement) (defBody s_Reader_read_statement) (defScope s_Reader_read_statement) .none kV188 dc188 pm188 an188 cd188 ct188), sl188⟩)
    (c188 : PySem.W.codeIn K cd188 "Reader.read_statement" = true)
    (k188 : PySem.W.keepIn K (.ref f185) = true)
    (q190 : PySem.W.findIn K (.ref C152) "read_block" = some (some (.ref f189)))
    (q191 : PySem.W.isFn K (.ref f189) = true)
    (l192 : K.lookup f189 = some ⟨oc192, od192, .func (PySem.W.fnOf "read_block" "Reader.read_block" (defArgs s_Reader_read_block) (defBody s_Reader_read_block) (defScope s_Reader_read_block) .none kV192 dc192 pm192 an192 cd192 ct192), sl192⟩)
    (c192 : PySem.W.codeIn K cd192 "Reader.read_block" = true)
    (k192 : PySem.W.keepIn K (.ref f189) = true)
    (q194 : PySem.W.findIn K (.ref C152) "read_try" = some (some (.ref f193)))
    (q195 : PySem.W.isFn K (.ref f193) = true)
    (l196 : K.lookup f193 = some ⟨oc196, od196, .func (PySem.W.fnOf "read_try" "Reader.read_try" (defArgs s_Reader_read_try) (defBody s_Reader_read_try) (defScope s_Reader_read_try) .none kV196 dc196 pm196 an196 cd196 ct196), sl196⟩)
    (c196 : PySem.W.codeIn K cd196 "Reader.read_try" = true)
    (k196 : PySem.W.keepIn K (.ref f193) = true)
    (z197 : PySem.W.nsIn K mainGlobals "MOST_CHARACTERS" = some (some (.int 6000 t198)))
    (z199 : PySem.W.nsIn K mainGlobals "MOST_WEIGHT" = some (some (.int 400 t200)))
    (a201 : PySem.W.nsIn K mainGlobals "DATABASE_ERRORS" = some (some (.ref p202)))
    (l203 : K.lookup p202 = some ⟨.type "tuple", dd204, .seq #[.str "doomed" t207, .str "missing" t208, .str "present" t209, .str "refused" t210, .str "waits" t211] nn205, sl206⟩)
    (a212 : PySem.W.nsIn K mainGlobals "BOUNDS" = some (some (.ref p213)))
    (l214 : K.lookup p213 = some ⟨.type "tuple", dd215, .seq #[.ref p218, .ref p219, .ref p220, .ref p221, .ref p222, .ref p223] nn216, sl217⟩)
    (l224 : K.lookup p218 = some ⟨.type "tuple", dd225, .seq #[.str "functions" t228, .int 12 t229] nn226, sl227⟩)
    (l230 : K.lookup p219 = some ⟨.type "tuple", dd231, .seq #[.str "statements" t234, .int 80 t235] nn232, sl233⟩)
    (l236 : K.lookup p220 = some ⟨.type "tuple", dd237, .seq #[.str "records" t240, .int 6 t241] nn238, sl239⟩)
    (l242 : K.lookup p221 = some ⟨.type "tuple", dd243, .seq #[.str "errors" t246, .int 11 t247] nn244, sl245⟩)
    (l248 : K.lookup p222 = some ⟨.type "tuple", dd249, .seq #[.str "blocks" t252, .int 16 t253] nn250, sl251⟩)
    (l254 : K.lookup p223 = some ⟨.type "tuple", dd255, .seq #[.str "unknown" t258, .int 4 t259] nn256, sl257⟩)
    (a261 : PySem.W.nsIn K mainGlobals "Library" = some (some (.ref C260)))
    (q262 : PySem.W.plainGet K C260 Str.empty = true)
    (q263 : PySem.W.hasDictIn K C260 = true)
    (q264 : PySem.W.plainOver K C260 = true)
    (q265 : PySem.W.findIn K (.ref C260) "__setattr__" = some (some (.builtin "object.__setattr__")))
    (z266 : PySem.W.findIn K (.ref C260) "text" = some none)
    (z267 : PySem.W.findIn K (.ref C260) "lines" = some none)
    (z268 : PySem.W.findIn K (.ref C260) "starts" = some none)
    (z269 : PySem.W.findIn K (.ref C260) "bodies" = some none)
    (z270 : PySem.W.findIn K (.ref C260) "marks" = some none)
    (z271 : PySem.W.findIn K (.ref C260) "pairs" = some none)
    (q273 : PySem.W.makesIn K C260 = true)
    (q274 : PySem.W.findIn K (.ref C260) "__init__" = some (some (.ref f272)))
    (q275 : PySem.W.isFn K (.ref f272) = true)
    (q276 : PySem.W.keepIn K (.ref C260) = true)
    (l277 : K.lookup f272 = some ⟨oc277, od277, .func (PySem.W.fnOf "__init__" "Library.__init__" (defArgs s_LibraryU_initU) (defBody s_LibraryU_initU) (defScope s_LibraryU_initU) (.ref T278) kV277 dc277 pm277 an277 cd277 ct277), sl277⟩)
    (c277 : PySem.W.codeIn K cd277 "Library.__init__" = true)
    (k277 : PySem.W.keepIn K (.ref f272) = true)
    (lT284 : K.lookup T278 = some ⟨oc279, od280, .seq #[.int 6000 t283] on281, os282⟩)
    (a286 : PySem.W.nsIn K mainGlobals "parts_of" = some (some (.ref f285)))
    (l287 : K.lookup f285 = some ⟨oc287, od287, .func (PySem.W.fnOf "parts_of" "parts_of" (defArgs s_parts_of) (defBody s_parts_of) (defScope s_parts_of) .none kV287 dc287 pm287 an287 cd287 ct287), sl287⟩)
    (c287 : PySem.W.codeIn K cd287 "parts_of" = true)
    (k287 : PySem.W.keepIn K (.ref f285) = true)
    (a289 : PySem.W.nsIn K mainGlobals "listed_statements" = some (some (.ref f288)))
    (l290 : K.lookup f288 = some ⟨oc290, od290, .func (PySem.W.fnOf "listed_statements" "listed_statements" (defArgs s_listed_statements) (defBody s_listed_statements) (defScope s_listed_statements) (.ref T291) kV290 dc290 pm290 an290 cd290 ct290), sl290⟩)
    (c290 : PySem.W.codeIn K cd290 "listed_statements" = true)
    (k290 : PySem.W.keepIn K (.ref f288) = true)
    (lT297 : K.lookup T291 = some ⟨oc292, od293, .seq #[.bool false] on294, os295⟩)
    (a299 : PySem.W.nsIn K mainGlobals "words_of" = some (some (.ref f298)))
    (l300 : K.lookup f298 = some ⟨oc300, od300, .func (PySem.W.fnOf "words_of" "words_of" (defArgs s_words_of) (defBody s_words_of) (defScope s_words_of) .none kV300 dc300 pm300 an300 cd300 ct300), sl300⟩)
    (c300 : PySem.W.codeIn K cd300 "words_of" = true)
    (k300 : PySem.W.keepIn K (.ref f298) = true)
    (a302 : PySem.W.nsIn K mainGlobals "comes_back" = some (some (.ref f301)))
    (l303 : K.lookup f301 = some ⟨oc303, od303, .func (PySem.W.fnOf "comes_back" "comes_back" (defArgs s_comes_back) (defBody s_comes_back) (defScope s_comes_back) .none kV303 dc303 pm303 an303 cd303 ct303), sl303⟩)
    (c303 : PySem.W.codeIn K cd303 "comes_back" = true)
    (k303 : PySem.W.keepIn K (.ref f301) = true)
    (a305 : PySem.W.nsIn K mainGlobals "free_statements" = some (some (.ref f304)))
    (l306 : K.lookup f304 = some ⟨oc306, od306, .func (PySem.W.fnOf "free_statements" "free_statements" (defArgs s_free_statements) (defBody s_free_statements) (defScope s_free_statements) .none kV306 dc306 pm306 an306 cd306 ct306), sl306⟩)
    (c306 : PySem.W.codeIn K cd306 "free_statements" = true)
    (k306 : PySem.W.keepIn K (.ref f304) = true)
    (a308 : PySem.W.nsIn K mainGlobals "weight_of" = some (some (.ref f307)))
    (l309 : K.lookup f307 = some ⟨oc309, od309, .func (PySem.W.fnOf "weight_of" "weight_of" (defArgs s_weight_of) (defBody s_weight_of) (defScope s_weight_of) .none kV309 dc309 pm309 an309 cd309 ct309), sl309⟩)
    (c309 : PySem.W.codeIn K cd309 "weight_of" = true)
    (k309 : PySem.W.keepIn K (.ref f307) = true)
    (a311 : PySem.W.nsIn K mainGlobals "body_weight" = some (some (.ref f310)))
    (l312 : K.lookup f310 = some ⟨oc312, od312, .func (PySem.W.fnOf "body_weight" "body_weight" (defArgs s_body_weight) (defBody s_body_weight) (defScope s_body_weight) .none kV312 dc312 pm312 an312 cd312 ct312), sl312⟩)
    (c312 : PySem.W.codeIn K cd312 "body_weight" = true)
    (k312 : PySem.W.keepIn K (.ref f310) = true)
    (q314 : PySem.W.findIn K (.ref C260) "stay_in_bounds" = some (some (.ref f313)))
    (q315 : PySem.W.isFn K (.ref f313) = true)
    (l316 : K.lookup f313 = some ⟨oc316, od316, .func (PySem.W.fnOf "stay_in_bounds" "Library.stay_in_bounds" (defArgs s_Library_stay_in_bounds) (defBody s_Library_stay_in_bounds) (defScope s_Library_stay_in_bounds) .none kV316 dc316 pm316 an316 cd316 ct316), sl316⟩)
    (c316 : PySem.W.codeIn K cd316 "Library.stay_in_bounds" = true)
    (k316 : PySem.W.keepIn K (.ref f313) = true)
    (q318 : PySem.W.findIn K (.ref C260) "come_to_an_end" = some (some (.ref f317)))
    (q319 : PySem.W.isFn K (.ref f317) = true)
    (l320 : K.lookup f317 = some ⟨oc320, od320, .func (PySem.W.fnOf "come_to_an_end" "Library.come_to_an_end" (defArgs s_Library_come_to_an_end) (defBody s_Library_come_to_an_end) (defScope s_Library_come_to_an_end) .none kV320 dc320 pm320 an320 cd320 ct320), sl320⟩)
    (c320 : PySem.W.codeIn K cd320 "Library.come_to_an_end" = true)
    (k320 : PySem.W.keepIn K (.ref f317) = true)
    (q322 : PySem.W.findIn K (.ref C260) "functions" = some (some (.ref f321)))
    (q323 : PySem.W.isFn K (.ref f321) = true)
    (l324 : K.lookup f321 = some ⟨oc324, od324, .func (PySem.W.fnOf "functions" "Library.functions" (defArgs s_Library_functions) (defBody s_Library_functions) (defScope s_Library_functions) .none kV324 dc324 pm324 an324 cd324 ct324), sl324⟩)
    (c324 : PySem.W.codeIn K cd324 "Library.functions" = true)
    (k324 : PySem.W.keepIn K (.ref f321) = true)
    (q326 : PySem.W.findIn K (.ref C260) "records" = some (some (.ref f325)))
    (q327 : PySem.W.isFn K (.ref f325) = true)
    (l328 : K.lookup f325 = some ⟨oc328, od328, .func (PySem.W.fnOf "records" "Library.records" (defArgs s_Library_records) (defBody s_Library_records) (defScope s_Library_records) .none kV328 dc328 pm328 an328 cd328 ct328), sl328⟩)
    (c328 : PySem.W.codeIn K cd328 "Library.records" = true)
    (k328 : PySem.W.keepIn K (.ref f325) = true)
    (q330 : PySem.W.findIn K (.ref C260) "errors" = some (some (.ref f329)))
    (q331 : PySem.W.isFn K (.ref f329) = true)
    (l332 : K.lookup f329 = some ⟨oc332, od332, .func (PySem.W.fnOf "errors" "Library.errors" (defArgs s_Library_errors) (defBody s_Library_errors) (defScope s_Library_errors) .none kV332 dc332 pm332 an332 cd332 ct332), sl332⟩)
    (c332 : PySem.W.codeIn K cd332 "Library.errors" = true)
    (k332 : PySem.W.keepIn K (.ref f329) = true)
    (q334 : PySem.W.findIn K (.ref C260) "unknown" = some (some (.ref f333)))
    (q335 : PySem.W.isFn K (.ref f333) = true)
    (l336 : K.lookup f333 = some ⟨oc336, od336, .func (PySem.W.fnOf "unknown" "Library.unknown" (defArgs s_Library_unknown) (defBody s_Library_unknown) (defScope s_Library_unknown) .none kV336 dc336 pm336 an336 cd336 ct336), sl336⟩)
    (c336 : PySem.W.codeIn K cd336 "Library.unknown" = true)
    (k336 : PySem.W.keepIn K (.ref f333) = true)
    (q338 : PySem.W.findIn K (.ref C260) "blocks" = some (some (.ref f337)))
    (q339 : PySem.W.isFn K (.ref f337) = true)
    (l340 : K.lookup f337 = some ⟨oc340, od340, .func (PySem.W.fnOf "blocks" "Library.blocks" (defArgs s_Library_blocks) (defBody s_Library_blocks) (defScope s_Library_blocks) .none kV340 dc340 pm340 an340 cd340 ct340), sl340⟩)
    (c340 : PySem.W.codeIn K cd340 "Library.blocks" = true)
    (k340 : PySem.W.keepIn K (.ref f337) = true)
    (r341 : PySem.W.readsIn K C260 (.type "type") = true)
    (s342 : PySem.W.specialIn K (.ref C260) "__getattribute__" = some (some (.builtin "type.__getattribute__")))
    (z345 : PySem.W.findCls K (.ref C260) (.type "type") "joined" = some (.get (.builtin "staticmethod.__get__") (.ref p344) .none (.ref C260)))
    (r346 : PySem.W.recIn K p344 "staticmethod" = some (.ref f343 :: rs347))
    (l348 : K.lookup f343 = some ⟨oc348, od348, .func (PySem.W.fnOf "joined" "Library.joined" (defArgs s_Library_joined) (defBody s_Library_joined) (defScope s_Library_joined) .none kV348 dc348 pm348 an348 cd348 ct348), sl348⟩)
    (c348 : PySem.W.codeIn K cd348 "Library.joined" = true)
    (k348 : PySem.W.keepIn K (.ref f343) = true)
    (a350 : PySem.W.nsIn K mainGlobals "_law_pool" = some (some (.ref f349)))
    (l351 : K.lookup f349 = some ⟨oc351, od351, .func (PySem.W.fnOf "_law_pool" "_law_pool" (defArgs s_law_pool) (defBody s_law_pool) (defScope s_law_pool) .none kV351 dc351 pm351 an351 cd351 ct351), sl351⟩)
    (c351 : PySem.W.codeIn K cd351 "_law_pool" = true)
    (k351 : PySem.W.keepIn K (.ref f349) = true)
    (a353 : PySem.W.nsIn K mainGlobals "_law_draw" = some (some (.ref f352)))
    (l354 : K.lookup f352 = some ⟨oc354, od354, .func (PySem.W.fnOf "_law_draw" "_law_draw" (defArgs s_law_draw) (defBody s_law_draw) (defScope s_law_draw) .none kV354 dc354 pm354 an354 cd354 ct354), sl354⟩)
    (c354 : PySem.W.codeIn K cd354 "_law_draw" = true)
    (k354 : PySem.W.keepIn K (.ref f352) = true)
    (a356 : PySem.W.nsIn K mainGlobals "_law_word" = some (some (.ref f355)))
    (l357 : K.lookup f355 = some ⟨oc357, od357, .func (PySem.W.fnOf "_law_word" "_law_word" (defArgs s_law_word) (defBody s_law_word) (defScope s_law_word) .none kV357 dc357 pm357 an357 cd357 ct357), sl357⟩)
    (c357 : PySem.W.codeIn K cd357 "_law_word" = true)
    (k357 : PySem.W.keepIn K (.ref f355) = true)
    (a359 : PySem.W.nsIn K mainGlobals "_law_join" = some (some (.ref f358)))
    (l360 : K.lookup f358 = some ⟨oc360, od360, .func (PySem.W.fnOf "_law_join" "_law_join" (defArgs s_law_join) (defBody s_law_join) (defScope s_law_join) .none kV360 dc360 pm360 an360 cd360 ct360), sl360⟩)
    (c360 : PySem.W.codeIn K cd360 "_law_join" = true)
    (k360 : PySem.W.keepIn K (.ref f358) = true)
    (a362 : PySem.W.nsIn K mainGlobals "_law_rows" = some (some (.ref f361)))
    (l363 : K.lookup f361 = some ⟨oc363, od363, .func (PySem.W.fnOf "_law_rows" "_law_rows" (defArgs s_law_rows) (defBody s_law_rows) (defScope s_law_rows) .none kV363 dc363 pm363 an363 cd363 ct363), sl363⟩)
    (c363 : PySem.W.codeIn K cd363 "_law_rows" = true)
    (k363 : PySem.W.keepIn K (.ref f361) = true)
    (a365 : PySem.W.nsIn K mainGlobals "_law_bound" = some (some (.ref f364)))
    (l366 : K.lookup f364 = some ⟨oc366, od366, .func (PySem.W.fnOf "_law_bound" "_law_bound" (defArgs s_law_bound) (defBody s_law_bound) (defScope s_law_bound) .none kV366 dc366 pm366 an366 cd366 ct366), sl366⟩)
    (c366 : PySem.W.codeIn K cd366 "_law_bound" = true)
    (k366 : PySem.W.keepIn K (.ref f364) = true)
    (a368 : PySem.W.nsIn K mainGlobals "_law_ring" = some (some (.ref f367)))
    (l369 : K.lookup f367 = some ⟨oc369, od369, .func (PySem.W.fnOf "_law_ring" "_law_ring" (defArgs s_law_ring) (defBody s_law_ring) (defScope s_law_ring) .none kV369 dc369 pm369 an369 cd369 ct369), sl369⟩)
    (c369 : PySem.W.codeIn K cd369 "_law_ring" = true)
    (k369 : PySem.W.keepIn K (.ref f367) = true)
    (l370 : K.lookup f0 = some ⟨oc370, od370, .func (PySem.W.fnOf "law" "law" (defArgs s_law) (defBody s_law) (defScope s_law) .none kV370 dc370 pm370 an370 cd370 ct370), sl370⟩)
    (c370 : PySem.W.codeIn K cd370 "law" = true)
    (k370 : PySem.W.keepIn K (.ref f0) = true)
    (z371 : PySem.W.nsIn K mainGlobals "len" = some none)
    (z372 : PySem.W.nsIn K mainGlobals "isinstance" = some none)
    (z373 : PySem.W.nsIn K mainGlobals "str" = some none)
    (z374 : PySem.W.nsIn K mainGlobals "all" = some none)
    (z375 : PySem.W.nsIn K mainGlobals "super" = some none)
    (z376 : PySem.W.nsIn K mainGlobals "tuple" = some none)
    (z377 : PySem.W.nsIn K mainGlobals "list" = some none)
    (z378 : PySem.W.nsIn K mainGlobals "sorted" = some none)
    (z379 : PySem.W.nsIn K mainGlobals "set" = some none)
    (z380 : PySem.W.nsIn K mainGlobals "abs" = some none)
    (z381 : PySem.W.nsIn K mainGlobals "int" = some none)
    (z382 : PySem.W.nsIn K mainGlobals "range" = some none)
    (z383 : PySem.W.nsIn K mainGlobals "max" = some none)
    (z384 : PySem.W.nsIn K mainGlobals "min" = some none)
    : ∃ fd : FuncData, (∀ (s : Shared) (v : Value), BindsTo s fd ⟨[v], []⟩ [("_law_script", v)]) ∧ ∀ base : Heap, K.In base → base.Ns mainGlobals mg → FnOk P w K mg base CX0 58 fa fd ["_law_script"] (spLaw K) := by
  have e := hfa0.symm.trans (PySem.W.mg_of X G a0)
  cases e
  exact all_mk X G hfa0 a2 r3 s4 z5 z7 z9 z11 z13 z15 z17 z19 z21 l23 z37 r38 l40 c40 k40 a42 l43 c43 k43 z44 a46 e49 e50 e51 e52 e53 e54 e55 e56 e57 e58 e59 e60 e61 e62 e63 e64 e65 e66 e67 e68 e69 a71 e74 e75 e76 e77 e78 e79 e80 e81 e82 e83 e84 e85 e86 e87 e88 e89 e90 e91 e92 e93 e94 a96 e99 e100 e101 e102 e103 e104 e105 e106 e107 e108 e109 e110 e111 e112 e113 e114 e115 e116 e117 e118 e119 a121 e124 e125 e126 e127 e128 e129 e130 e131 e132 e133 e134 e135 e136 e137 e138 e139 e140 e141 e142 e143 e144 z145 z146 z147 a150 l151 c151 k151 a153 q154 q155 q156 q157 z158 z159 z160 z161 z162 q164 q165 q166 q167 l168 c168 k168 q170 q171 l172 c172 k172 q174 q175 l176 c176 k176 q178 q179 l180 c180 k180 q182 q183 l184 c184 k184 q186 q187 l188 c188 k188 q190 q191 l192 c192 k192 q194 q195 l196 c196 k196 z197 z199 a201 l203 a212 l214 l224 l230 l236 l242 l248 l254 a261 q262 q263 q264 q265 z266 z267 z268 z269 z270 z271 q273 q274 q275 q276 l277 c277 k277 lT284 a286 l287 c287 k287 a289 l290 c290 k290 lT297 a299 l300 c300 k300 a302 l303 c303 k303 a305 l306 c306 k306 a308 l309 c309 k309 a311 l312 c312 k312 q314 q315 l316 c316 k316 q318 q319 l320 c320 k320 q322 q323 l324 c324 k324 q326 q327 l328 c328 k328 q330 q331 l332 c332 k332 q334 q335 l336 c336 k336 q338 q339 l340 c340 k340 r341 s342 z345 r346 l348 c348 k348 a350 l351 c351 k351 a353 l354 c354 k354 a356 l357 c357 k357 a359 l360 c360 k360 a362 l363 c363 k363 a365 l366 c366 k366 a368 l369 c369 k369 l370 c370 k370 z371 z372 z373 z374 z375 z376 z377 z378 z379 z380 z381 z382 z383 z384
end Ic
open PySem PySem.W PyProof.Rows
set_option maxRecDepth 100000 in
set_option maxHeartbeats 0 in
theorem PySem.Challenge.cw_innercommits_k26_joined_bounds_holds : PySem.Challenge.rw_innercommits_k26_joined_bounds.Holds := by
  w_on; o_law; k_head; (case hw => w_witness2)
  k_fill
  refine L2.walk_ofB (l := PySem.Challenge.rw_innercommits_k26_joined_bounds) (n := 63) (k := 58) (x := "_law_script") (CX := fun _ => L2.CX0) (sp := fun w => Ic.spLaw _) rfl (by decide) rfl ⟨rfl, by decide, by decide⟩ (fun w h Y => PySem.W.kIn_of Y) ?F (fun _ _ a ns hl _ _ hS => ⟨a, ns, rfl, hS, hl, fun _ => rfl⟩) (fun _ _ _ _ _ h => h)
  case F =>
    intro w mg fa h KX G hmg
    refine' Ic.all_mk' KX G hmg ?a0 ?a2 ?r3 ?s4 ?z5 ?z7 ?z9 ?z11 ?z13 ?z15 ?z17 ?z19 ?z21 ?l23 ?z37 ?r38 ?l40 ?c40 ?k40 ?a42 ?l43 ?c43 ?k43 ?z44 ?a46 ?e49 ?e50 ?e51 ?e52 ?e53 ?e54 ?e55 ?e56 ?e57 ?e58 ?e59 ?e60 ?e61 ?e62 ?e63 ?e64 ?e65 ?e66 ?e67 ?e68 ?e69 ?a71 ?e74 ?e75 ?e76 ?e77 ?e78 ?e79 ?e80 ?e81 ?e82 ?e83 ?e84 ?e85 ?e86 ?e87 ?e88 ?e89 ?e90 ?e91 ?e92 ?e93 ?e94 ?a96 ?e99 ?e100 ?e101 ?e102 ?e103 ?e104 ?e105 ?e106 ?e107 ?e108 ?e109 ?e110 ?e111 ?e112 ?e113 ?e114 ?e115 ?e116 ?e117 ?e118 ?e119 ?a121 ?e124 ?e125 ?e126 ?e127 ?e128 ?e129 ?e130 ?e131 ?e132 ?e133 ?e134 ?e135 ?e136 ?e137 ?e138 ?e139 ?e140 ?e141 ?e142 ?e143 ?e144 ?z145 ?z146 ?z147 ?a150 ?l151 ?c151 ?k151 ?a153 ?q154 ?q155 ?q156 ?q157 ?z158 ?z159 ?z160 ?z161 ?z162 ?q164 ?q165 ?q166 ?q167 ?l168 ?c168 ?k168 ?q170 ?q171 ?l172 ?c172 ?k172 ?q174 ?q175 ?l176 ?c176 ?k176 ?q178 ?q179 ?l180 ?c180 ?k180 ?q182 ?q183 ?l184 ?c184 ?k184 ?q186 ?q187 ?l188 ?c188 ?k188 ?q190 ?q191 ?l192 ?c192 ?k192 ?q194 ?q195 ?l196 ?c196 ?k196 ?z197 ?z199 ?a201 ?l203 ?a212 ?l214 ?l224 ?l230 ?l236 ?l242 ?l248 ?l254 ?a261 ?q262 ?q263 ?q264 ?q265 ?z266 ?z267 ?z268 ?z269 ?z270 ?z271 ?q273 ?q274 ?q275 ?q276 ?l277 ?c277 ?k277 ?lT284 ?a286 ?l287 ?c287 ?k287 ?a289 ?l290 ?c290 ?k290 ?lT297 ?a299 ?l300 ?c300 ?k300 ?a302 ?l303 ?c303 ?k303 ?a305 ?l306 ?c306 ?k306 ?a308 ?l309 ?c309 ?k309 ?a311 ?l312 ?c312 ?k312 ?q314 ?q315 ?l316 ?c316 ?k316 ?q318 ?q319 ?l320 ?c320 ?k320 ?q322 ?q323 ?l324 ?c324 ?k324 ?q326 ?q327 ?l328 ?c328 ?k328 ?q330 ?q331 ?l332 ?c332 ?k332 ?q334 ?q335 ?l336 ?c336 ?k336 ?q338 ?q339 ?l340 ?c340 ?k340 ?r341 ?s342 ?z345 ?r346 ?l348 ?c348 ?k348 ?a350 ?l351 ?c351 ?k351 ?a353 ?l354 ?c354 ?k354 ?a356 ?l357 ?c357 ?k357 ?a359 ?l360 ?c360 ?k360 ?a362 ?l363 ?c363 ?k363 ?a365 ?l366 ?c366 ?k366 ?a368 ?l369 ?c369 ?k369 ?l370 ?c370 ?k370 ?z371 ?z372 ?z373 ?z374 ?z375 ?z376 ?z377 ?z378 ?z379 ?z380 ?z381 ?z382 ?z383 ?z384
    (case a0 => k_is)
    (case a2 => k_is)
    (case r3 => k_is)
    (case s4 => k_is)
    (case z5 => k_is)
    (case z7 => k_is)
    (case z9 => k_is)
    (case z11 => k_is)
    (case z13 => k_is)
    (case z15 => k_is)
    (case z17 => k_is)
    (case z19 => k_is)
    (case z21 => k_is)
    (case l23 => k_is)
    (case z37 => k_is)
    (case r38 => k_is)
    (case l40 => k_is)
    (case c40 => k_is)
    (case k40 => k_is)
    (case a42 => k_is)
    (case l43 => k_is)
    (case c43 => k_is)
    (case k43 => k_is)
    (case z44 => k_is)
    (case a46 => k_is)
    (case e49 => k_is)
    (case e50 => kernel_rfl)
    (case e51 => k_is)
    (case e52 => k_is)
    (case e53 => k_is)
    (case e54 => k_is)
    (case e55 => k_is)
    (case e56 => k_is)
    (case e57 => k_is)
    (case e58 => k_is)
    (case e59 => k_is)
    (case e60 => k_is)
    (case e61 => kernel_rfl)
    (case e62 => k_is)
    (case e63 => kernel_rfl)
    (case e64 => k_is)
    (case e65 => k_is)
    (case e66 => k_is)
    (case e67 => exact rfl)
    (case e68 => k_is)
    (case e69 => k_is)
    (case a71 => k_is)
    (case e74 => k_is)
    (case e75 => kernel_rfl)
    (case e76 => k_is)
    (case e77 => k_is)
    (case e78 => k_is)
    (case e79 => k_is)
    (case e80 => k_is)
    (case e81 => k_is)
    (case e82 => k_is)
    (case e83 => k_is)
    (case e84 => k_is)
    (case e85 => k_is)
    (case e86 => kernel_rfl)
    (case e87 => k_is)
    (case e88 => kernel_rfl)
    (case e89 => k_is)
    (case e90 => k_is)
    (case e91 => k_is)
    (case e92 => exact rfl)
    (case e93 => k_is)
    (case e94 => k_is)
    (case a96 => k_is)
    (case e99 => k_is)
    (case e100 => kernel_rfl)
    (case e101 => k_is)
    (case e102 => k_is)
    (case e103 => k_is)
    (case e104 => k_is)
    (case e105 => k_is)
    (case e106 => k_is)
    (case e107 => k_is)
    (case e108 => k_is)
    (case e109 => k_is)
    (case e110 => k_is)
    (case e111 => kernel_rfl)
    (case e112 => k_is)
    (case e113 => kernel_rfl)
    (case e114 => k_is)
    (case e115 => k_is)
    (case e116 => k_is)
    (case e117 => exact rfl)
    (case e118 => k_is)
    (case e119 => k_is)
    (case a121 => k_is)
    (case e124 => k_is)
    (case e125 => kernel_rfl)
    (case e126 => k_is)
    (case e127 => k_is)
    (case e128 => k_is)
    (case e129 => k_is)
    (case e130 => k_is)
    (case e131 => k_is)
    (case e132 => k_is)
    (case e133 => k_is)
    (case e134 => k_is)
    (case e135 => k_is)
    (case e136 => kernel_rfl)
    (case e137 => k_is)
    (case e138 => kernel_rfl)
    (case e139 => k_is)
    (case e140 => k_is)
    (case e141 => k_is)
    (case e142 => exact rfl)
    (case e143 => k_is)
    (case e144 => k_is)
    (case z145 => kernel_rfl)
    (case z146 => kernel_rfl)
    (case z147 => k_is)
    (case a150 => k_is)
    (case l151 => k_is)
    (case c151 => k_is)
    (case k151 => k_is)
    (case a153 => k_is)
    (case q154 => k_is)
    (case q155 => k_is)
    (case q156 => k_is)
    (case q157 => k_is)
    (case z158 => k_is)
    (case z159 => k_is)
    (case z160 => k_is)
    (case z161 => k_is)
    (case z162 => k_is)
    (case q164 => k_is)
    (case q165 => k_is)
    (case q166 => k_is)
    (case q167 => k_is)
    (case l168 => k_is)
    (case c168 => k_is)
    (case k168 => k_is)
    (case q170 => k_is)
    (case q171 => k_is)
    (case l172 => k_is)
    (case c172 => k_is)
    (case k172 => k_is)
    (case q174 => k_is)
    (case q175 => k_is)
    (case l176 => k_is)
    (case c176 => k_is)
    (case k176 => k_is)
    (case q178 => k_is)
    (case q179 => k_is)
    (case l180 => k_is)
    (case c180 => k_is)
    (case k180 => k_is)
    (case q182 => k_is)
    (case q183 => k_is)
    (case l184 => k_is)
    (case c184 => k_is)
    (case k184 => k_is)
    (case q186 => k_is)
    (case q187 => k_is)
    (case l188 => k_is)
    (case c188 => k_is)
    (case k188 => k_is)
    (case q190 => k_is)
    (case q191 => k_is)
    (case l192 => k_is)
    (case c192 => k_is)
    (case k192 => k_is)
    (case q194 => k_is)
    (case q195 => k_is)
    (case l196 => k_is)
    (case c196 => k_is)
    (case k196 => k_is)
    (case z197 => k_is)
    (case z199 => k_is)
    (case a201 => k_is)
    (case l203 => k_is)
    (case a212 => k_is)
    (case l214 => k_is)
    (case l224 => k_is)
    (case l230 => k_is)
    (case l236 => k_is)
    (case l242 => k_is)
    (case l248 => k_is)
    (case l254 => k_is)
    (case a261 => k_is)
    (case q262 => k_is)
    (case q263 => k_is)
    (case q264 => k_is)
    (case q265 => k_is)
    (case z266 => k_is)
    (case z267 => k_is)
    (case z268 => k_is)
    (case z269 => k_is)
    (case z270 => k_is)
    (case z271 => k_is)
    (case q273 => k_is)
    (case q274 => k_is)
    (case q275 => k_is)
    (case q276 => k_is)
    (case l277 => k_is)
    (case c277 => k_is)
    (case k277 => k_is)
    (case lT284 => k_is)
    (case a286 => k_is)
    (case l287 => k_is)
    (case c287 => k_is)
    (case k287 => k_is)
    (case a289 => k_is)
    (case l290 => k_is)
    (case c290 => k_is)
    (case k290 => k_is)
    (case lT297 => k_is)
    (case a299 => k_is)
    (case l300 => k_is)
    (case c300 => k_is)
    (case k300 => k_is)
    (case a302 => k_is)
    (case l303 => k_is)
    (case c303 => k_is)
    (case k303 => k_is)
    (case a305 => k_is)
    (case l306 => k_is)
    (case c306 => k_is)
    (case k306 => k_is)
    (case a308 => k_is)
    (case l309 => k_is)
    (case c309 => k_is)
    (case k309 => k_is)
    (case a311 => k_is)
    (case l312 => k_is)
    (case c312 => k_is)
    (case k312 => k_is)
    (case q314 => k_is)
    (case q315 => k_is)
    (case l316 => k_is)
    (case c316 => k_is)
    (case k316 => k_is)
    (case q318 => k_is)
    (case q319 => k_is)
    (case l320 => k_is)
    (case c320 => k_is)
    (case k320 => k_is)
    (case q322 => k_is)
    (case q323 => k_is)
    (case l324 => k_is)
    (case c324 => k_is)
    (case k324 => k_is)
    (case q326 => k_is)
    (case q327 => k_is)
    (case l328 => k_is)
    (case c328 => k_is)
    (case k328 => k_is)
    (case q330 => k_is)
    (case q331 => k_is)
    (case l332 => k_is)
    (case c332 => k_is)
    (case k332 => k_is)
    (case q334 => k_is)
    (case q335 => k_is)
    (case l336 => k_is)
    (case c336 => k_is)
    (case k336 => k_is)
    (case q338 => k_is)
    (case q339 => k_is)
    (case l340 => k_is)
    (case c340 => k_is)
    (case k340 => k_is)
    (case r341 => k_is)
    (case s342 => k_is)
    (case z345 => k_is)
    (case r346 => k_is)
    (case l348 => k_is)
    (case c348 => k_is)
    (case k348 => k_is)
    (case a350 => k_is)
    (case l351 => k_is)
    (case c351 => k_is)
    (case k351 => k_is)
    (case a353 => k_is)
    (case l354 => k_is)
    (case c354 => k_is)
    (case k354 => k_is)
    (case a356 => k_is)
    (case l357 => k_is)
    (case c357 => k_is)
    (case k357 => k_is)
    (case a359 => k_is)
    (case l360 => k_is)
    (case c360 => k_is)
    (case k360 => k_is)
    (case a362 => k_is)
    (case l363 => k_is)
    (case c363 => k_is)
    (case k363 => k_is)
    (case a365 => k_is)
    (case l366 => k_is)
    (case c366 => k_is)
    (case k366 => k_is)
    (case a368 => k_is)
    (case l369 => k_is)
    (case c369 => k_is)
    (case k369 => k_is)
    (case l370 => k_is)
    (case c370 => k_is)
    (case k370 => k_is)
    (case z371 => k_is)
    (case z372 => k_is)
    (case z373 => k_is)
    (case z374 => k_is)
    (case z375 => k_is)
    (case z376 => k_is)
    (case z377 => k_is)
    (case z378 => k_is)
    (case z379 => k_is)
    (case z380 => k_is)
    (case z381 => k_is)
    (case z382 => k_is)
    (case z383 => k_is)
    (case z384 => k_is)
#print axioms PySem.Challenge.cw_innercommits_k26_joined_bounds_holds
