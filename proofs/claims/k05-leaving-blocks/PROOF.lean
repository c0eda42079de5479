import PyProof.Rows.All
import Wide.All
import OpenK.AllK
import Wide.FinOn
import HandS.ForMost
import HandS.EndBits
import HandS.Wide
import HandS.IsInst
import HandS.Style
import HandS.Walk
import HandS.ClsMeth
import HandS.Conv
import HandS.ForExc
import HandS.ExcInit
import HandS.CallSlots
import HandS.Defaults
import HandS.ExcField
import HandS.Property
import HandS.WordsExc
import HandS.TryMany
import KE.KExcSuper
import HandS.HotCalls
import HandS.Dict
import PySem.Challenge.RW_innercommits_k05_leaving_blocks

set_option Elab.async false
set_option linter.all false
set_option maxRecDepth 100000
set_option maxHeartbeats 4000000
namespace Ic
open PySem L2
def top (i : Nat) : Stmt := PySem.Challenge.pw_innercommits_k05_leaving_blocks.main.body.getD i (.Pass ⟨0, 0, 0, 0⟩)
abbrev P : Program := PySem.Challenge.pw_innercommits_k05_leaving_blocks
/-! ### heaps -/
theorem sz_le {n m : Nat} (h : Nat.ble n m = true) : n ≤ m := Nat.le_of_ble_eq_true h
theorem sz_lt {n m : Nat} (h : Nat.blt n m = true) : n < m := Nat.le_of_ble_eq_true h
theorem upd_old {H : Hp} {p a : Addr} {o u : HO} (h : H a = some u) (hp : H p = none) : upd H p o a = some u := by
  rw [upd_ne (ne_of_none h hp)]; exact h
theorem upd_oth {H : Hp} {p a : Addr} {o u : HO} (hn : a ≠ p) (h : H a = some u) : upd H p o a = some u := by
  rw [upd_ne hn]; exact h
theorem cmul_l {i j : Int} (h : (decide (-(2 ^ 64) < i) && decide (i < 2 ^ 64)) = true) : CMul i j := by
  simp only [Bool.and_eq_true, decide_eq_true_eq] at h
  exact .inl h
theorem cmul_r {i j : Int} (h : (decide (-(2 ^ 64) < j) && decide (j < 2 ^ 64)) = true) : CMul i j := by
  simp only [Bool.and_eq_true, decide_eq_true_eq] at h
  exact .inr h
theorem cpow_lit {i j : Int} (h : (decide (0 ≤ j) && decide (j ≤ 1000000) && decide (i.natAbs < 2 ^ 64)) = true) : CPow i j := by
  simp only [Bool.and_eq_true, decide_eq_true_eq] at h
  exact ⟨h.1.1, h.1.2, h.2⟩
theorem cdiv_lit {i j : Int} (h : (decide (0 < j) && decide (j < 1073741824)) = true) : CDivW i j := by
  simp only [Bool.and_eq_true, decide_eq_true_eq] at h
  exact wide_div (b := 40) h.1 (by omega) (by decide) (by decide)
theorem none_upd {H : Hp} {p b : Addr} {o : HO} (h : upd H p o b = none) : b ≠ p ∧ H b = none := by
  by_cases e : b = p
  · rw [e, upd_same] at h; cases h
  · exact ⟨e, by rw [upd_ne e] at h; exact h⟩
/-- all that was tracked, but S, is as it was -/
def Kp (S : Addr → Prop) (H H' : Hp) : Prop := ∀ b u, H b = some u → ¬ S b → H' b = some u
theorem Kp.refl {S : Addr → Prop} {H : Hp} : Kp S H H := fun _ _ h _ => h
theorem Kp.trans {S : Addr → Prop} {H H1 H2 : Hp} (a : Kp S H H1) (b : Kp S H1 H2) : Kp S H H2 := fun c u h n => b c u (a c u h n) n
theorem Kp.new {S : Addr → Prop} {H H1 : Hp} {p : Addr} {o : HO} (a : Kp S H H1) (h : H1 p = none) : Kp S H (upd H1 p o) := fun c u e n => upd_old (a c u e n) h
theorem Kp.set {S : Addr → Prop} {H H1 : Hp} {p : Addr} {o : HO} (a : Kp S H H1) (h : S p) : Kp S H (upd H1 p o) := fun c u e n => upd_oth (fun z => n (z ▸ h)) (a c u e n)
theorem Kp.set1 {H H1 : Hp} {p : Addr} {o : HO} (a : Kp (fun b => b = p) H H1) : Kp (fun b => b = p) H (upd H1 p o) := a.set rfl
/-- p is none of H's -/
theorem Kp.fresh {S : Addr → Prop} {H H1 : Hp} {p : Addr} {o : HO} (a : Kp S H H1) (h : H p = none) : Kp S H (upd H1 p o) := fun c u e n => upd_oth (ne_of_none e h) (a c u e n)
theorem Kp.mono {S S' : Addr → Prop} {H H1 : Hp} (a : Kp S H H1) (h : ∀ b, S b → S' b) : Kp S' H H1 := fun c u e n => a c u e fun z => n (h c z)
theorem Kp.same {S : Addr → Prop} {H H1 H2 : Hp} (a : Same H H1) (b : Kp S H1 H2) (n : ∀ c, S c → H c = none) : Same H H2 := fun c u h => b c u (a c u h) fun z => by
  rw [n c z] at h; cases h
theorem Kp.of_same {S : Addr → Prop} {H H1 : Hp} (a : Same H H1) : Kp S H H1 := fun c u h _ => a c u h
theorem _root_.L2.Same.new {H H1 : Hp} {p : Addr} {o : HO} (a : Same H H1) (h : H1 p = none) : Same H (upd H1 p o) := fun c u e => upd_old (a c u e) h
theorem _root_.L2.Same.frsh {H H1 : Hp} {p : Addr} {o : HO} (a : Same H H1) (h : H p = none) : Same H (upd H1 p o) := fun c u e => upd_oth (ne_of_none e h) (a c u e)
theorem tyV_lst {K : PySem.W.Frag} {H : Hp} {p : Addr} {xs : List V} (h : SqL K H p xs) : tyV K "list" (.ref p) H := .inl ⟨rfl, xs, h⟩
class RdTy (α : Type) : Prop
instance : RdTy V := ⟨⟩
instance : RdTy Int := ⟨⟩
instance : RdTy Nat := ⟨⟩
instance : RdTy Bool := ⟨⟩
instance : RdTy Str := ⟨⟩
instance : RdTy HO := ⟨⟩
instance : RdTy Value := ⟨⟩
instance : RdTy Obj := ⟨⟩
instance {α : Type} : RdTy (List α) := ⟨⟩
instance {α : Type} : RdTy (Array α) := ⟨⟩
instance {α β : Type} : RdTy (Sum α β) := ⟨⟩
theorem exI {α : Type} [RdTy α] {p : α → Prop} (w : α) (h : p w) : Exists p := ⟨w, h⟩
/-! ### the pool -/
def PoolO (o : HO) (c : Nat) : Prop := ∃ a b n : Int, o = .lst [.int a, .int b, .int n] ∧ 0 ≤ a ∧ 0 ≤ b ∧ b < 2 ^ 62 ∧ 0 ≤ n ∧ n ≤ c
def PoolAt (H : Hp) (p : Addr) (c : Nat) : Prop := ∃ o, H p = some o ∧ PoolO o c
theorem PoolO.mono {o : HO} {c d : Nat} (h : PoolO o c) (l : c ≤ d) : PoolO o d := by
  obtain ⟨a, b, n, e, h1, h2, h3, h4, h5⟩ := h
  exact ⟨a, b, n, e, h1, h2, h3, h4, by omega⟩
def spPool (K : PySem.W.Frag) : Sp := fun vs H Q _ => ∃ (a : Addr) (ns : List Int) (i : Nat), vs = [.ref a, .int (i : Int)] ∧ SqL K H a (ns.map V.int) ∧ i < 1000 ∧
  ∀ p o, H p = none → PoolO o 0 → Q (.ref p) (upd H p o)
def spDraw : Sp := fun vs H Q _ => ∃ (p : Addr) (m : Int) (c : Nat) (o : HO), vs = [.ref p, .int m] ∧ H p = some o ∧ PoolO o c ∧ 0 < m ∧ m < 2 ^ 200 ∧ c < 2 ^ 40 ∧
  ∀ r o', 0 ≤ r → r < m → PoolO o' (c + 1) → Q (.int r) (upd H p o')
local macro_rules | `(tactic| walk_at "hp") => `(tactic| first | with_reducible assumption | with_reducible exact upd_same | (with_reducible apply upd_old; (focus (walk_at "hp")); (focus with_reducible assumption)) | (with_reducible apply upd_oth; (focus (first | with_reducible assumption | (with_reducible apply Ne.symm; with_reducible assumption))); walk_at "hp"))
local macro_rules | `(tactic| walk_at "sq") => `(tactic| first | with_reducible assumption | (with_reducible apply SqL.of; walk_at "hp") | (with_reducible apply SqT.of; walk_at "hp"))
local macro_rules | `(tactic| walk_at "side") => `(tactic| first | with_reducible assumption | exact ⟨_, rfl⟩ | walk_at "hp" | walk_at "sq" | (with_reducible apply tyV_lst; walk_at "sq") | (with_reducible apply Or.inl; walk_at "sq") | (with_reducible apply Or.inr; walk_at "sq") | with_reducible exact cmul_l (by decide) | with_reducible exact cmul_r (by decide) | with_reducible exact cpow_lit (by decide) | with_reducible exact cdiv_lit (by decide) | decide | exact sz_le rfl | exact sz_lt rfl | omega)
local macro_rules | `(tactic| walk_at "kp") => `(tactic| first | with_reducible assumption | with_reducible exact Kp.refl | (with_reducible apply Kp.set1; walk_at "kp") | (with_reducible apply Kp.new; (focus (walk_at "kp")); (focus with_reducible assumption)) | (with_reducible apply Kp.fresh; (focus (walk_at "kp")); (focus with_reducible assumption)))
local macro_rules | `(tactic| walk_at "rd1") => `(tactic| first
  | refine And.intro rfl ?_
  | apply exI
  | (refine Or.inl ?_; apply exI; refine And.intro rfl ?_)
  | (refine Or.inr ?_; apply exI; refine And.intro rfl ?_)
  | (refine And.intro ?_ ?_; (focus (walk_at "side"))))
local macro_rules | `(tactic| walk_at "rd") => `(tactic| repeat (walk_at "rd1"))
/-! ### further rules: a staticmethod called off its class, list of a text -/
/-- C.m is a staticmethod: its record at p, its def at f -/
structure SMet (K : PySem.W.Frag) (C : Addr) (mc : Value) (m : Str) (p f : Addr) : Prop where
  at_ : PySem.W.findCls K (.ref C) mc m = some (.get (.builtin "staticmethod.__get__") (.ref p) .none (.ref C))
  rc : ∃ rest, PySem.W.recIn K p "staticmethod" = some (.ref f :: rest)
def tSMeth (C : Addr) (sp : Sp) (dvs : List V) (E : XK) (ta : TE) (t : TA) : TE := fun σ H Q => ta σ H fun x H1 => x = .ref C ∧ t σ H1 fun vs H2 => sp (vs ++ dvs) H2 Q E
theorem pe_smeth {X : Cx} {CX : CXT} {k : Nat} {C p f : Addr} {fd : FuncData} {ps : List Str} {ds : List Value} {dvs : List V} {mc : Value} {sp : Sp} {E : XK} {o e : Expr} {es : List Expr} {m : Str} {pos apos : Pos} {ta : TE} {t : TA} {pl : Sem Bool}
    (he : PE X o ta) (r : ClX.CRead X.K C mc) (c : SMet X.K C mc m p f) (F : FnOk X.prog X.w X.K X.mg X.base CX k f fd ps sp) (hr : Room k X.A) (hk : PySem.W.keepIn X.K (.ref f) = true) (hb : Binds X.K fd ps ds) (hd : Vals dvs ds) (hx : Passes CX X E) (ha : PA X (e :: es) t)
    (hst : starEach (e :: es) X.env = (false, eval e X.env) :: starEach es X.env := by rfl) (hpl : (backTo pos (starEach es X.env)).any (·.1) = false := by rfl)
    (ht : eval (.Call (.Attribute o m apos) (e :: es) [] pos) X.env = (do
      let ov ← eval o X.env
      standAt apos.atName
      let (f, first) ← holding [ov] (getMethod ov m pl)
      callWith pos f first (backTo pos (starEach (e :: es) X.env)) (backToKw pos (keywordEach [] X.env))) := by rfl) :
    PE X (.Call (.Attribute o m apos) (e :: es) [] pos) (tSMeth C sp dvs E ta t) := by
  refine ⟨fun pins s σ H Q I h => ?_⟩
  refine PySem.W.methodCall_KW (pl := pl) (thn (he.run pins s σ H _ I h) fun u s1 ⟨x, H1, I1, rx, ex, q⟩ => ?_) ht
  subst ex
  obtain rfl : u = Value.ref C := rx
  obtain ⟨rest, hp⟩ := c.rc
  refine PySem.W.method_cls I1.kIn r.ga (PySem.W.cls_bind I1.kIn r.rd c.at_ ?_)
  refine wpAny_call (PySem.W.sm_get (s := { s1 with toks := s1.toks + 1 }) I1.kIn hp (PySem.W.handed_on rfl ?_))
  have I2 := I1.tok (s1.toks + 1)
  refine PySem.W.callWith_K (h₀ := X.base) (first := []) I2.ok.mod.kin hk (thn (ha.run pos pins _ σ H1 _ I2 q) fun us s3 ⟨vs, H2, I3, rv, q2⟩ => ⟨I3.kIn, ?_⟩) hst hpl
  exact run_fn F hr hb hd hx I3 rv q2
theorem call_list_text {X : Cx} (hc : X.calm = true) : CallR X (.type "list") (fun xs H Q => ∃ z : Str, xs = [.str z] ∧ z.length ≤ sizeLine ∧ ∀ l, H l = none → Q (.ref l) (upd H l (.lst (z.cps.toList.map fun c => .str ⟨#[c]⟩)))) := by
  intro pins s σ H xs us Q I r h
  obtain ⟨z, rfl, hz, q⟩ := h
  obtain ⟨u, rfl, t, rfl⟩ := vals1 r
  refine call_list_str (I.ok.hd hc) z t (fun h' tk acc c' kp e it => ?_) hz
  have hv : Vals (z.cps.toList.map fun c => V.str ⟨#[c]⟩) acc.toList := by
    refine vals_of_at (by rw [List.length_map, Array.length_toList, Array.length_toList, it.1]) fun j x u e1 e2 => ?_
    rw [Array.getElem?_toList] at e2
    obtain ⟨c, tk, hc1, rfl⟩ := it.2 j u e2
    rw [List.getElem?_map, Array.getElem?_toList, hc1] at e1
    cases e1
    exact ⟨tk, rfl⟩
  refine ⟨.ref s.heap.objs.size, _, I.laid (o := .lst (z.cps.toList.map fun c => V.str ⟨#[c]⟩)) (t' := tk) kp (Nat.le_refl _) ?_, rfl, q _ (I.hok.fresh (Nat.le_refl _))⟩
  exact ⟨by rw [List.length_map, Array.length_toList]; exact hz, acc.toList, c', hv, by simpa using e⟩
/-! ### data: == of lists and tuples -/
theorem eqvAll_nil {ds : List PyData} : PyData.eqvAll ds [] = ds.isEmpty := by
  cases ds <;> rfl
def asc (z : Str) : Prop := ∀ c ∈ z.cps.toList, c < 128
theorem asc_ok {z : Str} (h : asc z) : PyData.strOk z = true := by
  unfold PyData.strOk
  rw [Array.all_eq_true]
  intro i hi
  have := h z.cps[i] (by rw [Array.mem_toList_iff]; exact Array.getElem_mem hi)
  simp; omega
theorem dp_strs {K : PySem.W.Frag} {H : Hp} : ∀ ys : List Str, DpAll K H (ys.map V.str) (ys.map PyData.str)
  | [] => .nil
  | y :: r => .cons (.str y) (dp_strs r)
theorem lay_strs : ∀ {ys : List Str}, (∀ y ∈ ys, asc y) → PyData.canLayAll0 (ys.map PyData.str) = true
  | [], _ => rfl
  | y :: r, h => by
    show (PyData.strOk y && PyData.canLayAll0 (r.map PyData.str)) = true
    rw [asc_ok (h y List.mem_cons_self), lay_strs fun z hz => h z (List.mem_cons_of_mem _ hz)]; rfl
theorem depth_strs : ∀ ys : List Str, PyData.depthAll (ys.map PyData.str) = 0
  | [] => rfl
  | y :: r => by
    show max 0 (PyData.depthAll (r.map PyData.str)) = 0
    rw [depth_strs r]; rfl
theorem shaped_strs {ys : List Str} (h : ∀ y ∈ ys, asc y) : SeqAt.shaped (.list (ys.map PyData.str)) = true := by
  show (PyData.canLayAll0 (ys.map PyData.str) && decide (PyData.depthAll (ys.map PyData.str) + 1 ≤ 64)) = true
  rw [lay_strs h, depth_strs]; rfl
/-! ### letters -/
def Lets (cs : List Nat) : Prop := ∀ c ∈ cs, 97 ≤ c ∧ c ≤ 122
def chr1 (c : Nat) : Str := ⟨#[c]⟩
structure IsWord (w : Str) : Prop where
  lo : 1 ≤ w.cps.toList.length
  hi : w.cps.toList.length ≤ 8
  al : Lets w.cps.toList
def alpha : Str := "abcdefghijklmnopqrstuvwxyz"
theorem alpha_all : ∀ n : Nat, n < 26 → alpha.cps.toList[n]? = some (97 + n) := by
  have h : (List.range 26).all (fun n => decide (alpha.cps.toList[n]? = some (97 + n))) = true := by decide +kernel
  intro n hn
  exact of_decide_eq_true (List.all_eq_true.mp h n (List.mem_range.mpr hn))
theorem alpha_at {r : Int} (h0 : 0 ≤ r) (h1 : r < 26) : atI alpha.cps.toList r = some (97 + r.toNat) := by
  have e : ((r.toNat : Nat) : Int) = r := by omega
  have h := atI_nat (alpha_all r.toNat (by omega))
  rw [e] at h
  exact h
theorem join_chr : ∀ cs : List Nat, Txt.join (Str.ofString "") (cs.map chr1) = ⟨cs.toArray⟩ := by
  intro cs
  show Builtin.Str.glued (Str.ofString "") (cs.map chr1) = _
  rw [StrLaws.glued_eq_join]
  have e0 : (Str.ofString "") = Str.empty := by decide +kernel
  rw [e0]
  induction cs with
  | nil => rfl
  | cons c r ih =>
    cases r with
    | nil => rfl
    | cons b r =>
      show chr1 c ++ Str.empty ++ Str.join Str.empty ((b :: r).map chr1) = _
      rw [ih]
      show (⟨(#[c] ++ #[]) ++ (b :: r).toArray⟩ : Str) = ⟨(c :: b :: r).toArray⟩
      simp
theorem sum_chr : ∀ cs : List Nat, ((cs.map chr1).map (·.length)).sum = cs.length
  | [] => rfl
  | c :: r => by
    show 1 + ((r.map chr1).map (·.length)).sum = r.length + 1
    rw [sum_chr r]; omega
theorem alpha_len : alpha.length ≤ sizeLine := by decide +kernel
/-- [letters[draw(pool, 26)] for k in range(n)] -/
theorem lc_letters {n i0 i1 ik : Nat} {σ : St} {H1 : Hp} {D p : Addr} {o : HO} {c : Nat} {Qd : Hp → Prop} (hD : H1 D = none) (hp : H1 p = some o) (hc : PoolO o c) (hb : c + n < 2 ^ 40) (hn : n < 1000000)
    (s0 : σ[i0]? = some (some (.ref p))) (s1 : σ[i1]? = some (some (.str alpha))) (n0 : i0 ≠ ik) (n1 : i1 ≠ ik)
    (q : ∀ H' cs o', cs.length = n → Lets cs → Kp (fun b => b = p) H1 H' → H' p = some o' → PoolO o' (c + n) → H' D = some (.lst ((cs.map chr1).map V.str)) → Qd H') :
    ∃ W : Nat → Nat → Hp → Prop, (∃ m, W 0 m (upd H1 D (.lst []))) ∧ ∀ i m H, W i m H →
      ((Itr 0 n).stop i H ∧ Qd H) ∨ ((Itr 0 n).go i H ∧ ∃ Nx : Hp → Prop, (∀ H', Nx H' → ∃ m', m' < m ∧ W (i + 1) m' H') ∧ ∀ x H', (Itr 0 n).yld i H x H' → gName ik x (wipe σ [ik]) H' fun σ2 H2 => wipe σ2 [ik] = wipe σ [ik] ∧ tYes σ2 H2 fun b H3 =>
        if b = true then tOp rIxS (tVar i1) (tCall spDraw [] E0 (tCons (tVar i0) (tCons (tC (.int 26)) tNil))) σ2 H3 fun y H4 => ∃ acc, H4 D = some (.lst acc) ∧ acc.length < sizeLine ∧ Nx (upd H4 D (.lst (acc ++ [y]))) else Nx H3) := by
  have npD : p ≠ D := ne_of_none hp hD
  have w0 : ∀ v, ((wipe σ [ik]).set ik (some v))[i0]? = some (some (.ref p)) := fun v => by
    rw [List.getElem?_set_ne (Ne.symm n0), wipe_out (by simp [n0])]; exact s0
  have w1 : ∀ v, ((wipe σ [ik]).set ik (some v))[i1]? = some (some (.str alpha)) := fun v => by
    rw [List.getElem?_set_ne (Ne.symm n1), wipe_out (by simp [n1])]; exact s1
  refine lc_range (fun i H => ∃ cs o', cs.length = i ∧ Lets cs ∧ Kp (fun b => b = p) H1 H ∧ H p = some o' ∧ PoolO o' (c + i) ∧ H D = some (.lst ((cs.map chr1).map V.str))) ?_ ?_ ?_
  · exact ⟨[], o, rfl, (fun _ h => nomatch h), Kp.refl.new hD, upd_old hp hD, hc, upd_same⟩
  · rintro i H hi ⟨cs, o', e1, e2, e3, e4, e5, e6⟩
    refine ⟨?_, ?_⟩
    · show wipe ((wipe σ [ik]).set ik _) [ik] = wipe σ [ik]
      show (((σ.set ik none).set ik _).set ik none) = σ.set ik none
      rw [List.set_set, List.set_set]
    · refine ⟨_, w1 _, _, w0 _, p, 26, c + i, o', rfl, e4, e5, by decide, by decide, by omega, fun r o2 r0 r1 h2 => ?_⟩
      refine ⟨alpha, r, _, rfl, rfl, alpha_len, alpha_at r0 r1, (cs.map chr1).map V.str, upd_oth (Ne.symm npD) e6, ?_, ?_⟩
      · rw [List.length_map, List.length_map, e1, sizeLine_eq]; omega
      · refine ⟨cs ++ [97 + r.toNat], o2, ?_, ?_, ?_, ?_, h2, ?_⟩
        · rw [List.length_append, e1]; rfl
        · intro x hx
          rcases List.mem_append.mp hx with h | h
          · exact e2 x h
          · rw [List.mem_singleton] at h
            subst h
            omega
        · exact (e3.set rfl).fresh hD
        · exact upd_oth npD upd_same
        · rw [upd_same, List.map_append, List.map_append]; rfl
  · rintro H ⟨cs, o', e1, e2, e3, e4, e5, e6⟩
    exact q H cs o' e1 e2 e3 e4 e5 e6
def spWord : Sp := fun vs H Q _ => ∃ (p : Addr) (c : Nat) (o : HO), vs = [.ref p] ∧ H p = some o ∧ PoolO o c ∧ c < 2 ^ 39 ∧
  ∀ w o' H', IsWord w → PoolO o' (c + 9) → H' p = some o' → Kp (fun b => b = p) H H' → Q (.str w) H'
/-! ### words -/
def okC (c : Nat) : Bool := decide (97 ≤ c) && decide (c ≤ 122)
def wordS (z : Str) : Bool := decide (1 ≤ z.length) && decide (z.length ≤ 8) && z.cps.toList.all okC
def wordB : V → Bool
  | .str z => wordS z
  | _ => false
inductive Thing (H : Hp) : V → Prop
  | str (z : Str) (h : z.length ≤ 1000) (ha : asc z) : Thing H (.str z)
  | int (i : Int) : Thing H (.int i)
  | bl (b : Bool) : Thing H (.bl b)
  | non : Thing H .non
  | lst {p : Addr} {xs : List V} (h : H p = some (.lst xs)) : Thing H (.ref p)
  | tup {p : Addr} {xs : List V} (h : H p = some (.tup xs)) : Thing H (.ref p)
theorem Thing.same {H H' : Hp} {v : V} (s : Same H H') (t : Thing H v) : Thing H' v := by
  cases t with
  | str z h ha => exact .str z h ha
  | int i => exact .int i
  | bl b => exact .bl b
  | non => exact .non
  | lst h => exact .lst (s _ _ h)
  | tup h => exact .tup (s _ _ h)
def strB : V → Bool
  | .str _ => true
  | _ => false
theorem Thing.isi {K : PySem.W.Frag} {H : Hp} {v : V} (t : Thing H v) : ∃ ty, TyX K H v ty ∧ PySem.W.kitOne K ty (.type "str") = some (strB v) := by
  cases t with
  | str z h ha => exact ⟨_, .base (.str z), kit_ty (show kitB "str" "str" = some true by decide +kernel)⟩
  | int i => exact ⟨_, .base (.int i), kit_ty (show kitB "int" "str" = some false by decide +kernel)⟩
  | bl b => exact ⟨_, .base (.bl b), kit_ty (show kitB "bool" "str" = some false by decide +kernel)⟩
  | non => exact ⟨_, .base .non, kit_ty (by decide +kernel)⟩
  | lst h => exact ⟨_, .base (.lst h), kit_ty (show kitB "list" "str" = some false by decide +kernel)⟩
  | tup h => exact ⟨_, .base (.tup h), kit_ty (show kitB "tuple" "str" = some false by decide +kernel)⟩
theorem list1_lt (a b : Nat) : ([a] : List Nat) < [b] ↔ a < b := by
  constructor
  · intro h
    cases h with
    | rel h => exact h
    | cons h => cases h
  · intro h
    exact .rel h
theorem le_a (c : Nat) : (!decide ((⟨#[c]⟩ : Str).cps.toList < (Str.ofString "a").cps.toList)) = decide (97 ≤ c) := by
  have e : (Str.ofString "a").cps.toList = [97] := by decide +kernel
  rw [e, ← decide_not]
  apply decide_eq_decide.mpr
  show ¬ ([c] < [97]) ↔ _
  rw [list1_lt]; omega
theorem le_z (c : Nat) : (!decide ((Str.ofString "z").cps.toList < (⟨#[c]⟩ : Str).cps.toList)) = decide (c ≤ 122) := by
  have e : (Str.ofString "z").cps.toList = [122] := by decide +kernel
  rw [e, ← decide_not]
  apply decide_eq_decide.mpr
  show ¬ ([122] < [c]) ↔ _
  rw [list1_lt]; omega
theorem all_take {α : Type} {p : α → Bool} {l : List α} {i : Nat} {x : α} (h : l[i]? = some x) (a : (l.take i).all p = true) (b : p x = true) : (l.take (i + 1)).all p = true := by
  rw [List.take_add_one, h, List.all_append, a, Bool.true_and]
  show ([x] : List α).all p = true
  rw [List.all_cons, b]; rfl
theorem all_no {α : Type} {p : α → Bool} {l : List α} {i : Nat} {x : α} (h : l[i]? = some x) (b : p x = false) : l.all p = false := by
  cases e : l.all p with
  | false => rfl
  | true =>
    rw [List.all_eq_true.mp e x (List.mem_of_getElem? h)] at b
    cases b
theorem len_toList (z : Str) : z.cps.toList.length = z.length := by simp [Str.length]
theorem IsWord.ok {w : Str} (h : IsWord w) : wordS w = true := by
  unfold wordS
  rw [← len_toList, decide_eq_true h.lo, decide_eq_true h.hi, Bool.true_and, Bool.true_and, List.all_eq_true]
  intro c hc
  have := h.al c hc
  unfold okC
  rw [decide_eq_true this.1, decide_eq_true this.2]; rfl
theorem wordS_of {z : Str} (h : wordS z = true) : IsWord z := by
  unfold wordS at h
  rw [Bool.and_eq_true, Bool.and_eq_true, decide_eq_true_eq, decide_eq_true_eq, List.all_eq_true] at h
  refine ⟨by rw [len_toList]; exact h.1.1, by rw [len_toList]; exact h.1.2, fun c hc => ?_⟩
  have := h.2 c hc
  unfold okC at this
  rw [Bool.and_eq_true, decide_eq_true_eq, decide_eq_true_eq] at this
  exact this
def spIsWord : Sp := fun vs H Q _ => ∃ v, vs = [v] ∧ Thing H v ∧ Q (.bl (wordB v)) H
/-! ### own errors: an __init__ that says super().__init__(text) and stores fields -/
/-- the stores of an __init__: self.F = a parameter | a text -/
inductive Sts (ps : List Str) : List Stmt → List (Str × Sum Nat Str) → Prop
  | nil : Sts ps [] []
  | par {F p : Str} {i : Nat} {q1 q2 q3 q4 : Pos} {r : List Stmt} {fs : List (Str × Sum Nat Str)} (h : ps[i]? = some p) (t : Sts ps r fs) : Sts ps (.Assign [.Attribute (.Name "self" q1) F q2] (.Name p q3) q4 :: r) ((F, .inl i) :: fs)
  | con {F c : Str} {j : Nat} {q1 q2 q3 q4 : Pos} {r : List Stmt} {fs : List (Str × Sum Nat Str)} (t : Sts ps r fs) : Sts ps (.Assign [.Attribute (.Name "self" q1) F q2] (.Constant (.str c) j q3) q4 :: r) ((F, .inr c) :: fs)
def fldV (vs : List V) : Sum Nat Str → V
  | .inl i => vs.getD i .non
  | .inr c => .str c
def errF (vs : List V) : List (Str × Sum Nat Str) → List (Str × V) → List (Str × V)
  | [], acc => acc
  | p :: r, acc => errF vs r ((p.1, fldV vs p.2) :: acc)
/-- an exception while its __init__ runs -/
structure ErrAt (h0 h : Heap) (x C L : Addr) (m : Str → Option Value) (acc : List (Str × V)) (dd : Option Addr) : Prop where
  keep : ∀ b o, b ≠ x → h0.get? b = some o → h.get? b = some o
  sz : h0.objs.size ≤ h.objs.size
  ns : h.Ns L m
  obj : ∃ t1 : Addr, h.get? x = some ({ cls := .ref C, dict := dd, data := .fields #[.ref t1, .none, .none, .none, .bool false, .none] } : Obj)
  dct : match dd with | none => acc = [] | some dx => acc ≠ [] ∧ h0.objs.size ≤ dx ∧ dx ≠ x ∧ dx ≠ L ∧ ∃ mA, h.Ns1 dx mA ∧ ∀ f, RelO (acc.lookup f) (mA f)
theorem kept_but {K : PySem.W.Frag} {h h' : Heap} {x : Addr} (X : K.In h) (hx : K.lookup x = none) (k : ∀ b o, b ≠ x → h.get? b = some o → h'.get? b = some o) : K.In h' := fun a o e =>
  k a o (fun z => by rw [z, hx] at e; cases e) (X a o e)
/-- what the written part says of an error's class, at C; its __init__ at fI -/
structure ErrC (P : Program) (K : PySem.W.Frag) (C fI : Addr) (st : Stmt) (q : Str) (ps : List Str) (fs : List (Str × Sum Nat Str)) : Prop where
  cls : ∃ nm qn N bs bm sn sub ab col dd k0 k1 k2 k3 k5, K.lookup C = some (excClassObj nm qn C N bs bm true sn sub ab col dd k0 k1 k2 k3 k5 "ValueError.__new__") ∧ PySem.HandSPX.refsVE bm = true
  sa : PySem.W.findIn K (.ref C) "__setattr__" = some (some (.builtin "object.__setattr__"))
  ga : PySem.W.findIn K (.ref C) "__getattribute__" = some (some (.builtin "BaseException.__getattribute__"))
  gg : PySem.W.findIn K (.ref C) "__getattr__" = some none
  noF : ∀ p ∈ fs, PySem.W.findIn K (.ref C) p.1 = some none
  iC : PySem.W.findIn K (.ref C) "__init__" = some (some (.ref fI))
  tC : PySem.W.typeIn K (.ref fI) = some (.type "function")
  kC : PySem.W.keepIn K (.ref C) = true
  exC : PySem.W.subIn K (.ref C) (.type "BaseException") = some true
  veC : PySem.W.subIn K (.ref C) (.type "ValueError") = some true
  tyC : PySem.W.typeIn K (.ref C) = some (.type "type")
  hdC : PySem.W.hasDictIn K C = true
  su : PySem.W.ks_superIn K C C "__init__" = some (some (.builtin "ValueError.__init__"))
  mro : PySem.W.mroIn K C (.ref C) = some true
  te : PySem.W.exmOne K (.ref C) (.ref C) = some true
  op : PySem.W.nsIn K cStatics "thirdparty.any" = some none
  fn : ∃ (oc : Value) (od : Option Addr) (doc pm : Value) (an : Option Addr) (cda cc : Addr) (ct : Value) (osl : Array (Option Value)) (ccl : Value) (cdd : Option Addr) (vs : Array Value) (ccs : Array (Option Value)) (tf : Tok) (cl : Value) (cld : Option Addr) (csl : Array (Option Value)),
    K.lookup fI = some ⟨oc, od, .func (PySem.W.ksFn "__init__" q (defArgs st) (defBody st) (defScope st) .none .none doc pm an (.ref cda) ct cc), osl⟩ ∧ PySem.W.codeIn K (.ref cda) q = true ∧
    K.lookup cda = some ⟨ccl, cdd, .fields vs, ccs⟩ ∧ vs[2]? = some (.str P.main.file tf) ∧ K.lookup cc = some ⟨cl, cld, .cell (some (.ref C)), csl⟩
  hd : ∃ ar : Arg, ((defArgs st).posonlyargs ++ (defArgs st).args).head? = some ar ∧ ar.arg = "self"
  bd : ∀ (doc pm : Value) (an : Option Addr) (cda cc : Addr) (ct : Value) (us : List Value), us.length = ps.length + 1 → bindArgs (PySem.W.ksFn "__init__" q (defArgs st) (defBody st) (defScope st) .none .none doc pm an (.ref cda) ct cc) ⟨us, []⟩ = pure ((("self" : Str) :: ps).zip us)
  bo : ∃ (p0 p1 p2 p3 p4 p5 : Pos) (j : Nat) (msg : Str) (sts : List Stmt), defBody st = .Expr (.Call (.Attribute (.Call (.Name "super" p0) [] [] p1) "__init__" p2) [.Constant (.str msg) j p3] [] p4) p5 :: sts ∧ Sts ps sts fs ∧
    ∀ (L cda cc : Addr), ∃ pl : Sem Bool, eval (.Call (.Attribute (.Call (.Name "super" p0) [] [] p1) "__init__" p2) [.Constant (.str msg) j p3] [] p4) (PySem.W.ksEnv q (defScope st) L fI (.ref cda) cc) = (do
      let ov ← attributeBase (.Call (.Name "super" p0) [] [] p1) "__init__" (PySem.W.ksEnv q (defScope st) L fI (.ref cda) cc) (eval (.Call (.Name "super" p0) [] [] p1) (PySem.W.ksEnv q (defScope st) L fI (.ref cda) cc))
      standAt p2.atName
      let (f, first) ← holding [ov] (getMethod ov "__init__" pl)
      callWith p4 f first (backTo p4 (starEach [.Constant (.str msg) j p3] (PySem.W.ksEnv q (defScope st) L fI (.ref cda) cc))) [])
  sck : (defScope st).kind = .function
  scc : (defScope st).isCoroutine = false
  scg : (defScope st).isGenerator = false
  scn : ∀ x ∈ (defScope st).names, x.2 ≠ .cell
  scl : ∀ x ∈ (("self" : Str) :: ps), (defScope st).names.lookup x = some .local
  scs : (defScope st).names.lookup ("super" : Str) = some .globalImplicit
  scf : (defScope st).names.lookup ("__class__" : Str) = some .free
  nd : (("self" : Str) :: ps).Nodup
  top : (P.main.scope.names.lookup ("super" : Str)).isSome = false
section
open PySem PySem.W PySem.Calls PyProof.Rows PySem.HandSPX
variable {prog : Program} {w : World} {A : Around} {K : PySem.W.Frag} {C fI : Addr} {st : Stmt} {q : Str} {ps : List Str} {fs : List (Str × Sum Nat Str)}
theorem err_stores (T : ErrC prog K C fI st q ps fs) {h0 : Heap} {x L : Addr} {m : Str → Option Value} {vs : List V} {env : Env} {E : Value → Shared → Prop} (X0 : K.In h0) (hnx : K.lookup x = none) (hLx : L ≠ x)
    (hself : m "self" = some (.ref x)) (hpar : ∀ (i : Nat) p, ps[i]? = some p → ∃ v u, vs[i]? = some v ∧ RelV v u ∧ m p = some u)
    (hk : env.scope.kind = .function) (hlo : env.locals = L) (hkl : ∀ y ∈ (("self" : Str) :: ps), env.kindOf y = some .local) (hdb : ∀ y ∈ (("self" : Str) :: ps), (y == ("__debug__" : Str)) = false) :
    ∀ {sts : List Stmt} {fs' : List (Str × Sum Nat Str)}, Sts ps sts fs' → (∀ p ∈ fs', p ∈ fs) → ∀ {acc : List (Str × V)} {dd : Option Addr} {s : Shared} {Q : Flow → Shared → Prop}, ErrAt h0 s.heap x C L m acc dd → acc.length + fs'.length ≤ 100 →
      (∀ h' tk dd', ErrAt h0 h' x C L m (errF vs fs' acc) dd' → Q .next { s with heap := h', toks := tk }) → wpAny (model prog w) A (execs sts env) Q E s := by
  obtain ⟨nm, qn, N, bs, bm, sn, sub, ab, col, dd0, k0, k1, k2, k3, k5, hC, hbm⟩ := T.cls
  have hcl : clsIn K C = some { name := nm, bases := bs, mro := .ref C :: bm, ns := N, qualname := qn, hasDict := true, slotNames := sn, subclasses := sub, abstract := ab, collection := col, hasDel := false } := by unfold clsIn; rw [hC] <;> rfl
  have ldl : ∀ {y : Str} {u : Value} {pos : Pos} {s : Shared} {Q : Value → Shared → Prop}, y ∈ (("self" : Str) :: ps) → s.heap.Ns L m → m y = some u → Q u s → wpAny (model prog w) A (eval (.Name y pos) env) Q E s :=
    fun {y u pos s Q} hy hn hv h => wpAny_Name (wpAny_loadName_local hk (hkl y hy) (by rw [hlo]; exact hn) hv h) (hdb y hy)
  have hsf : ("self" : Str) ∈ (("self" : Str) :: ps) := List.mem_cons_self
  -- one store
  have one : ∀ {F : Str} {y : V} {u : Value} {acc : List (Str × V)} {dd : Option Addr} {s : Shared} {Q : Unit → Shared → Prop}, findIn K (.ref C) F = some none → RelV y u → ErrAt h0 s.heap x C L m acc dd → acc.length ≤ 99 →
      (∀ h' tk dd', ErrAt h0 h' x C L m ((F, y) :: acc) dd' → Q () { s with heap := h', toks := tk }) → wpAny (model prog w) A (setAttr (.ref x) F u) Q E s := by
    intro F y u acc dd s Q hF ry S hl hq
    obtain ⟨kp, sz, hn, ⟨t1, hx⟩, hd⟩ := S
    have X : K.In s.heap := kept_but X0 hnx kp
    obtain ⟨hp, g, d, tk, os⟩ := s
    obtain ⟨oL, esL, epL, hoL, hrL⟩ := id hn
    cases dd with
    | none =>
      have hd : acc = [] := hd
      subst hd
      refine set_plain X (ox := excO C t1) (od := none) ⟨hx, rfl, rfl, trivial⟩ T.sa ?_
      refine exc_osa X hx hcl (show refsVE (.ref C :: bm) = true from hbm) rfl hF (fun h₃ tk₃ dx k₃ dn dne hx₃ hn₃ => ?_)
      have dL : dx ≠ L := fun z => by
        have := Heap.lt_size hoL
        rw [← z] at this
        exact absurd (Nat.lt_of_lt_of_le this dn) (Nat.lt_irrefl _)
      have z3 : dx < h₃.objs.size := by
        obtain ⟨o, _, _, e, _⟩ := hn₃
        exact Heap.lt_size e
      refine hq h₃ tk₃ (some dx) ⟨fun b o hb e => k₃ b o hb (kp b o hb e), Nat.le_of_lt (Nat.lt_of_le_of_lt (Nat.le_trans sz dn) z3), ⟨oL, esL, epL, k₃ _ _ hLx hoL, hrL⟩, ⟨t1, hx₃⟩, ?_⟩
      exact ⟨List.cons_ne_nil _ _, Nat.le_trans sz dn, dne, dL, _, hn₃, relO_put (fs := []) ry fun g => True.intro⟩
    | some dx =>
      obtain ⟨_, d1, d2, d3, mA, hns, rel⟩ := hd
      have hw := within_of rel
      obtain ⟨oD, _, _, hoD, _, _⟩ := hns.count hw
      refine set_plain X (ox := { cls := .ref C, dict := some dx, data := .fields #[.ref t1, .none, .none, .none, .bool false, .none] }) (od := some oD) ⟨hx, rfl, rfl, hoD⟩ T.sa ?_
      refine PySem.OEX.osa_old X hx hns hw (by rw [List.length_map]; omega) hcl (show refsVE (.ref C :: bm) = true from hbm) rfl hF (fun h' tk' k hn' => ?_)
      have z3 : dx < h'.objs.size := by
        obtain ⟨o, _, _, e, _⟩ := hn'
        exact Heap.lt_size e
      refine hq h' tk' (some dx) ⟨fun b o hb e => k b o (fun z => ?_) (kp b o hb e), Nat.le_of_lt (Nat.lt_of_le_of_lt d1 z3), ⟨oL, esL, epL, k _ _ (Ne.symm d3) hoL, hrL⟩, ⟨t1, k _ _ (Ne.symm d2) hx⟩, ⟨List.cons_ne_nil _ _, d1, d2, d3, _, hn', relO_put ry rel⟩⟩
      have := Heap.lt_size e
      rw [z] at this
      exact absurd (Nat.lt_of_lt_of_le this d1) (Nat.lt_irrefl _)
  intro sts fs' S
  induction S with
  | nil =>
    intro hfs acc dd s Q S hl hq
    exact wpAny_execs_nil (by have := hq s.heap s.toks dd S; exact this)
  | @par F p i q1 q2 q3 q4 r fs1 h t ih =>
    intro hfs acc dd s Q S hl hq
    obtain ⟨v, u, hv, ru, hm⟩ := hpar i p h
    have hp : p ∈ (("self" : Str) :: ps) := List.mem_cons_of_mem _ (List.mem_of_getElem? h)
    refine wpAny_execs_cons (plainObj_wpAny_Assign_Attribute ?_)
    refine ldl hp S.ns hm (ldl hsf S.ns hself ?_)
    have hl2 : acc.length + (fs1.length + 1) ≤ 100 := hl
    refine one (hfs _ List.mem_cons_self |> T.noF _) ru S (by omega) fun h' tk dd' S' => ?_
    refine ih (fun z hz => hfs z (List.mem_cons_of_mem _ hz)) (s := { s with heap := h', toks := tk }) S' (by rw [List.length_cons]; omega) fun h'' tk' dd'' S'' => ?_
    have e : errF vs ((F, Sum.inl i) :: fs1) acc = errF vs fs1 ((F, v) :: acc) := by
      show errF vs fs1 ((F, vs.getD i .non) :: acc) = _
      rw [List.getD_eq_getElem?_getD, hv]; rfl
    rw [e] at hq
    exact hq h'' tk' dd'' S''
  | @con F c j q1 q2 q3 q4 r fs1 t ih =>
    intro hfs acc dd s Q S hl hq
    refine wpAny_execs_cons (plainObj_wpAny_Assign_Attribute ?_)
    refine Calls.Constant_str (ldl (s := { s with toks := s.toks + 1 }) hsf S.ns hself ?_)
    have hl2 : acc.length + (fs1.length + 1) ≤ 100 := hl
    refine one (y := .str c) (s := { s with toks := s.toks + 1 }) (hfs _ List.mem_cons_self |> T.noF _) ⟨_, rfl⟩ S (by omega) fun h' tk dd' S' => ?_
    refine ih (fun z hz => hfs z (List.mem_cons_of_mem _ hz)) (s := { s with heap := h', toks := tk }) S' (by rw [List.length_cons]; omega) fun h'' tk' dd'' S'' => ?_
    exact hq h'' tk' dd'' S''
end
section
open PySem PySem.W PySem.Calls PyProof.Rows PySem.HandSPX
variable {prog : Program} {w : World} {A : Around} {K : PySem.W.Frag} {C fI : Addr} {st : Stmt} {q : Str} {ps : List Str} {fs : List (Str × Sum Nat Str)}
theorem call_mw (T : ErrC prog K C fI st q ps fs) {E : Value → Shared → Prop} {h : Heap} {g : Array GenState} {d : Drawn} {t : Nat} {os : OsState} {u e t0 : Addr} {rest : List Value} {Q : Value → Shared → Prop} (X : K.In h)
    (he : h.get? e = some (excO C t0)) (hu : h.get? u = some (kxs_mw "ValueError.__init__" e)) (hrest : rest.length ≤ sizeLine)
    (hq : ∀ h' t1, (∀ b o, b ≠ e → h.get? b = some o → h'.get? b = some o) → h'.get? e = some (excO C t1) → Q .none ⟨h', g, d, t, os⟩) :
    wpAny (model prog w) A (call (.ref u) rest) Q E ⟨h, g, d, t, os⟩ := by
  obtain ⟨nm, qn, N, bs, bm, sn, sub, ab, col, dd0, k0, k1, k2, k3, k5, hC, hbm⟩ := T.cls
  refine wpAny_call (codeAny_of_tree ?_)
  show wpAny _ A.in1 (callAny (.ref u) ⟨rest, []⟩) _ _ _
  simp only [callAny]
  refine wpAny_bind (wpAny_load hu ?_)
  simp only [kxs_mw, show (Value.type "method-wrapper" == Value.type "method" || Value.type "method-wrapper" == Value.type "builtin_function_or_method" || Value.type "method-wrapper" == Value.type "method-wrapper") = true by decide, if_true]
  refine KFB.if_so (by decide) ?_
  refine wpAny_bind (check_bound_init F.excBase_ValueError.toExcCallFacts (X _ _ hC) he rfl ?_)
  refine wpAny_bind (wpAny_pure (wpAny_pure ?_))
  refine ⟨plainId_quiet F.excBase_ValueError.init.plain _, codeAny_builtin F.excBase_ValueError.initEntry ?_⟩
  exact exc_init_tree (cls := .ref C) (t0 := t0) (dv := none) (c2 := .none) (c3 := .none) (b4 := .bool false) he hrest fun h' k e1 _ => hq h' _ k e1
theorem err_init (T : ErrC prog K C fI st q ps fs) {R : Result → Shared → Prop} {s : Shared} {x t0 : Addr} {vs : List V} {us : List Value} {mg : Str → Option Value} (X : K.In s.heap) (hlim : s.heap.NoLimit)
    (G : s.heap.Ns mainGlobals mg) (hsup : mg "super" = none) (B : ∃ mb, s.heap.Ns builtinsNs mb ∧ ∀ y : Str, y ≠ "__name__" → mb y = bootBuiltins y)
    (hx : s.heap.get? x = some (excO C t0)) (hnx : K.lookup x = none) (hroom : A.depth < recursionLimit) (hv : Vals vs us) (hlen : vs.length = ps.length) (hfs : fs.length ≤ 90) (hdb : ∀ y ∈ (("self" : Str) :: ps), (y == ("__debug__" : Str)) = false)
    (hq : ∀ h' tk dd L m, L ≠ x → s.heap.objs.size ≤ L → ErrAt s.heap h' x C L m (errF vs fs []) dd → R (.ok (.ret .none)) { s with heap := h', toks := tk }) :
    codeAny (model prog w) A (.call (.ref fI) ⟨.ref x :: us, []⟩) R s := by
  obtain ⟨oc, od, doc, pm, an, cda, cc, ct, osl, ccl, cdd, cvs, ccs, tf, cl, cld, csl, ho, hcd, hcode, hcv, hcell⟩ := T.fn
  obtain ⟨nm, qn, N, bs, bm, sn, sub, ab, col, dd0, k0, k1, k2, k3, k5, hC, hbm⟩ := T.cls
  obtain ⟨p0, p1, p2, p3, p4, p5, j, msg, sts, hbody, hsts, hev⟩ := T.bo
  obtain ⟨ar, har, hself⟩ := T.hd
  have hcl : clsIn K C = some { name := nm, bases := bs, mro := .ref C :: bm, ns := N, qualname := qn, hasDict := true, slotNames := sn, subclasses := sub, abstract := ab, collection := col, hasDel := false } := by unfold clsIn; rw [hC] <;> rfl
  have hul : us.length = ps.length := by rw [← hlen]; exact hv.length.symm
  have hbind := BindsTo.of_eq (s := s) (T.bd doc pm an cda cc ct (.ref x :: us) (by rw [List.length_cons, hul]))
  have binK : ∀ y ∈ ((("self" : Str) :: ps).zip (Value.ref x :: us)), (defScope st).names.lookup y.1 = some .local := fun ⟨n, u⟩ hy => T.scl n (List.of_mem_zip hy).1
  refine ks_codeAny_call_defAt (fd := ksFn "__init__" q (defArgs st) (defBody st) (defScope st) .none .none doc pm an (.ref cda) ct cc) (body := defBody st) (binds := (("self" : Str) :: ps).zip (Value.ref x :: us)) hroom (X _ _ ho) rfl hlim (codeRec_of X hcd) rfl hbind T.scn binK (fun h₁ hns hk₁ => ?_) T.scc T.scg T.sck
  have X₁ : K.In h₁ := X.keeps hk₁
  have hx₁ := hk₁ _ _ hx
  have hLx : s.heap.objs.size ≠ x := Nat.ne_of_gt (Heap.lt_size hx)
  have sz1 : s.heap.objs.size < h₁.objs.size := hns.lt
  generalize hm : (fun y => (List.reverse ((("self" : Str) :: ps).zip (Value.ref x :: us))).lookup y) = m at hns
  have key : ∀ (l1 : List Str) (l2 : List Value) (i : Nat) (y : Str) (u : Value), l1.Nodup → l1[i]? = some y → l2[i]? = some u → (List.reverse (l1.zip l2)).lookup y = some u := by
    intro l1
    induction l1 with
    | nil => intro l2 i y u _ h _; simp at h
    | cons a r ih =>
      intro l2 i y u nd h1 h2
      cases l2 with
      | nil => simp at h2
      | cons b l2 =>
        rw [List.zip_cons_cons, List.reverse_cons, List.lookup_append]
        cases i with
        | zero =>
          simp only [List.getElem?_cons_zero, Option.some.injEq] at h1 h2
          subst h1 h2
          have : (List.reverse (r.zip l2)).lookup a = none := by
            rw [List.lookup_eq_none_iff]
            intro p hp
            have hp' := List.mem_reverse.mp hp
            have := (List.of_mem_zip (show (p.1, p.2) ∈ r.zip l2 from hp')).1
            simp only [beq_eq_false_iff_ne, ne_eq, bne_iff_ne]
            intro e
            rw [e] at nd
            exact (List.nodup_cons.mp nd).1 this
          rw [this]
          simp [List.lookup]
        | succ i =>
          rw [ih l2 i y u (List.nodup_cons.mp nd).2 h1 h2]; rfl
  have mself : m "self" = some (.ref x) := by rw [← hm]; exact key _ _ 0 _ _ T.nd rfl rfl
  have mpar : ∀ (i : Nat) p, ps[i]? = some p → ∃ v u, vs[i]? = some v ∧ RelV v u ∧ m p = some u := fun i p hp => by
    have hi : i < vs.length := by rw [hlen]; exact (List.getElem?_eq_some_iff.mp hp).1
    obtain ⟨u, hu, ru⟩ := hv.get (List.getElem?_eq_getElem hi)
    refine ⟨_, u, List.getElem?_eq_getElem hi, ru, ?_⟩
    rw [← hm]
    exact key _ _ (i + 1) _ _ T.nd hp hu
  have hDget : h₁.get? C = some (excClassObj nm qn C N bs bm true sn sub ab col dd0 k0 k1 k2 k3 k5 "ValueError.__new__") := X₁ _ _ hC
  obtain ⟨pl, hev⟩ := hev s.heap.objs.size cda cc
  show _root_.PySem.wpAt _ (A.deeper (ksEnv q (defScope st) s.heap.objs.size fI (.ref cda) cc)) (.func (defBody st) (ksEnv q (defScope st) s.heap.objs.size fI (.ref cda) cc)) (execs (defBody st) (ksEnv q (defScope st) s.heap.objs.size fI (.ref cda) cc)) _ _ _
  generalize henv : ksEnv q (defScope st) s.heap.objs.size fI (.ref cda) cc = env at hev ⊢
  have e1 : env.scope = defScope st := by rw [← henv]
  have e2 : env.locals = s.heap.objs.size := by rw [← henv]
  have e3 : env.func = some fI := by rw [← henv]
  have e4 : env.code = .ref cda := by rw [← henv]
  have e5 : env.globals = mainGlobals := by rw [← henv]
  have e6 : env.builtins = builtinsNs := by rw [← henv]
  have e7 : env.cells.lookup ("__class__" : Str) = some cc := by rw [← henv]; rfl
  have kd : ∀ y, env.kindOf y = (defScope st).names.lookup y := fun y => by rw [← henv]; rfl
  have hkf : env.scope.kind = .function := by rw [e1]; exact T.sck
  generalize hbb : defBody st = body
  rw [hbb] at hbody
  have hbody2 : execs body env = execs (.Expr (.Call (.Attribute (.Call (.Name "super" p0) [] [] p1) "__init__" p2) [.Constant (.str msg) j p3] [] p4) p5 :: sts) env := by rw [hbody]
  rw [hbody2]
  refine ks_wpAt_execs_cons (ks_wpAt_Expr_any ?_ (by simp [interactive, hkf]) rfl)
  refine ks_wpAt_MethodCall (pl := pl) ?_ hev
  refine ks_wpAt_super_base ((kd _).trans T.scs) ((kd _).trans T.scf) (by decide) e3 (hk₁ _ _ (X _ _ ho)) rfl har e4 (X₁ _ _ hcode) rfl hcv (by simp) T.top ?_
  obtain ⟨mb, hB1, hB2⟩ := B
  refine ks_loadName_global hkf ((kd _).trans T.scs) (loadGlobal_builtin (by rw [e5]; exact G.keeps hk₁) hsup (by rw [e6]; exact hB1.keeps hk₁) ((hB2 _ (by decide)).trans (by decide +kernel)) ⟨rfl, ?_⟩)
  refine wpAny_loadName_free hkf ((kd _).trans T.scf) e7 ⟨_, X₁ _ _ hcell, rfl⟩ ?_
  rw [hself]
  refine wpAny_loadName_local hkf ((kd _).trans (T.scl _ List.mem_cons_self)) (by rw [e2]; exact hns) mself ?_
  refine ks_wpAny_isType_cls hDget rfl ⟨rfl, ?_⟩
  obtain ⟨hp0, g, d, tk, os⟩ := s
  refine ks_wpAny_call_super (ox := excO C t0) hDget rfl hx₁ rfl (fun c e => nomatch e) (looks_mroIn X₁ T.mro) (fun h₂ e₂ k₂ => ?_)
  have X₂ : K.In h₂ := X₁.keeps k₂
  have I₂ : InstAt h₂ x (excO C t0) C none := ⟨k₂ _ _ hx₁, rfl, rfl, trivial⟩
  have hsu := T.su
  unfold ks_superIn at hsu
  rw [hcl] at hsu
  refine kxs_getMethod kxs_ValueError e₂ (looks_opaque X₂ T.op) (l₀ := .ref C :: bm) ?_ rfl X₂ hsu (I₂.type.andThen (looks_subIn X₂ T.veC)) (ks_ne X₂ I₂ hcl) (by decide) ?_
  · exact fun A Q E s k q => wpAny_bind ((looks_clsIn X₂ hcl) A _ E s k (wpAny_pure q))
  have hu : (h₂.push (kxs_mw "ValueError.__init__" x)).get? h₂.objs.size = some (kxs_mw "ValueError.__init__" x) := Heap.get?_push_at rfl rfl
  have k₃ : ∀ b o, h₂.get? b = some o → (h₂.push (kxs_mw "ValueError.__init__" x)).get? b = some o := fun b o e => Heap.get?_push_of_some _ e
  show wpAny _ _ (callWith p4 (.ref h₂.objs.size) [] (backTo p4 (starEach [.Constant (.str msg) j p3] env)) []) _ _ _
  refine kxs_callWith (i := "ValueError.__init__") (x := x) rfl (evalArgs_plain ?_)
  show wpAny _ _ (spliced [(false, eval (.Constant (.str msg) j p3) env)]) _ _ _
  refine spliced_cons (Constant_str (spliced_nil ⟨hu, ?_⟩))
  refine call_mw T (X₂.keeps k₃) (k₃ _ _ (k₂ _ _ hx₁)) hu (by show 1 ≤ sizeLine; decide) fun h₄ t1 k₄ hx₄ => ?_
  show _root_.PySem.wpAt _ _ _ (execs sts env) _ _ _
  refine wpAt_of_wpAny ?_
  have keep4 : ∀ b o, b ≠ x → hp0.get? b = some o → h₄.get? b = some o := fun b o hb e => k₄ b o hb (k₃ _ _ (k₂ _ _ (hk₁ _ _ e)))
  obtain ⟨oL, esL, epL, hoL, hrL⟩ := id hns
  have hoL4 : h₄.get? hp0.objs.size = some oL := k₄ _ _ hLx (k₃ _ _ (k₂ _ _ hoL))
  have S0 : ErrAt hp0 h₄ x C hp0.objs.size m [] none := ⟨keep4, Nat.le_of_lt (Heap.lt_size hoL4), ⟨oL, esL, epL, hoL4, hrL⟩, ⟨t1, hx₄⟩, rfl⟩
  refine err_stores T (h0 := hp0) X hnx hLx mself mpar hkf e2 (fun y hy => (kd y).trans (T.scl y hy)) hdb hsts (fun _ z => z) (acc := []) (s := ⟨h₄, g, d, _, os⟩) S0 (by rw [List.length_nil]; omega) fun h' tk' dd' S' => ?_
  exact hq h' tk' dd' hp0.objs.size m hLx (Nat.le_refl _) S'
end
section
open PySem PySem.Spec PyProof.Rows
variable {X : Cx} {C fI : Addr} {st : Stmt} {q : Str} {ps : List Str} {fs : List (Str × Sum Nat Str)}
/-- what the making of such an error leaves: its class, its own dict (new), the fields -/
def errQ (C : Addr) (fs : List (Str × Sum Nat Str)) (vs : List V) (H1 : Hp) (Q : XK) : Prop := match fs with
  | [] => Q (.ref C) none H1
  | p :: r => ∀ d, H1 d = none → Q (.ref C) (some d) (upd H1 d (.xd (errF vs (p :: r) [])))
def tErr (C : Addr) (n : Nat) (fs : List (Str × Sum Nat Str)) (ta : TA) : L2.St → Hp → XK → Prop := fun σ H Q => ta σ H fun vs H1 => vs.length = n ∧ errQ C fs vs H1 Q
theorem errF_nil {vs : List V} : ∀ {fs : List (Str × Sum Nat Str)} {acc : List (Str × V)}, errF vs fs acc = [] → fs = [] ∧ acc = []
  | [], acc, e => ⟨rfl, e⟩
  | p :: r, acc, e => by
    obtain ⟨_, h⟩ := errF_nil (fs := r) (acc := (p.1, fldV vs p.2) :: acc) e
    cases h
theorem err_made (T : ErrC X.prog X.K C fI st q ps fs) {pins : List (Addr × Obj)} {σ : L2.St} {H1 : Hp} {s1 : Shared} {Q : XK} {vs : List V} {us : List Value} {k : Nat} (hsup : X.mg "super" = none) (hr : Room k X.A) (hfs : fs.length ≤ 90)
    (hdb : ∀ y ∈ (("self" : Str) :: ps), (y == ("__debug__" : Str)) = false) (I1 : Inv X pins σ H1 s1) (r : Vals vs us) (hl : vs.length = ps.length) (hz : us.length ≤ sizeLine)
    (q1 : errQ C fs vs H1 Q) :
    wpAny (model X.prog X.w) X.A (call (.ref C) us) (MkP X pins σ Q) X.xe s1 := by
  obtain ⟨nm, qn, N, bs, bm, sn, sub, ab, col, dd0, k0, k1, k2, k3, k5, hC, hbm⟩ := T.cls
  have hlim := I1.nolimit
  have KX := I1.kIn
  have G := I1.mod.glob.keeps I1.bk
  have B : ∃ mb, s1.heap.Ns builtinsNs mb ∧ ∀ y : Str, y ≠ "__name__" → mb y = bootBuiltins y := by
    obtain ⟨mb, b1, b2⟩ := I1.mod.blt
    exact ⟨mb, b1.keeps I1.bk, b2⟩
  obtain ⟨hp, g, dr, tk, os⟩ := s1
  have kk : ∀ b o, hp.get? b = some o → ((hp.push (PySem.W.kdv_tup us)).push (PySem.HandSPX.excO C hp.objs.size)).get? b = some o := fun b o e => Heap.get?_push_of_some _ (Heap.get?_push_of_some _ e)
  have hget : ((hp.push (PySem.W.kdv_tup us)).push (PySem.HandSPX.excO C hp.objs.size)).get? (hp.objs.size + 1) = some (PySem.HandSPX.excO C hp.objs.size) := by heap_get
  have hnx : X.K.lookup (hp.objs.size + 1) = none := by
    cases e : X.K.lookup (hp.objs.size + 1) with
    | none => rfl
    | some o =>
      have z : hp.get? (hp.objs.size + 1) = some o := KX _ _ e
      exact absurd (Nat.lt_of_succ_lt (Heap.lt_size z)) (Nat.lt_irrefl _)
  refine wpAny_call (PySem.HandSPX.call_own F.excBase_ValueError (fun Y => PySem.HandSPX.refsVE_contains Y bm hbm) (KX _ _ hC) (PySem.W.looks_findIn KX T.iC) (fun self => PySem.W.bind_fn KX self T.tC) hz ?_)
  have hdp := hr.dp
  refine err_init T (vs := vs) (mg := X.mg) (s := ⟨(hp.push (PySem.W.kdv_tup us)).push (PySem.HandSPX.excO C hp.objs.size), g, dr, tk, os⟩) (KX.keeps kk) (hlim.keeps kk) (G.keeps kk) hsup (let ⟨mb, b1, b2⟩ := B; ⟨mb, b1.keeps kk, b2⟩) hget hnx ?_ r hl hfs hdb fun h' tk' dd L m hLx hLz S => ?_
  · show X.A.depth + 1 < recursionLimit
    omega
  obtain ⟨kp, sz, hn, ⟨t1, hx⟩, hd⟩ := S
  have e2 : ((hp.push (PySem.W.kdv_tup us)).push (PySem.HandSPX.excO C hp.objs.size)).objs.size = hp.objs.size + 2 := by simp [Heap.size_push]
  have old0 : ∀ b o, hp.get? b = some o → h'.get? b = some o := fun b o e => kp b o (Nat.ne_of_lt (Nat.lt_succ_of_lt (Heap.lt_size e))) (kk b o e)
  obtain ⟨G', g1, g2⟩ := restrict h' fun b => decide (b ≠ hp.objs.size + 1)
  have gk : ∀ b, b ≠ hp.objs.size + 1 → G'.get? b = h'.get? b := fun b hb => g1 b (decide_eq_true hb)
  have ge : G'.get? (hp.objs.size + 1) = none := g2 _ (by simp)
  have old : ∀ b o, hp.get? b = some o → G'.get? b = some o := fun b o e => (gk b (Nat.ne_of_lt (Nat.lt_succ_of_lt (Heap.lt_size e)))).trans (old0 b o e)
  have sub2 : ∀ b o, G'.get? b = some o → h'.get? b = some o := fun b o e => by
    by_cases hb : b = hp.objs.size + 1
    · rw [hb, ge] at e; cases e
    · rw [← gk b hb]; exact e
  refine ⟨rfl, ?_⟩
  show MkP X pins σ Q (.ref (hp.objs.size + 1)) ⟨h', g, dr, tk', os⟩
  cases dd with
  | none =>
    have hd : errF vs fs [] = [] := hd
    obtain ⟨rfl, _⟩ := errF_nil hd
    have J : Inv X pins σ H1 ⟨G', g, dr, tk', os⟩ := I1.kept (t' := tk') old
    exact ⟨hp.objs.size + 1, _, _, ⟨G', g, dr, tk', os⟩, H1, .ref C, none, rfl, J, sub2, ge, hx, ⟨rfl, rfl⟩, rfl, rfl, I1.hok.fresh (Nat.le_succ _), rfl, I1.bare, raises_own T.exC T.tyC, q1⟩
  | some dx =>
    obtain ⟨d0, d1, d2, d3, mA, hns, rel⟩ := hd
    rw [e2] at d1
    have hdx : hp.objs.size ≤ dx := Nat.le_trans (Nat.le_add_right _ 2) d1
    have nd : H1 dx = none := I1.hok.fresh hdx
    have ob : ObjOk X.prog X.w (upd H1 dx (.xd (errF vs fs []))) G' dx (.xd (errF vs fs [])) := ⟨mA, hns.at (fun o q => (gk dx d2).trans q), rel⟩
    have J : Inv X pins σ (upd H1 dx (.xd (errF vs fs []))) ⟨G', g, dr, tk', os⟩ := I1.laid (t' := tk') old hdx ob
    refine ⟨hp.objs.size + 1, _, _, ⟨G', g, dr, tk', os⟩, _, .ref C, some dx, rfl, J, sub2, ge, hx, ⟨rfl, rfl⟩, rfl, rfl, ?_, rfl, I1.bare, raises_own T.exC T.tyC, ?_⟩
    · rw [upd_ne (Ne.symm d2)]
      exact I1.hok.fresh (Nat.le_succ _)
    · cases fs with
      | nil =>
        exact absurd rfl d0
      | cons p r => exact q1 dx nd
/-- C(e, ..) -/
theorem pmk_err {x : Str} {e : Expr} {es : List Expr} {ta : TA} {p pos : Pos} {k : Nat} (T : ErrC X.prog X.K C fI st q ps fs) (hm : X.mg x = some (.ref C)) (hsup : X.mg "super" = none) (hr : Room k X.A) (ha : PA X (e :: es) ta) (hg : Gl X x := by rfl)
    (hfs : fs.length ≤ 90 := by decide) (hps : ps.length ≤ 90 := by decide) (hdb : ∀ y ∈ (("self" : Str) :: ps), (y == ("__debug__" : Str)) = false := by decide) (hd : (x == ("__debug__" : Str)) = false := by decide)
    (he : starEach (e :: es) X.env = (false, eval e X.env) :: starEach es X.env := by rfl) (hpl : (backTo pos (starEach es X.env)).any (·.1) = false := by rfl) :
    PMk X (.Call (.Name x p) (e :: es) [] pos) (tErr C ps.length fs ta) := by
  intro pins s σ H Q I h
  refine wpAny_Call_Name_kw (ld_glob I hg hm ?_ hd)
  refine PySem.W.callWith_K (h₀ := X.base) I.ok.mod.kin T.kC (thn (ha.run pos pins s σ H _ I h) fun us s1 hh => ?_) he hpl
  obtain ⟨vs, H1, I1, r1, hl, q1⟩ := hh
  refine ⟨I1.kIn, ?_⟩
  exact err_made T hsup hr hfs hdb I1 r1 hl (by rw [List.nil_append, ← r1.length, hl, sizeLine_eq]; omega) q1
/-- C() -/
theorem pmk_err0 {x : Str} {p pos : Pos} {k : Nat} (T : ErrC X.prog X.K C fI st q [] fs) (hm : X.mg x = some (.ref C)) (hsup : X.mg "super" = none) (hr : Room k X.A) (hg : Gl X x := by rfl)
    (hfs : fs.length ≤ 90 := by decide) (hd : (x == ("__debug__" : Str)) = false := by decide) :
    PMk X (.Call (.Name x p) [] [] pos) (tErr C 0 fs tNil) := by
  intro pins s σ H Q I h
  refine wpAny_Call_Name_kw (ld_glob I hg hm ?_ hd)
  refine PySem.W.callWith_K0 I.kIn T.kC ?_
  obtain ⟨_, q1⟩ := h
  exact err_made T (vs := []) (us := []) hsup hr hfs (by decide) I .nil rfl (Nat.zero_le _) q1
end
/-! ### several except clauses, with or without a name -/
section
open PySem PySem.Spec PyProof.Rows
abbrev Cls1 := Value × Option Nat × (Addr → Value → Option Addr → TS)
def endsAs (i : Nat) (D : Ends) : Ends := { nx := fun σ' H' => D.nx (σ'.set i none) H', rt := D.rt, bk := fun σ' H' => D.bk (σ'.set i none) H', ct := fun σ' H' => D.ct (σ'.set i none) H' }
def wCl (D : Ends) (on : Option Nat) (ts : Addr → Value → Option Addr → TS) (a : Addr) (cls : Value) (d : Option Addr) (σ : L2.St) (H : Hp) : Prop := match on with
  | none => ts a cls d D σ H
  | some i => ts a cls d (endsAs i D) (σ.set i (some (.ref a))) H
/-- what the clauses wish of an exception of the body, one after the other -/
def wManyA (K : PySem.W.Frag) (Wout : WX) (D : Ends) : List Cls1 → WX
  | [] => Wout
  | (c, on, ts) :: r => fun cls d σ H => ∃ b, PySem.W.exmOne K cls c = some b ∧ (b = true → ∀ a, H a = none → wCl D on ts a cls d σ H) ∧ (b = false → wManyA K Wout D r cls d σ H)
inductive HdsA (X : Cx) : List ExceptHandler → List Cls1 → Prop
  | nil : HdsA X [] []
  | cons {x : Str} {c : Value} {ts : Addr → Value → Option Addr → TS} {b₀ : Stmt} {suite : List Stmt} {np pos' : Pos} {hds : List ExceptHandler} {l : List Cls1} (hc : Names X x c)
      (hsu : ∀ (a : Addr) (oe : Obj) (cls : Value) (d : Option Addr) (pn : List (Addr × Obj)), Zc cls d oe → (∃ vs, oe.data = .fields vs) → PSs (X.suite a ((a, oe) :: pn)) (b₀ :: suite) (ts a cls d)) (r : HdsA X hds l) :
      HdsA X (.ExceptHandler (some (.Name x np)) none (b₀ :: suite) pos' :: hds) ((c, none, ts) :: l)
  | consA {x n : Str} {c : Value} {i : Nat} {ts : Addr → Value → Option Addr → TS} {b₀ : Stmt} {suite : List Stmt} {np pos' : Pos} {hds : List ExceptHandler} {l : List Cls1} (hc : Names X x c) (hi : X.N[i]? = some n) (hln : X.env.kindOf n = some .local)
      (hsu : ∀ (a : Addr) (oe : Obj) (cls : Value) (d : Option Addr) (pn : List (Addr × Obj)), Zc cls d oe → (∃ vs, oe.data = .fields vs) → PSs (X.suite a ((a, oe) :: pn)) (b₀ :: suite) (ts a cls d)) (r : HdsA X hds l) :
      HdsA X (.ExceptHandler (some (.Name x np)) (some n) (b₀ :: suite) pos' :: hds) ((c, some i, ts) :: l)
variable {X : Cx} {body : List Stmt} {h₀ : ExceptHandler} {hds : List ExceptHandler} {l : List Cls1} {pos : Pos} {tb : WX → TS} {Wout : WX}
theorem ps_tryA (hs : X.stack = X.env :: X.outer) (hf : X.env.frame = some X.env.locals) (hN : X.N.Nodup) (tk : Takes X Wout)
    (hb : ∀ (W : WX) (pn : List (Addr × Obj)) (xe : Value → Shared → Prop), Takes (X.tr pn xe) W → PassesOwn (model X.prog X.w) X.A X.env xe → PSs (X.tr pn xe) body (tb W))
    (hh : HdsA X (h₀ :: hds) l) : PS X (.Try body (h₀ :: hds) [] [] pos) (fun D σ H => tb (wManyA X.K Wout D l) D σ H) := by
  refine ⟨fun pins s σ H D I h => ?_⟩
  have ok := I.ok
  have hfr : X.A.frames = some (X.env :: X.outer) := by rw [ok.frames, hs]
  refine wpAny_Try_except ?_
  refine wpAny_mono ((hb (wManyA X.K Wout D l) (X.pn ++ pins) (fun e s₁ => wpAny (model X.prog X.w) X.A (noteFrame e X.env) (fun _ s₂ => wpAny (model X.prog X.w) X.A (setFlight e none) (fun _ s₃ =>
    wpAny (model X.prog X.w) X.A (handleBy e X.env (h₀ :: hds)) (SP X pins D) X.xe s₃) X.xe s₂) X.xe s₁) (fun u s' xx => ?_) PassesOwn.looking).run [] s σ H D (I.toTry _) h) (fun f s1 hsp => ?_) (fun e s1 he => he)
  · -- the catch
    obtain ⟨a, B, sI, pins', σ', H', cls, d, rfl, J', nb, up, sky, na, os, ag, w⟩ := xx
    have J : Inv X pins σ' H' sI := J'.ofTry ok
    have sky' : Sky B (X.env :: X.outer) a (Zc cls d) X.env.locals s'.heap := by rw [← hs]; exact sky
    show wpAny (model X.prog X.w) X.A (noteFrame (.ref a) X.env) _ _ _
    refine Sky.land Zc.steady hfr hf sky' fun h3 fl3 up3 => ?_
    have J3 : Inv X pins σ' H' { s' with heap := h3 } := J.landed nb fl3.1 (up.trans up3) os ag
    obtain ⟨oe3, vs3, he3, hz3, hd3⟩ := fl3.there
    have notFr : ∀ {h : Heap} {o : Obj} {vs : Array Value}, h.FunFrames B (X.env :: X.outer) → h.get? a = some o → o.data = .fields vs → a ∉ frs (X.env :: X.outer) := fun {h o vs} ff e dd hm => by
      obtain ⟨_, o', e', hnf⟩ := ff.mem hm
      rw [e] at e'; cases e'
      exact hnf _ dd
    have nfr := notFr fl3.2.2.1 he3 hd3
    have nL : a ≠ X.env.locals := fun z => nfr (List.mem_filterMap.mpr ⟨X.env, List.mem_cons_self, by rw [hf, z]⟩)
    have nF : a ∉ X.fs := fun hm => by
      obtain ⟨e, he, q⟩ := List.mem_filterMap.mp hm
      exact nfr (List.mem_filterMap.mpr ⟨e, List.mem_cons_of_mem _ he, q⟩)
    have S3 := J3.suite he3 hd3 na nL nF
    have tst : ∀ {x : Str} {c : Value} {np : Pos}, Names X x c → ∀ {Q : Value → Shared → Prop} {E : Value → Shared → Prop}, Q c { s' with heap := h3 } → wpAny (model X.prog X.w) (X.A.mark (some (.ref a))) (eval (.Name x np) X.env) Q E { s' with heap := h3 } := fun {x c np} hc {Q E} q => by
      obtain ⟨hg, hdbg, hm | ⟨hm, hv, hnn⟩⟩ := hc
      · exact ld_glob (X := X.suite a ((a, oe3) :: (X.pn ++ pins))) S3 hg hm q hdbg
      · exact ld_blt (X := X.suite a ((a, oe3) :: (X.pn ++ pins))) S3 hg hm hv q hnn hdbg
    have LT : PySem.W.Looks (model X.prog X.w) h3 (typeOf (.ref a)) cls := fun A Q E s k q => wpAny_typeOf_ref (k _ _ he3) (by rw [hz3.1]; exact q)
    have go : ∀ {hds' : List ExceptHandler} {l' : List Cls1}, HdsA X hds' l' → wManyA X.K Wout D l' cls d σ' H' →
        wpAny (model X.prog X.w) X.A (handleBy (.ref a) X.env hds') (SP X pins D) X.xe { s' with heap := h3 } := by
      intro hds' l' hk
      induction hk with
      | nil =>
        intro w
        refine wpAny_handleBy_nil ?_
        obtain ⟨k1, k2, k3, oe, vs, T, oT, ts', he, hz, hd, h1, hr⟩ := id fl3
        unfold PySem.passOn
        refine wpAny_bind (wpAny_field he hd h1 ?_)
        rw [if_neg (show ¬ ((Value.ref T == Value.none) = true) from by simp)]
        have fin : wpAny (model X.prog X.w) X.A (setFlight (.ref a) X.env.frame) (fun _ s4 => wpAny (model X.prog X.w) X.A (throw (.ref a) : Sem Flow) (SP X pins D) X.xe s4) X.xe { s' with heap := h3 } := by
          rw [hf]
          refine HandSPX.setFlight_upZ fl3 fun h4 hh4 up4 => wpAny_throw (tk _ _ ?_)
          exact ⟨a, B, sI, pins, σ', H', cls, d, rfl, J, nb, (up.trans up3).trans up4, .inr (.inr (by rw [hs]; exact hh4)), na, os, ag, w⟩
        first
          | exact wpAny_bind (wpAny_pure (wpAny_bind fin))
          | exact wpAny_bind fin
      | @cons x c ts b₀ suite np pos' hds2 l2 hc hsu r ih =>
        intro w
        obtain ⟨b, hb1, hyes, hno⟩ := w
        refine wpAny_handleBy_cons (codeAny_handlers_test ?_) (by intro q; cases q)
        have LM := PySem.W.exm_one (M := model X.prog X.w) (J3.kIn) LT hb1
        refine tst hc (LM.here ?_)
        cases b with
        | true =>
          refine codeAny_handlers_suite ?_
          refine HandSPX.lands_againZ fl3 fun h4 fl4 up4 => ?_
          have J4 : Inv X pins σ' H' { s' with heap := h4 } := J.landed nb fl4.1 ((up.trans up3).trans up4) os ag
          obtain ⟨oe4, vs4, he4, hz4, hd4⟩ := fl4.there
          have S4 := J4.suite he4 hd4 na nL nF
          refine wpAny_mono ((hsu a oe4 cls d (X.pn ++ pins) hz4 ⟨_, hd4⟩).run [] _ _ H' _ S4 (hyes rfl a na)) (fun f s6 hsp => ?_) (fun _ _ z => False.elim z)
          cases f with
          | next =>
            obtain ⟨σ6, H6, S6, q6⟩ := hsp
            exact ⟨_, _, S6.unsuite ok, q6⟩
          | brk =>
            obtain ⟨σ6, H6, S6, q6⟩ := hsp
            exact ⟨_, _, S6.unsuite ok, q6⟩
          | cont =>
            obtain ⟨σ6, H6, S6, q6⟩ := hsp
            exact ⟨_, _, S6.unsuite ok, q6⟩
          | ret u =>
            obtain ⟨v6, σ6, H6, S6, r6, q6⟩ := hsp
            exact ⟨_, _, _, S6.unsuite ok, r6, q6⟩
        | false =>
          show wpAny _ X.A (handleBy (.ref a) X.env hds2) _ _ _
          exact ih (hno rfl)
      | @consA x n c i ts b₀ suite np pos' hds2 l2 hc hi hln hsu r ih =>
        intro w
        obtain ⟨b, hb1, hyes, hno⟩ := w
        have hloc : Loc X.env.scope n := .inl hln
        refine wpAny_handleBy_cons (codeAny_handlers_test ?_) (by intro q; cases q)
        have LM := PySem.W.exm_one (M := model X.prog X.w) (J3.kIn) LT hb1
        refine tst hc (LM.here ?_)
        cases b with
        | true =>
          refine codeAny_handlers_suite_as ?_
          refine HandSPX.lands_againZ fl3 fun h4 fl4 up4 => ?_
          have J4 : Inv X pins σ' H' { s' with heap := h4 } := J.landed nb fl4.1 ((up.trans up3).trans up4) os ag
          obtain ⟨oe4, vs4, he4, hz4, hd4⟩ := fl4.there
          have S4 := J4.suite he4 hd4 na nL nF
          refine store_ok (X := X.suite a ((a, oe4) :: (X.pn ++ pins))) (v := .ref a) S4 hN hi hloc rfl (fun s5 S5 => ?_) (.inr hln)
          refine wpAny_mono ((hsu a oe4 cls d (X.pn ++ pins) hz4 ⟨_, hd4⟩).run [] s5 _ H' _ S5 (hyes rfl a na)) (fun f s6 hsp => ?_) (fun _ _ z => False.elim z)
          have end_ : ∀ {σ6 : L2.St} {H6 : Hp} {Q : Shared → Prop}, Inv (X.suite a ((a, oe4) :: (X.pn ++ pins))) [] σ6 H6 s6 → (∀ s7, Inv X pins (σ6.set i none) H6 s7 → Q s7) →
              wpAny (model X.prog X.w) X.A (do bindName X.env n .none; unbindBehindTheSuite X.env n pos') (fun _ s7 => Q s7) X.xe s6 := fun {σ6 H6 Q} S6 hq => gone_ok (S6.unsuite ok) hN hi hln hq
          cases f with
          | next =>
            obtain ⟨σ6, H6, S6, q6⟩ := hsp
            exact end_ S6 fun s7 J7 => ⟨_, _, J7, q6⟩
          | brk =>
            obtain ⟨σ6, H6, S6, q6⟩ := hsp
            exact end_ S6 fun s7 J7 => ⟨_, _, J7, q6⟩
          | cont =>
            obtain ⟨σ6, H6, S6, q6⟩ := hsp
            exact end_ S6 fun s7 J7 => ⟨_, _, J7, q6⟩
          | ret u =>
            obtain ⟨v6, σ6, H6, S6, r6, q6⟩ := hsp
            exact end_ S6 fun s7 J7 => ⟨_, _, _, J7, r6, q6⟩
        | false =>
          show wpAny _ X.A (handleBy (.ref a) X.env hds2) _ _ _
          exact ih (hno rfl)
    exact go hh w
  · cases f with
    | next =>
      obtain ⟨σ', H', J', q⟩ := hsp
      exact wpAny_execs_nil ⟨σ', H', J'.ofTry ok, q⟩
    | brk =>
      obtain ⟨σ', H', J', q⟩ := hsp
      exact ⟨σ', H', J'.ofTry ok, q⟩
    | cont =>
      obtain ⟨σ', H', J', q⟩ := hsp
      exact ⟨σ', H', J'.ofTry ok, q⟩
    | ret u =>
      obtain ⟨v, σ', H', J', r, q⟩ := hsp
      exact ⟨v, σ', H', J'.ofTry ok, r, q⟩
/-! ### o.m(e, ..) with a wish by the slots, defaults, keywords -/
variable {CX : CXT} {k : Nat} {f C : Addr} {fd : FuncData} {ps ks : List Str} {sp : Sp} {dvs : List V} {ds : List Value} {E : L2.St → XK} {x m : Str} {p apos : Pos} {e o : Expr} {es : List Expr} {kws : List Keyword} {ta : TE} {t tk : TA}
def tMethS (C : Addr) (m : Str) (sp : Sp) (dvs : List V) (E : L2.St → XK) (to : TE) (ta : TA) : TE := fun σ H Q => to σ H fun x H1 => ∃ a dx fs, x = .ref a ∧ H1 a = some (.ins C dx fs) ∧ fs.lookup m = none ∧ ta σ H1 fun vs H2 => sp (.ref a :: (vs ++ dvs)) H2 Q (E σ)
theorem pe_methSD {pl : Sem Bool} (he : PE X o ta) (c : Cls X.K C) (hm : Meth X.K C m f) (F : FnOk X.prog X.w X.K X.mg X.base CX k f fd ps sp) (hr : Room k X.A) (hb : Binds X.K fd ps ds) (hd : Vals dvs ds) (hx : ∀ σ, PassesAt CX X σ (E σ)) (ha : PA X (e :: es) t)
    (hst : starEach (e :: es) X.env = (false, eval e X.env) :: starEach es X.env := by rfl) (hpl : (backTo pos (starEach es X.env)).any (·.1) = false := by rfl)
    (ht : eval (.Call (.Attribute o m apos) (e :: es) [] pos) X.env = (do
      let ov ← eval o X.env
      standAt apos.atName
      let (f, first) ← holding [ov] (getMethod ov m pl)
      callWith pos f first (backTo pos (starEach (e :: es) X.env)) (backToKw pos (keywordEach [] X.env))) := by rfl) :
    PE X (.Call (.Attribute o m apos) (e :: es) [] pos) (tMethS C m sp dvs E ta t) := by
  refine ⟨fun pins s σ H Q I h => ?_⟩
  refine PySem.W.methodCall_KW (pl := pl) (thn (he.run pins s σ H _ I h) fun u s1 ⟨x, H1, I1, rx, a, dx, fs, ex, ea, l, q⟩ => ?_) ht
  subst ex
  obtain rfl : u = Value.ref a := rx
  refine getmeth_ok I1 ea c hm l ?_
  refine PySem.W.callWith_K (first := [.ref a]) (h₀ := X.base) I.ok.mod.kin hm.kp (thn (ha.run pos pins s1 σ H1 _ I1 q) fun us s2 ⟨vs, H2, I2, r, q2⟩ => ⟨I2.kIn, ?_⟩) hst hpl
  exact run_fnSD (us := .ref a :: us) (vs := .ref a :: vs) F hr hb hd (hx σ) I2 (.cons rfl r) q2
theorem pe_methSD0 {pl : Sem Bool} (he : PE X o ta) (c : Cls X.K C) (hm : Meth X.K C m f) (F : FnOk X.prog X.w X.K X.mg X.base CX k f fd ps sp) (hr : Room k X.A) (hb : Binds X.K fd ps ds) (hd : Vals dvs ds) (hx : ∀ σ, PassesAt CX X σ (E σ))
    (ht : eval (.Call (.Attribute o m apos) [] [] pos) X.env = (do
      let ov ← eval o X.env
      standAt apos.atName
      let (f, first) ← holding [ov] (getMethod ov m pl)
      callWith pos f first (backTo pos (starEach [] X.env)) (backToKw pos (keywordEach [] X.env))) := by rfl) :
    PE X (.Call (.Attribute o m apos) [] [] pos) (tMethS C m sp dvs E ta tNil) := by
  refine ⟨fun pins s σ H Q I h => ?_⟩
  refine PySem.W.methodCall_KW (pl := pl) (thn (he.run pins s σ H _ I h) fun u s1 ⟨x, H1, I1, rx, a, dx, fs, ex, ea, l, q⟩ => ?_) ht
  subst ex
  obtain rfl : u = Value.ref a := rx
  refine getmeth_ok I1 ea c hm l ?_
  exact PySem.W.callWith_K0 (first := [.ref a]) I1.kIn hm.kp (run_fnSD (us := [.ref a]) (vs := [.ref a]) F hr hb hd (hx σ) I1 (.cons rfl .nil) q)
end
/-! ### defs under which repr is asked: no guard is up -/
section
open PySem PySem.Spec PyProof.Rows
structure FnG (P : Program) (w : World) (K : PySem.W.Frag) (mg : Str → Option Value) (base : Heap) (CX : CXT) (k : Nat) (f : Addr) (fd : FuncData) (ps : List Str) (sp : Sp) : Prop where
  len : ∀ vs H Q E, sp vs H Q E → vs.length = ps.length
  run : ∀ (A : Around) (outer : List Env) (s : Shared) (H : Hp) (args : Args) (us : List Value) (vs : List V) (Q : VK) (E : XK), Room k A → A.guards = some [] → Env0 P w K mg base A outer s H → BindsTo s fd args (ps.zip us) → Vals vs us → sp vs H Q E →
    codeAny (model P w) A (.call (.ref f) args) (CR CX outer P w H s Q E) s
theorem FnG.of {P : Program} {w : World} {K : PySem.W.Frag} {mg : Str → Option Value} {base : Heap} {CX : CXT} {k : Nat} {f : Addr} {fd : FuncData} {ps : List Str} {sp : Sp} (F : FnOk P w K mg base CX k f fd ps sp) : FnG P w K mg base CX k f fd ps sp :=
  ⟨F.len, fun A outer s H args us vs Q E hr _ => F.run A outer s H args us vs Q E hr⟩
theorem FnG.mono {P : Program} {w : World} {K : PySem.W.Frag} {mg : Str → Option Value} {base : Heap} {CX : CXT} {j k : Nat} {f : Addr} {fd : FuncData} {ps : List Str} {sp : Sp} (F : FnG P w K mg base CX j f fd ps sp) (h : j ≤ k) : FnG P w K mg base CX k f fd ps sp :=
  ⟨F.len, fun A outer s H args us vs Q E hr => F.run A outer s H args us vs Q E (hr.mono h)⟩
theorem fn_ofG {CX : CXT} {P : Program} {w : World} {K : PySem.W.Frag} {mg : Str → Option Value} {base : Heap} {k : Nat} {f : Addr} {name qual : Str} {params : Arguments} {body : List Stmt} {scope : Scope} {dV kV doc pm cdv ct oc : Value} {an od : Option Addr}
    {osl : Array (Option Value)} {N ps : List Str} {sp : Sp} (lk : K.lookup f = some ⟨oc, od, .func (PySem.W.fnOf name qual params body scope dV kV doc pm an cdv ct), osl⟩) (hcd : PySem.W.codeIn K cdv qual = true) (S : FnScope N ps scope)
    (len : ∀ vs H Q E, sp vs H Q E → vs.length = ps.length)
    (hbody : ∀ (A : Around) (outer : List Env) (s : Shared) (H : Hp) (vs : List V) (Q : VK) (E : XK), Room k (A.deeper (envOfC qual scope s.heap.objs.size f cdv)) → A.guards = some [] → sp vs H Q E →
      ∃ t, PSs (cxOf CX P w K mg base N qual scope f cdv A outer s H E) body t ∧ t { nx := fun _ H' => Q .non H', rt := Q } (start N vs) H) :
    FnG P w K mg base CX (k + 1) f (PySem.W.fnOf name qual params body scope dV kV doc pm an cdv ct) ps sp := by
  refine ⟨len, fun A outer s H args us vs Q E hr hg e0 hb r hsp => ?_⟩
  have hl := len _ _ _ _ hsp
  have KX : K.In s.heap := e0.mod.kin.keeps fun b o e => (e0.bs b o e).1
  have lim : s.heap.NoLimit := e0.mod.nolimit.keeps fun b o e => (e0.bs b o e).1
  have hkind : ∀ y ∈ ps.zip us, scope.names.lookup y.1 = some .local ∨ (scope.names.lookup y.1 = some .cell ∧ ((cellsFrom (s.heap.objs.size + 1) scope.names []).lookup y.1).isSome = true) := fun ⟨n, v⟩ hy => by
    rcases S.par n (List.of_mem_zip hy).1 with q | q
    · exact .inl q
    · exact .inr ⟨q, PySem.W.cellsFrom_some _ _ _ (.inl q)⟩
  refine codeAny_call_function hr.depth (KX _ _ lk) rfl S.co S.gen rfl (PySem.W.codeRec_of KX hcd) (hb _ _ _ _ ?_)
  refine wpAny_newFunctionEnv_cells S.kind hkind fun env he s1 x => ?_
  subst he
  refine ⟨lim.keeps x.toInCall.keep, codeAny_func ?_⟩
  obtain ⟨t, ht, hq⟩ := hbody A outer s H vs Q E (hr.deeper _) hg hsp
  have I : Inv (cxOf CX P w K mg base N qual scope f cdv A outer s H E) [] (start N vs) H s1 := inv_start S hr.hd e0 hl r x
  refine wpAny_mono (ht.run [] s1 (start N vs) H _ I hq) (fun fl s' hs => ?_) fun e s' hs => hs
  have fin : ∀ {σ' : L2.St} {H' : Hp} {v : V} {u : Value}, Inv (cxOf CX P w K mg base N qual scope f cdv A outer s H E) [] σ' H' s' → RelV v u → Q v H' → CE outer P w H s Q u s' :=
    fun {σ' H' v u} J rv q => ⟨v, H', J.os, J.bare, J.base, J.hok, rv, q⟩
  cases fl with
  | ret u =>
    obtain ⟨v, σ', H', J, rv, q⟩ := hs
    exact fin J rv q
  | next =>
    obtain ⟨σ', H', J, q⟩ := hs
    exact fin (v := V.non) (u := Value.none) J rfl q
  | brk =>
    obtain ⟨_, _, _, q⟩ := hs
    exact False.elim q
  | cont =>
    obtain ⟨_, _, _, q⟩ := hs
    exact False.elim q
theorem okG {P : Program} {w : World} {K : PySem.W.Frag} {mg : Str → Option Value} {base : Heap} {x qual : Str} {st : Stmt} {f : Addr} {fd : FuncData} {N ps : List Str} {k : Nat} {sp : Sp} (F : L2.Fun K x qual st f fd) (S : FnScope N ps (defScope st)) (len : ∀ vs H Q E, sp vs H Q E → vs.length = ps.length)
    (hbody : ∀ (cdv : Value) (A : Around) (outer : List Env) (s : Shared) (H : Hp) (vs : List V) (Q : VK) (E : XK), Room k (A.deeper (envOfC qual (defScope st) s.heap.objs.size f cdv)) → A.guards = some [] → sp vs H Q E →
      ∃ t, PSs (cxOf CX0 P w K mg base N qual (defScope st) f cdv A outer s H E).nox (defBody st) t ∧ t { nx := fun _ H' => Q .non H', rt := Q } (start N vs) H) : FnG P w K mg base CX0 (k + 1) f fd ps sp := by
  obtain ⟨oc, od, kV, doc, pm, an, cdv, ct, osl, rfl, lk, hcd⟩ := F.ex
  refine fn_ofG lk hcd S len fun A outer s H vs Q E hr hg hsp => ?_
  obtain ⟨t, h, q⟩ := hbody cdv A outer s H vs Q E hr hg hsp
  exact ⟨t, h.nox, q⟩
theorem okGX {P : Program} {w : World} {K : PySem.W.Frag} {mg : Str → Option Value} {base : Heap} {x qual : Str} {st : Stmt} {f : Addr} {fd : FuncData} {N ps : List Str} {k : Nat} {sp : Sp} (F : L2.Fun K x qual st f fd) (S : FnScope N ps (defScope st)) (len : ∀ vs H Q E, sp vs H Q E → vs.length = ps.length)
    (hbody : ∀ (cdv : Value) (A : Around) (outer : List Env) (s : Shared) (H : Hp) (vs : List V) (Q : VK) (E : XK), Room k (A.deeper (envOfC qual (defScope st) s.heap.objs.size f cdv)) → A.guards = some [] → sp vs H Q E →
      ∃ t, PSs (cxOf (L2.CX P w) P w K mg base N qual (defScope st) f cdv A outer s H E) (defBody st) t ∧ t { nx := fun _ H' => Q .non H', rt := Q } (start N vs) H) : FnG P w K mg base (L2.CX P w) (k + 1) f fd ps sp := by
  obtain ⟨oc, od, kV, doc, pm, an, cdv, ct, osl, rfl, lk, hcd⟩ := F.ex
  exact fn_ofG lk hcd S len fun A outer s H vs Q E hr hg hsp => hbody cdv A outer s H vs Q E hr hg hsp
section
variable {X : Cx} {CX : CXT} {k : Nat} {f C : Addr} {fd : FuncData} {ps : List Str} {sp : Sp} {dvs : List V} {ds : List Value} {E : XK} {x m : Str} {p pos apos : Pos} {e o : Expr} {es : List Expr} {ta : TE} {t : TA}
theorem run_fnG {pins : List (Addr × Obj)} {σ : L2.St} {H : Hp} {s : Shared} {Q : VK} {us : List Value} {vs : List V} (F : FnG X.prog X.w X.K X.mg X.base CX k f fd ps sp) (hr : Room k X.A) (hgd : X.A.guards = some []) (hb : Binds X.K fd ps ds) (hd : Vals dvs ds) (hx : Passes CX X E)
    (I : Inv X pins σ H s) (r : Vals vs us) (h : sp (vs ++ dvs) H Q E) : wpAny (model X.prog X.w) X.A (call (.ref f) us) (EP X pins σ Q) X.xe s := by
  have r2 : Vals (vs ++ dvs) (us ++ ds) := r.append hd
  have hl : (us ++ ds).length = ps.length := by rw [← r2.length]; exact F.len _ _ _ _ h
  refine wpAny_call (codeAny_mono (F.run X.A X.stack s H ⟨us, []⟩ (us ++ ds) (vs ++ dvs) Q E hr hgd I.env0 (hb s us I.kIn hl) r2 h) fun r s' hq => ?_)
  cases r with
  | error e => exact hx pins σ H s e s' I hq
  | ok fl =>
    cases fl with
    | ret u => exact I.after hq
    | next => exact False.elim hq
    | brk => exact False.elim hq
    | cont => exact False.elim hq
theorem pe_callG (F : FnG X.prog X.w X.K X.mg X.base CX k f fd ps sp) (hr : Room k X.A) (hgd : X.A.guards = some []) (hg : Gl X x) (hm : X.mg x = some (.ref f)) (hk : PySem.W.keepIn X.K (.ref f) = true) (hb : Binds X.K fd ps ds) (hd : Vals dvs ds) (hx : Passes CX X E)
    (ha : PA X (e :: es) t) (hdb : (x == ("__debug__" : Str)) = false := by decide) (he : starEach (e :: es) X.env = (false, eval e X.env) :: starEach es X.env := by rfl) (hpl : (backTo pos (starEach es X.env)).any (·.1) = false := by rfl) :
    PE X (.Call (.Name x p) (e :: es) [] pos) (tCall sp dvs E t) := by
  refine ⟨fun pins s σ H Q I h => ?_⟩
  refine wpAny_Call_Name_kw (ld_glob I hg hm ?_ hdb)
  refine PySem.W.callWith_K (h₀ := X.base) I.ok.mod.kin hk (thn (ha.run pos pins s σ H _ I h) fun us s1 ⟨vs, H1, I1, r, q⟩ => ⟨I1.kIn, ?_⟩) he hpl
  exact run_fnG F hr hgd hb hd hx I1 r q
/-- repr of data -/
theorem call_reprD (hgd : X.A.guards = some []) (hu : X.A.units + 64 < cLine) : CallR X (.builtin "repr") (fun xs H Q => ∃ (x : V) (dt : PyData), xs = [x] ∧ Dp X.K H x dt ∧ dt.showable = true ∧ dt.hasDict = false ∧ dt.depth ≤ 60 ∧ dt.shown.length ≤ sizeLine ∧ Q (.str dt.shown) H) := by
  intro pins s σ H xs us Q I r h
  obtain ⟨x, dt, rfl, hD, h1, h2, h3, h4, q⟩ := h
  obtain ⟨u, rfl, ru⟩ := vals1 r
  obtain ⟨as, hr⟩ := Dp.reads I dt x u hD ru
  cases hD with
  | non =>
    cases (show u = Value.none from ru)
    exact PySem.P.repr_of_none ⟨.str _, H, I.tok _, ⟨_, rfl⟩, q⟩
  | bl b =>
    cases (show u = Value.bool b from ru)
    exact PySem.P.repr_of_bool ⟨.str _, H, I.tok _, ⟨_, rfl⟩, q⟩
  | int i =>
    obtain ⟨t, rfl⟩ := ru
    exact PySem.P.repr_of_int (of_decide_eq_true h1) ⟨.str _, H, I.tok _, ⟨_, rfl⟩, q⟩
  | str z =>
    obtain ⟨t, rfl⟩ := ru
    exact PySem.P.repr_of_str ⟨.str _, H, I.tok _, ⟨_, rfl⟩, q⟩ h4
  | lst hl ha =>
    cases ru
    refine repr_of_reads' hr h1 (fun z => by rw [h2] at z; cases z) hgd (by omega) (fun _ _ e => e) (fun h' u tk hk => ?_) h4
    exact ⟨.str _, H, (I.kept (t' := tk) hk), ⟨_, rfl⟩, q⟩
  | tup hl ha =>
    cases ru
    refine repr_of_reads' hr h1 (fun z => by rw [h2] at z; cases z) hgd (by omega) (fun _ _ e => e) (fun h' u tk hk => ?_) h4
    exact ⟨.str _, H, (I.kept (t' := tk) hk), ⟨_, rfl⟩, q⟩
end
end
/-! ### the law is called: no guard is up -/
section
open PySem PySem.Spec PyProof.Rows L2
theorem law_callG {P : Program} {w : World} {K : PySem.W.Frag} {mg mb : Str → Option Value} {CX : CXT} {k : Nat} {fa a : Addr} {fd : FuncData} {x : Str} {sp : Sp} {s₁ : Shared} {vs : List Value} {ns : List Int}
    (KX : K.In s₁.heap) (hns : s₁.heap.Ns mainGlobals mg) (hb : s₁.heap.Ns builtinsNs mb) (hbb : ∀ x : Str, x ≠ "__name__" → mb x = bootBuiltins x) (hlim : s₁.heap.NoLimit) (hg : s₁.gens = #[])
    (ha : s₁.heap.get? a = some { cls := .type "list", data := .seq vs.toArray }) (hi : IntsAre vs ns) (hl : ns.length ≤ sizeLine) (hr : Room k callerA)
    (F : ∀ base : Heap, K.In base → base.Ns mainGlobals mg → FnG P w K mg base CX k fa fd [x] sp) (hbind : ∀ (s : Shared) (u : Value), BindsTo s fd ⟨[u], []⟩ [(x, u)])
    (hsp : ∀ H : Hp, Only H → SqL K H a (ns.map V.int) → sp [.ref a] H (fun v _ => v = .bl true) fun _ _ _ => False)
    (hCX : ∀ H e s', CX [] H s₁ (fun _ _ _ => False) e s' → False) :
    codeAny (model P w) callerA (.call (.ref fa) ⟨[.ref a], []⟩) (fun r s' => r = .ok (.ret (.bool true)) ∧ OldK s₁.heap s'.heap ∧ s'.os = s₁.os ∧ AllBare s'.gens) s₁ := by
  have rv := vals_ints hi
  have lenV := hi.length
  -- from an abstract heap in which nothing but the script may be tracked
  have core : ∀ H : Hp, Only H → SqL K H a (ns.map V.int) → HOk P w H s₁.heap → (∀ b, H b ≠ none → b = a) → (H a ≠ none → K.lookup a = none) →
      codeAny (model P w) callerA (.call (.ref fa) ⟨[.ref a], []⟩) (fun r s' => r = .ok (.ret (.bool true)) ∧ OldK s₁.heap s'.heap ∧ s'.os = s₁.os ∧ AllBare s'.gens) s₁ := by
    intro H hO hS hok hA hK
    have base_of : ∀ {b : Addr} {o : Obj}, s₁.heap.get? b = some o → H b = none → (hidT s₁.heap H).get? b = some o := fun e n => hidT_get e n
    have noA : ∀ {b : Addr} {o : Obj} {es : Array DictEntry} {ep : Nat}, s₁.heap.get? b = some o → o.data = .dict es ep → H b = none := fun {b o es ep} e d => by
      cases q : H b with
      | none => rfl
      | some u =>
        have e' : b = a := hA b (by rw [q]; simp)
        subst e'
        rw [ha] at e; cases e
        have d' : Data.seq vs.toArray _ = Data.dict es ep := d
        cases d'
    have nsK : ∀ {b : Addr} {m : Str → Option Value}, s₁.heap.Ns b m → (hidT s₁.heap H).Ns b m := fun {b m} ⟨o, es, ep, e, d, r⟩ => ⟨o, es, ep, base_of e (noA e d), d, r⟩
    have hKb : K.In (hidT s₁.heap H) := fun b o e => base_of (KX b o e) (by
      cases q : H b with
      | none => rfl
      | some u =>
        have e' : b = a := hA b (by rw [q]; simp)
        subst e'
        rw [hK (by rw [q]; simp)] at e; cases e)
    have hM : Mod K mg (hidT s₁.heap H) := ⟨hKb, nsK hns, ⟨mb, nsK hb, hbb⟩, let ⟨mc, h1, h2⟩ := hlim; ⟨mc, nsK h1, h2⟩⟩
    have e0 : Env0 P w K mg (hidT s₁.heap H) callerA [] s₁ H := ⟨rfl, hM, fun b o e => of_hidT e, Nat.le_of_eq (hidT_size _ _), trivial, fun b hb => absurd (show b ∈ ([] : List Addr) from hb) (by simp), hok, .of_eq hg⟩
    refine codeAny_mono ((F _ hKb (nsK hns)).run callerA [] s₁ H ⟨[.ref a], []⟩ [.ref a] [.ref a] _ _ hr rfl e0 (hbind s₁ (.ref a)) (.cons rfl .nil) (hsp H hO hS)) fun r s' h => ?_
    cases r with
    | error e => exact (hCX H e s' h).elim
    | ok fl =>
      cases fl with
      | next => exact False.elim h
      | brk => exact False.elim h
      | cont => exact False.elim h
      | ret u =>
        obtain ⟨v, H', os, bare, un, hok', r', q⟩ := h
        have q' : v = .bl true := q
        subst q'
        obtain rfl : u = Value.bool true := r'
        refine ⟨rfl, OldK.of_keep fun b o e => ?_, os, bare⟩
        cases q : H b with
        | none => exact un.keep b o e q (by intro z; exact absurd (show b ∈ ([] : List Addr) from z) (by simp)) (by simp)
        | some u =>
          rcases hO b with z | ⟨ob, xs, z⟩
          · rw [q] at z; cases z
          · have z2 := un.frzs b ob _ z
            obtain ⟨e1, _⟩ := hok b _ z
            obtain ⟨e2, _⟩ := hok' b _ z2
            rw [e] at e1; cases e1
            exact e2
  cases hk : K.lookup a with
  | some o =>
    -- the script is one of the module's own objects
    have e := KX a o hk
    rw [ha] at e
    cases e
    refine core (fun _ => none) (fun _ => .inl rfl) (.inr ⟨_, vs.toArray, _, hk, rfl, rfl, rfl, by rw [List.size_toArray, lenV]; exact hl, by simpa using rv⟩) (fun b u z => by have z' : (none : Option HO) = some u := z; cases z') (fun b z => absurd rfl z) fun z => absurd rfl z
  | none =>
    refine core (fun b => if b = a then some (.frz { cls := .type "list", data := .seq vs.toArray } (.lst (ns.map V.int))) else none) (fun b => ?_) (.inl (.inr ⟨{ cls := .type "list", data := .seq vs.toArray }, if_pos rfl⟩)) (fun b u z => ?_) (fun b z => ?_) fun _ => hk
    · by_cases hb : b = a
      · exact .inr ⟨_, _, if_pos hb⟩
      · exact .inl (if_neg hb)
    · by_cases hb : b = a
      · have z' := (if_pos hb).symm.trans z
        cases z'
        subst hb
        exact ⟨ha, by rw [List.length_map]; exact hl, vs, _, rv, ha⟩
      · have z' := (if_neg hb).symm.trans z
        cases z'
    · by_cases hb : b = a
      · exact hb
      · exact absurd (if_neg hb) z
theorem walk_ofBG {l : PySem.W.OpenLaw} {n k : Nat} {q : Program} {loose : List Str} {XP : (Str → Option Value) → Heap → Prop} {YP : World → Heap → Prop} {d : DefRec} {K : Params → PySem.W.Frag} {CX : World → CXT} {sp : World → Sp} {x : Str}
    (hn : l.most = some n) (hn2 : n ≤ sizeLine) (hdf : d.params.defaults = []) (hr : Room k callerA)
    (hY : ∀ (w : World) (h : Heap), YP w h → (K w.params).In h)
    (F : ∀ (w : World) (mg : Str → Option Value) (fa : Addr) (h : Heap), (K w.params).In h → h.Ns mainGlobals mg → mg d.name = some (.ref fa) →
      ∃ fd : FuncData, (∀ (s : Shared) (u : Value), BindsTo s fd ⟨[u], []⟩ [(x, u)]) ∧
        ∀ base : Heap, (K w.params).In base → base.Ns mainGlobals mg → FnG l.prog w (K w.params) mg base (CX w) k fa fd [x] (sp w))
    (hsp : ∀ (w : World) (H : Hp) (a : Addr) (ns : List Int), ns.length ≤ n → (∀ z ∈ ns, Builtin.Int.intBits z ≤ 1048576) → Only H → SqL (K w.params) H a (ns.map V.int) → sp w [.ref a] H (fun v _ => v = .bl true) fun _ _ _ => False)
    (hCX : ∀ (w : World) (H : Hp) (s : Shared) (e : Value) (s' : Shared), CX w [] H s (fun _ _ _ => False) e s' → False) :
    PySem.W.WalkO q loose XP YP l.row.toRowW d [] (fun f vs => PySem.call f vs) := by
  refine Att.attach_callB hn hdf fun w s₀ s₁ mg mb fa o pm cd doc a vs ns G Y ho hd hcd hmg hobj hints hlen hbits hg => ?_
  have KX := hY w _ Y
  obtain ⟨fd, hb, hF⟩ := F w mg fa _ KX G.T.g hmg
  exact law_callG KX G.T.g G.T.b G.T.builtins G.T.nolimit hg hobj hints (Nat.le_trans hlen hn2) hr hF hb (fun H hO hS => hsp w H a ns hlen hbits hO hS) fun H e s' => hCX w H s₁ e s'
end
/-! ### what is never reached -/
section
variable {X : Cx}
theorem ps_no {st : Stmt} : PS X st (fun _ _ _ => False) := ⟨fun _ _ _ _ _ _ h => h.elim⟩
theorem xfc {P : Program} {K : PySem.W.Frag} {C fI : Addr} {st : Stmt} {q : Str} {ps : List Str} {fs : List (Str × Sum Nat Str)} (T : ErrC P K C fI st q ps fs) : XfC K C := ⟨T.ga, T.gg, T.exC, T.hdC⟩
end
theorem for_nil {K : PySem.W.Frag} {a : Addr} {g : TG} {tb : TS} {D : Ends} {σ : L2.St} {H : Hp} (hl : SqL K H a []) (hd : D.nx σ H) :
    ∃ W : Nat → Nat → L2.St → Hp → Prop, (∃ m, W 0 m σ H) ∧ ∀ i m σ H, W i m σ H →
      ((Itl K a).stop i H ∧ D.nx σ H) ∨ ((Itl K a).go i H ∧ ∃ N : L2.St → Hp → Prop, (∀ σ' H', N σ' H' → ∃ m', m' < m ∧ W (i + 1) m' σ' H') ∧ ∀ x H', (Itl K a).yld i H x H' → g x σ H' fun σ2 H2 => tb { D with nx := N, ct := N, bk := D.nx } σ2 H2) :=
  for_list (xs := []) (fun _ σ' H' => σ' = σ ∧ H' = H) ⟨rfl, rfl⟩ (fun i σ' H' _ p => p.2 ▸ hl) (fun i x σ' H' e _ => by simp at e) (fun σ' H' p => by rw [p.1, p.2]; exact hd)
/-! ### o.m(e, .., k = v, ..), with a wish by the slots -/
section
open PySem PySem.Spec PyProof.Rows
variable {X : Cx} {CX : CXT} {k n : Nat} {f C : Addr} {fd : FuncData} {ps ks : List Str} {sp : Sp} {E : L2.St → XK} {m : Str} {pos apos : Pos} {e o : Expr} {es : List Expr} {kws : List Keyword} {ta : TE} {t tk : TA} {g : List Value → List Value → List Value} {gV : List V → List V → List V}
def tMethK (C : Addr) (m : Str) (n j : Nat) (sp : Sp) (gV : List V → List V → List V) (E : L2.St → XK) (to : TE) (ta tk : TA) : TE := fun σ H Q => to σ H fun x H1 => ∃ a dx fs, x = .ref a ∧ H1 a = some (.ins C dx fs) ∧ fs.lookup m = none ∧ ta σ H1 fun vs H2 => tk σ H2 fun zs H3 => vs.length = n ∧ zs.length = j ∧ sp (gV (.ref a :: vs) zs) H3 Q (E σ)
theorem run_kw {pins : List (Addr × Obj)} {σ : L2.St} {H : Hp} {s : Shared} {Q : VK} {us ws : List Value} {vs zs : List V} (F : FnOk X.prog X.w X.K X.mg X.base CX k f fd ps sp) (hr : Room k X.A) (hb : KBn X.K fd ps n ks g gV) (hx : PassesAt CX X σ (E σ))
    (I : Inv X pins σ H s) (r : Vals vs us) (rz : Vals zs ws) (l1 : vs.length = n) (l2 : zs.length = ks.length) (h : sp (gV vs zs) H Q (E σ)) : wpAny (model X.prog X.w) X.A (call (.ref f) us (ks.zip ws)) (EP X pins σ Q) X.xe s := by
  have bt := hb.to s us ws I.kIn (r.length.symm.trans l1) (rz.length.symm.trans l2)
  refine wpAny_call (codeAny_mono (F.run X.A X.stack s H ⟨us, ks.zip ws⟩ (g us ws) (gV vs zs) Q (E σ) hr I.env0 bt (hb.rel r rz) h) fun q s' hq => ?_)
  match q, hq with
  | .error e, hq => exact hx pins H s e s' I hq
  | .ok (.ret u), hq => exact I.after hq
  | .ok .next, hq => exact hq.elim
  | .ok .brk, hq => exact hq.elim
  | .ok .cont, hq => exact hq.elim
theorem pe_methK {pl : Sem Bool} (ho : PE X o ta) (c : Cls X.K C) (hm : Meth X.K C m f) (F : FnOk X.prog X.w X.K X.mg X.base CX k f fd ps sp) (hr : Room k X.A) (hb : KBn X.K fd ps (n + 1) ks g gV) (hx : ∀ σ, PassesAt CX X σ (E σ)) (ha : PA X (e :: es) t) (hkw : PK X kws tk)
    (hall : (backToKw pos (keywordEach kws X.env)).all (·.1.isSome) = true := by rfl) (hks : (backToKw pos (keywordEach kws X.env)).filterMap (·.1) = ks := by rfl)
    (hst : starEach (e :: es) X.env = (false, eval e X.env) :: starEach es X.env := by rfl) (hpl : ((backTo pos (starEach (e :: es) X.env)).any (·.1) || (backToKw pos (keywordEach kws X.env)).any (·.1.isNone)) = false := by rfl)
    (ht : eval (.Call (.Attribute o m apos) (e :: es) kws pos) X.env = (do
      let ov ← eval o X.env
      standAt apos.atName
      let (f, first) ← holding [ov] (getMethod ov m pl)
      callWith pos f first (backTo pos (starEach (e :: es) X.env)) (backToKw pos (keywordEach kws X.env))) := by rfl) :
    PE X (.Call (.Attribute o m apos) (e :: es) kws pos) (tMethK C m n ks.length sp gV E ta t tk) := by
  refine ⟨fun pins s σ H Q I h => ?_⟩
  refine PySem.W.methodCall_KW (pl := pl) (thn (ho.run pins s σ H _ I h) fun u s1 ⟨x, H1, I1, rx, a, dx, fs, ex, ea, l, q⟩ => ?_) ht
  subst ex
  cases (show u = Value.ref a from rx)
  refine getmeth_ok I1 ea c hm l (PySem.W.callWith_KW (first := [.ref a]) (h₀ := X.base) I.ok.mod.kin hm.kp hall (thn (ha.run pos pins s1 σ H1 _ I1 q) fun us s2 ⟨vs, H2, I2, r, q2⟩ => ?_) hpl hst)
  refine thn (hkw.run pos pins s2 σ H2 _ I2 q2) fun ws s3 ⟨zs, H3, I3, rz, l1, l2, q3⟩ => ⟨I3.kIn, ?_⟩
  rw [hks]
  exact run_kw (us := .ref a :: us) (vs := .ref a :: vs) F hr hb (hx σ) I3 (.cons rfl r) rz (congrArg Nat.succ l1) l2 q3
end
/-! ### defs called while an exception is handled: its object stands aside -/
section
open PySem PySem.Spec PyProof.Rows
structure FnP (P : Program) (w : World) (K : PySem.W.Frag) (mg : Str → Option Value) (base : Heap) (CX : CXT) (k : Nat) (f : Addr) (fd : FuncData) (ps : List Str) (sp : Sp) : Prop where
  len : ∀ vs H Q E, sp vs H Q E → vs.length = ps.length
  run : ∀ (A : Around) (outer : List Env) (s : Shared) (H : Hp) (args : Args) (us : List Value) (vs : List V) (Q : VK) (E : XK) (p : Addr × Obj), L2H.RoomH k A → L2H.PinOk outer H s p → Env0 P w K mg base A outer s H → BindsTo s fd args (ps.zip us) → Vals vs us → sp vs H Q E →
    codeAny (model P w) A (.call (.ref f) args) (CR CX outer P w H s Q E) s
theorem fn_ofP {CX : CXT} {P : Program} {w : World} {K : PySem.W.Frag} {mg : Str → Option Value} {base : Heap} {k : Nat} {f : Addr} {name qual : Str} {params : Arguments} {body : List Stmt} {scope : Scope} {dV kV doc pm cdv ct oc : Value} {an od : Option Addr}
    {osl : Array (Option Value)} {N ps : List Str} {sp : Sp} (lk : K.lookup f = some ⟨oc, od, .func (PySem.W.fnOf name qual params body scope dV kV doc pm an cdv ct), osl⟩) (hcd : PySem.W.codeIn K cdv qual = true) (S : FnScope N ps scope)
    (len : ∀ vs H Q E, sp vs H Q E → vs.length = ps.length)
    (hbody : ∀ (A : Around) (outer : List Env) (s : Shared) (H : Hp) (vs : List V) (Q : VK) (E : XK) (p : Addr × Obj), L2H.RoomH k (A.deeper (envOfC qual scope s.heap.objs.size f cdv)) → sp vs H Q E →
      ∃ t, PSs (L2H.cxH CX P w K mg base N qual scope f cdv A outer s H E p) body t ∧ t { nx := fun _ H' => Q .non H', rt := Q } (L2.start N vs) H) :
    FnP P w K mg base CX (k + 1) f (PySem.W.fnOf name qual params body scope dV kV doc pm an cdv ct) ps sp := by
  refine ⟨len, fun A outer s H args us vs Q E p hr hp e0 hb r hsp => ?_⟩
  have kk : ∀ b o, base.get? b = some o → s.heap.get? b = some o := fun b o e => (e0.bs b o e).1
  have KX : K.In s.heap := e0.mod.kin.keeps kk
  have hk2 : ∀ y ∈ ps.zip us, scope.names.lookup y.1 = some .local ∨ (scope.names.lookup y.1 = some .cell ∧ ((cellsFrom (s.heap.objs.size + 1) scope.names []).lookup y.1).isSome = true) := fun y hy =>
    (S.par y.1 (List.of_mem_zip (a := y.1) (b := y.2) hy).1).imp id fun q => ⟨q, PySem.W.cellsFrom_some _ _ _ (.inl q)⟩
  refine codeAny_call_function hr.depth (KX _ _ lk) rfl S.co S.gen rfl (PySem.W.codeRec_of KX hcd) (hb _ _ _ _ (wpAny_newFunctionEnv_cells S.kind hk2 fun env he s1 x => ?_))
  subst he
  refine ⟨(e0.mod.nolimit.keeps kk).keeps x.toInCall.keep, codeAny_func ?_⟩
  obtain ⟨t, ht, hq⟩ := hbody A outer s H vs Q E p (hr.deeper _) hsp
  refine wpAny_mono (ht.run [] s1 _ H _ (L2H.inv_startH S hp e0 (len _ _ _ _ hsp) r x) hq) (fun fl s' hs => ?_) fun e s' hs => hs
  match fl, hs with
  | .ret u, ⟨v, σ', H', J, rv, q⟩ => exact ⟨v, H', J.os, J.bare, J.base, J.hok, rv, q⟩
  | .next, ⟨σ', H', J, q⟩ => exact ⟨.non, H', J.os, J.bare, J.base, J.hok, rfl, q⟩
  | .brk, ⟨_, _, _, q⟩ => exact q.elim
  | .cont, ⟨_, _, _, q⟩ => exact q.elim
theorem okP {P : Program} {w : World} {K : PySem.W.Frag} {mg : Str → Option Value} {base : Heap} {x qual : Str} {st : Stmt} {f : Addr} {fd : FuncData} {N ps : List Str} {k : Nat} {sp : Sp} (F : L2.Fun K x qual st f fd) (S : FnScope N ps (defScope st)) (len : ∀ vs H Q E, sp vs H Q E → vs.length = ps.length)
    (hbody : ∀ (cdv : Value) (A : Around) (outer : List Env) (s : Shared) (H : Hp) (vs : List V) (Q : VK) (E : XK) (p : Addr × Obj), L2H.RoomH k (A.deeper (envOfC qual (defScope st) s.heap.objs.size f cdv)) → sp vs H Q E →
      ∃ t, PSs (L2H.cxH CX0 P w K mg base N qual (defScope st) f cdv A outer s H E p).nox (defBody st) t ∧ t { nx := fun _ H' => Q .non H', rt := Q } (L2.start N vs) H) : FnP P w K mg base CX0 (k + 1) f fd ps sp := by
  obtain ⟨oc, od, kV, doc, pm, an, cdv, ct, osl, rfl, lk, hcd⟩ := F.ex
  refine fn_ofP lk hcd S len fun A outer s H vs Q E p hr hsp => ?_
  obtain ⟨t, h, q⟩ := hbody cdv A outer s H vs Q E p hr hsp
  exact ⟨t, h.nox, q⟩
section
variable {X : Cx} {CX : CXT} {k : Nat} {C p g a dx : Addr} {fs : List (Str × V)} {f : Str} {fd : FuncData} {ps : List Str} {sp : Sp} {dvs : List V} {ds : List Value} {E : XK} {e : Expr} {pos : Pos} {ta : TE}
/-- the exception that is handled stands aside here -/
def Aside (X : Cx) : Prop := ∃ q : Addr × Obj, q ∈ X.pn
theorem Aside.pin {pins : List (Addr × Obj)} {σ : L2.St} {H : Hp} {s : Shared} (h : Aside X) (I : Inv X pins σ H s) : ∃ q, L2H.PinOk X.stack H s q := by
  obtain ⟨q, hq⟩ := h
  obtain ⟨p1, p2, p3, p4, p5⟩ := I.pin q (List.mem_append_left _ hq)
  exact ⟨q, p1, p2, fun hm => (List.mem_cons.mp (I.stkSub q.1 hm)).elim p3 p4, p5⟩
/-- e.f, a property, there -/
theorem pe_propP (he : PE X e ta) (c : Cls X.K C) (hp : PropOf X.K C f p g) (F : FnP X.prog X.w X.K X.mg X.base CX0 k g fd ps sp) (hr : L2H.RoomH (k + 1) X.A) (hs : Aside X) (hb : Binds X.K fd ps ds) (hd : Vals dvs ds)
    (hab : attributeBase e f X.env (eval e X.env) = eval e X.env) : PE X (.Attribute e f pos) (tProp C sp dvs E0 ta) := by
  refine ⟨fun pins s σ H Q I h => ?_⟩
  refine attr_of hab (thn (he.run pins s σ H _ I h) fun u s1 ⟨x, H1, I1, rx, a, dx, fs, ex, ea, q⟩ => ?_)
  subst ex
  cases (show u = Value.ref a from rx)
  obtain ⟨mA, O, _, _, _, _⟩ := ins_get I1.hok ea
  obtain ⟨od, J, _⟩ := O.look
  obtain ⟨rest, hrec⟩ := hp.rec_
  have I2 := I1.tok (s1.toks + 1)
  obtain ⟨pq, hpq⟩ := hs.pin I2
  have hl : ([Value.ref a] ++ ds).length = ps.length := by
    have l1 := F.len _ _ _ _ q
    have l2 := hd.length
    simp only [List.length_append, List.length_cons, List.length_nil] at l1 ⊢
    omega
  have hc : (PySem.W.clsIn X.K C).isSome = true := by
    obtain ⟨cd, hc, _⟩ := PySem.W.any_some c.hd
    rw [hc]; rfl
  have pg := PySem.W.plainGet_of (c.get f)
  refine PySem.W.get_bind I1.kIn J pg.1 (PySem.W.findObj_data hc hp.at_ hp.get hp.tak) pg.2 (wpAny_call (PySem.W.prop_get (s := { s1 with toks := s1.toks + 1 }) I1.kIn hrec ?_))
  refine codeAny_mono (F.run X.A.in1 X.stack { s1 with toks := s1.toks + 1 } H1 ⟨[.ref a], []⟩ (.ref a :: ds) (.ref a :: dvs) Q _ pq ⟨by have := hr.dp; show X.A.depth + 3 * k + 5 < _; omega, by have := hr.un; show X.A.units + 1 + 16 * k + 200 < _; omega⟩ hpq I2.env0.in1 (hb _ [.ref a] I2.kIn hl) (.cons rfl hd) q) fun r s' hq => ?_
  match r, hq with
  | .error er, hq => exact hq.elim
  | .ok (.ret u), hq =>
    obtain ⟨v, H', I3, rv, q3⟩ := I2.after hq
    show wpAny _ _ (handedOut u) _ _ _
    rw [PySem.W.handedOut_of (handed_of rv)]
    exact wpAny_pure ⟨v, H', I3, rv, q3⟩
  | .ok .next, hq => exact hq.elim
  | .ok .brk, hq => exact hq.elim
  | .ok .cont, hq => exact hq.elim
end
end
/-! ### lists, the last item first -/
def rv {α : Type} (f : α → V) (l : List α) : List V := (l.map f).reverse
section
variable {α : Type} {f : α → V} {x y : α} {l : List α}
theorem rv_cons : rv f (x :: l) = rv f l ++ [f x] := by simp [rv]
theorem rv_len : (rv f l).length = l.length := by simp [rv]
theorem rv_at : atI (rv f (x :: l)) (-1) = some (f x) := by
  unfold atI ixN
  rw [rv_cons]
  have h1 : ¬ (0 : Int) ≤ -1 := by omega
  have h2 : -((rv f l ++ [f x]).length : Int) ≤ -1 := by rw [List.length_append]; simp; omega
  have h3 : ((-1 : Int) + ((rv f l ++ [f x]).length : Int)).toNat = (rv f l).length := by rw [List.length_append, List.length_singleton]; omega
  simp only [h1, if_false, h2, if_true, Option.bind_some, h3]
  rw [List.getElem?_append_right (Nat.le_refl _), Nat.sub_self]; rfl
theorem rv_ix : ixN (rv f (x :: l)).length (-1) = some l.length := by
  unfold ixN
  rw [rv_len]
  have h1 : ¬ (0 : Int) ≤ -1 := by omega
  have h2 : -((x :: l).length : Int) ≤ -1 := by rw [List.length_cons]; omega
  have h3 : ((-1 : Int) + ((x :: l).length : Int)).toNat = l.length := by rw [List.length_cons]; omega
  simp only [h1, if_false, h2, if_true, h3]
theorem rv_set : (rv f (x :: l)).set l.length (f y) = rv f (y :: l) := by
  rw [rv_cons, rv_cons, ← rv_len (f := f) (l := l), List.set_append_right _ _ (Nat.le_refl _), Nat.sub_self]; rfl
theorem rv_pop : (rv f (x :: l))[(rv f (x :: l)).length - 1]? = some (f x) := by
  rw [rv_len, rv_cons, List.length_cons, Nat.add_sub_cancel, ← rv_len (f := f) (l := l), List.getElem?_append_right (Nat.le_refl _), Nat.sub_self]; rfl
theorem rv_drop : (rv f (x :: l)).dropLast = rv f l := by
  rw [rv_cons, List.dropLast_concat]
end
inductive All2 {α β : Type} (R : α → β → Prop) : List α → List β → Prop
  | nil : All2 R [] []
  | cons {x y l m} : R x y → All2 R l m → All2 R (x :: l) (y :: m)
theorem All2.imp {α β : Type} {R S : α → β → Prop} {l : List α} {m : List β} (a : All2 R l m) (h : ∀ x y, x ∈ l → R x y → S x y) : All2 S l m := by
  induction a with
  | nil => exact .nil
  | cons r _ ih => exact .cons (h _ _ List.mem_cons_self r) (ih fun x y hx => h x y (List.mem_cons_of_mem _ hx))
theorem All2.mem {α β : Type} {R : α → β → Prop} {l : List α} {m : List β} (a : All2 R l m) {x : α} (h : x ∈ l) : ∃ y, y ∈ m ∧ R x y := by
  induction a with
  | nil => cases h
  | cons r _ ih =>
    rcases List.mem_cons.mp h with rfl | h
    · exact ⟨_, List.mem_cons_self, r⟩
    · obtain ⟨y, h1, h2⟩ := ih h
      exact ⟨y, List.mem_cons_of_mem _ h1, h2⟩
theorem All2.len {α β : Type} {R : α → β → Prop} {l : List α} {m : List β} (a : All2 R l m) : l.length = m.length := by
  induction a with
  | nil => rfl
  | cons _ _ ih => rw [List.length_cons, List.length_cons, ih]
/-! ### a database: its state, where it lies -/
structure Tx where
  num : Int
  rs : List (Option Str)
structure Row where
  rcd : Str
  val : V
  fate : Str
  holder : Int
  level : Int
structure Db where
  rows : List Row
  stack : List (Option Tx)
  entered : List Str
  floor : Int
  opened : Int
structure TxL where
  t : Addr
  dt : Addr
  q : Addr
structure Lay where
  db : Addr
  dx : Addr
  r : Addr
  s : Addr
  e : Addr
  ws : List (Addr × Addr)
  ts : List (Option TxL)
def oV : Option Str → V
  | none => .non
  | some z => .str z
def tV : Option TxL → V
  | none => .non
  | some t => .ref t.t
abbrev dbF (r s e : Addr) (f o : Int) : List (Str × V) := [("rows", .ref r), ("stack", .ref s), ("entered", .ref e), ("floor", .int f), ("opened", .int o)]
abbrev txF (n : Int) (q : Addr) : List (Str × V) := [("number", .int n), ("reasons", .ref q)]
abbrev rwF (w : Row) : List (Str × V) := [("record", .str w.rcd), ("value", w.val), ("fate", .str w.fate), ("holder", .int w.holder), ("level", .int w.level)]
def TxAt (aT : Addr) (H : Hp) : Option TxL → Option Tx → Prop
  | none, none => True
  | some t, some x => H t.t = some (.ins aT t.dt (txF x.num t.q)) ∧ H t.q = some (.lst (rv oV x.rs)) ∧ x.rs ≠ []
  | _, _ => False
def RowAt (aW : Addr) (H : Hp) (w : Addr × Addr) (x : Row) : Prop := H w.1 = some (.ins aW w.2 (rwF x))
structure DbAt (aD aT aW : Addr) (H : Hp) (L : Lay) (D : Db) : Prop where
  db : H L.db = some (.ins aD L.dx (dbF L.r L.s L.e D.floor D.opened))
  r : H L.r = some (.lst (L.ws.map fun w => .ref w.1))
  s : H L.s = some (.lst (rv tV L.ts))
  e : H L.e = some (.lst (rv V.str D.entered))
  rows : All2 (RowAt aW H) L.ws D.rows
  txs : All2 (TxAt aT H) L.ts D.stack
  rs : L.r ≠ L.s
  re : L.r ≠ L.e
  se : L.s ≠ L.e
  qn : ∀ t, some t ∈ L.ts → t.q ≠ L.r ∧ t.q ≠ L.s ∧ t.q ≠ L.e
  qd : L.ts.Pairwise fun x y => ∀ t u, x = some t → y = some u → t.q ≠ u.q
  wd : L.ws.Pairwise fun x y => x.1 ≠ y.1
  ne : D.stack ≠ []
/-- what may change -/
def Mut (L : Lay) (b : Addr) : Prop := b = L.db ∨ b = L.r ∨ b = L.s ∨ b = L.e ∨ (∃ t, some t ∈ L.ts ∧ b = t.q) ∨ ∃ w, w ∈ L.ws ∧ b = w.1
/-- all of it -/
def Foot (L : Lay) (b : Addr) : Prop := Mut L b ∨ ∃ t, some t ∈ L.ts ∧ b = t.t
structure Fr (H H' : Hp) (L L' : Lay) : Prop where
  kp : Kp (Mut L) H H'
  mt : ∀ b, Mut L' b → Mut L b ∨ H b = none
  db : L'.db = L.db
theorem Fr.refl {H : Hp} {L : Lay} : Fr H H L L := ⟨Kp.refl, fun _ h => .inl h, rfl⟩
theorem Fr.trans {H H1 H2 : Hp} {L L1 L2 : Lay} (a : Fr H H1 L L1) (b : Fr H1 H2 L1 L2) : Fr H H2 L L2 := by
  refine ⟨fun c u h n => ?_, fun c h => ?_, b.db.trans a.db⟩
  · refine b.kp c u (a.kp c u h n) fun z => ?_
    rcases a.mt c z with z | z
    · exact n z
    · rw [z] at h; cases h
  · rcases b.mt c h with z | z
    · exact a.mt c z
    · cases e : H c with
      | none => exact .inr rfl
      | some u =>
        by_cases hm : Mut L c
        · exact .inl hm
        · rw [a.kp c u e hm] at z; cases z
theorem Fr.of_kp {H H' : Hp} {L : Lay} (k : Kp (Mut L) H H') : Fr H H' L L := ⟨k, fun _ h => .inl h, rfl⟩
theorem Fr.new {H H' : Hp} {L L' : Lay} {p : Addr} {o : HO} (a : Fr H H' L L') (h : H' p = none) : Fr H (upd H' p o) L L' := ⟨a.kp.new h, a.mt, a.db⟩
/-- q is none of what may change -/
theorem Fr.out {H H' : Hp} {L L' : Lay} {b : Addr} {u : HO} (a : Fr H H' L L') (h : H b = some u) (n : ¬ Mut L b) : ¬ Mut L' b := fun z => by
  rcases a.mt b z with z | z
  · exact n z
  · rw [h] at z; cases z
section
variable {aD aT aW : Addr} {H H' : Hp} {L : Lay} {D : Db}
theorem TxAt.keep {x : Option TxL} {y : Option Tx} (h : TxAt aT H x y) (k : ∀ t, x = some t → (∀ u, H t.t = some u → H' t.t = some u) ∧ ∀ u, H t.q = some u → H' t.q = some u) : TxAt aT H' x y := by
  cases x with
  | none => cases y with
    | none => trivial
    | some y => exact h
  | some t => cases y with
    | none => exact h
    | some y =>
      obtain ⟨h1, h2, h3⟩ := h
      obtain ⟨k1, k2⟩ := k t rfl
      exact ⟨k1 _ h1, k2 _ h2, h3⟩
theorem DbAt.keep (h : DbAt aD aT aW H L D) (k : ∀ b u, Foot L b → H b = some u → H' b = some u) : DbAt aD aT aW H' L D := by
  refine ⟨k _ _ (.inl (.inl rfl)) h.db, k _ _ (.inl (.inr (.inl rfl))) h.r, k _ _ (.inl (.inr (.inr (.inl rfl)))) h.s, k _ _ (.inl (.inr (.inr (.inr (.inl rfl))))) h.e, ?_, ?_, h.rs, h.re, h.se, h.qn, h.qd, h.wd, h.ne⟩
  · exact h.rows.imp fun w x hw hx => k _ _ (.inl (.inr (.inr (.inr (.inr (.inr ⟨w, hw, rfl⟩)))))) hx
  · refine h.txs.imp fun x y hx hy => hy.keep fun t et => ?_
    subst et
    exact ⟨fun u => k _ u (.inr ⟨t, hx, rfl⟩), fun u => k _ u (.inl (.inr (.inr (.inr (.inr (.inl ⟨t, hx, rfl⟩))))))⟩
theorem DbAt.new {p : Addr} {o : HO} (h : DbAt aD aT aW H L D) (hp : H p = none) : DbAt aD aT aW (upd H p o) L D := h.keep fun b u _ e => upd_old e hp
theorem DbAt.tx (h : DbAt aD aT aW H L D) {t : TxL} (m : some t ∈ L.ts) : ∃ x : Tx, H t.t = some (.ins aT t.dt (txF x.num t.q)) ∧ H t.q = some (.lst (rv oV x.rs)) ∧ x.rs ≠ [] := by
  obtain ⟨y, _, hy⟩ := h.txs.mem m
  cases y with
  | none => exact hy.elim
  | some x => exact ⟨x, hy⟩
theorem DbAt.row (h : DbAt aD aT aW H L D) {w : Addr × Addr} (m : w ∈ L.ws) : ∃ x : Row, H w.1 = some (.ins aW w.2 (rwF x)) := by
  obtain ⟨y, _, hy⟩ := h.rows.mem m
  exact ⟨y, hy⟩
/-- what may change, is there -/
theorem DbAt.mut (h : DbAt aD aT aW H L D) {b : Addr} (m : Mut L b) : ∃ u, H b = some u := by
  rcases m with rfl | rfl | rfl | rfl | ⟨t, m, rfl⟩ | ⟨w, m, rfl⟩
  · exact ⟨_, h.db⟩
  · exact ⟨_, h.r⟩
  · exact ⟨_, h.s⟩
  · exact ⟨_, h.e⟩
  · obtain ⟨x, _, h2, _⟩ := h.tx m
    exact ⟨_, h2⟩
  · obtain ⟨x, h1⟩ := h.row m
    exact ⟨_, h1⟩
theorem DbAt.fresh (h : DbAt aD aT aW H L D) {b : Addr} (e : H b = none) : ¬ Mut L b := fun z => by
  obtain ⟨u, e2⟩ := h.mut z
  rw [e] at e2; cases e2
/-- a list that is none of its own changes -/
theorem DbAt.oth {p : Addr} {o : HO} {xs : List V} (h : DbAt aD aT aW H L D) (hp : H p = some (.lst xs)) (n : ¬ Mut L p) : DbAt aD aT aW (upd H p o) L D := h.keep fun b u f e => by
  refine upd_oth (fun z => ?_) e
  subst z
  rcases f with f | ⟨t, m, rfl⟩
  · exact n f
  · obtain ⟨x, h1, _⟩ := h.tx m
    rw [hp] at h1; cases h1
theorem DbAt.mutE : Mut L L.e := .inr (.inr (.inr (.inl rfl)))
theorem DbAt.mutS : Mut L L.s := .inr (.inr (.inl rfl))
theorem DbAt.mutD : Mut L L.db := .inl rfl
theorem DbAt.mutQ {t : TxL} (h : some t ∈ L.ts) : Mut L t.q := .inr (.inr (.inr (.inr (.inl ⟨t, h, rfl⟩))))
theorem ins_ne {b p C dx : Addr} {fs : List (Str × V)} {xs : List V} (h1 : H b = some (.ins C dx fs)) (h2 : H p = some (.lst xs)) : b ≠ p := fun z => by
  rw [z, h2] at h1; cases h1
theorem DbAt.rowsQ {p : Addr} {o : HO} {xs : List V} (h : DbAt aD aT aW H L D) (hp : H p = some (.lst xs)) : All2 (RowAt aW (upd H p o)) L.ws D.rows :=
  h.rows.imp fun w x hw hx => upd_oth (ins_ne hx hp) hx
theorem DbAt.txsQ {p : Addr} {o : HO} {xs : List V} (h : DbAt aD aT aW H L D) (hp : H p = some (.lst xs)) (n : ∀ t, some t ∈ L.ts → t.q ≠ p) : All2 (TxAt aT (upd H p o)) L.ts D.stack :=
  h.txs.imp fun x y hx hy => hy.keep fun t et => by
    subst et
    obtain ⟨z, h1, _⟩ := h.tx hx
    exact ⟨fun u e => upd_oth (ins_ne h1 hp) e, fun u e => upd_oth (n t hx) e⟩
theorem DbAt.setE (h : DbAt aD aT aW H L D) (es : List Str) : DbAt aD aT aW (upd H L.e (.lst (rv V.str es))) L { D with entered := es } :=
  ⟨upd_oth (ins_ne h.db h.e) h.db, upd_oth h.re h.r, upd_oth h.se h.s, upd_same, h.rowsQ h.e, h.txsQ h.e fun t m => (h.qn t m).2.2, h.rs, h.re, h.se, h.qn, h.qd, h.wd, h.ne⟩
theorem DbAt.setS (h : DbAt aD aT aW H L D) {ts : List (Option TxL)} {st : List (Option Tx)} (a : All2 (TxAt aT (upd H L.s (.lst (rv tV ts)))) ts st) (qn : ∀ t, some t ∈ ts → t.q ≠ L.r ∧ t.q ≠ L.s ∧ t.q ≠ L.e) (qd : ts.Pairwise fun x y => ∀ t u, x = some t → y = some u → t.q ≠ u.q) (ne : st ≠ []) :
    DbAt aD aT aW (upd H L.s (.lst (rv tV ts))) { L with ts := ts } { D with stack := st } :=
  ⟨upd_oth (ins_ne h.db h.s) h.db, upd_oth h.rs h.r, upd_same, upd_oth (Ne.symm h.se) h.e, h.rowsQ h.s, a, h.rs, h.re, h.se, qn, qd, h.wd, ne⟩
theorem DbAt.pushN (h : DbAt aD aT aW H L D) : DbAt aD aT aW (upd H L.s (.lst (rv tV (none :: L.ts)))) { L with ts := none :: L.ts } { D with stack := none :: D.stack } := by
  refine h.setS (.cons trivial (h.txsQ h.s fun t m => (h.qn t m).2.1)) (fun t m => ?_) ?_ (by simp)
  · rcases List.mem_cons.mp m with m | m
    · cases m
    · exact h.qn t m
  · exact List.pairwise_cons.mpr ⟨fun y _ t u e => (by cases e), h.qd⟩
theorem DbAt.pushT (h : DbAt aD aT aW H L D) {t : TxL} {n : Int} {rs : List (Option Str)} (h1 : H t.t = some (.ins aT t.dt (txF n t.q))) (h2 : H t.q = some (.lst (rv oV rs))) (hr : rs ≠ []) (hn : ¬ Mut L t.q) :
    DbAt aD aT aW (upd H L.s (.lst (rv tV (some t :: L.ts)))) { L with ts := some t :: L.ts } { D with stack := some ⟨n, rs⟩ :: D.stack } := by
  have ns : t.q ≠ L.s := fun z => hn (z ▸ DbAt.mutS)
  refine h.setS (.cons ⟨upd_oth (ins_ne h1 h.s) h1, upd_oth ns h2, hr⟩ (h.txsQ h.s fun t m => (h.qn t m).2.1)) (fun u m => ?_) ?_ (by simp)
  · rcases List.mem_cons.mp m with m | m
    · cases m
      exact ⟨fun z => hn (.inr (.inl z)), ns, fun z => hn (z ▸ DbAt.mutE)⟩
    · exact h.qn u m
  · refine List.pairwise_cons.mpr ⟨fun y hy u v e1 e2 z => ?_, h.qd⟩
    cases e1
    subst e2
    exact hn (z ▸ DbAt.mutQ hy)
theorem DbAt.popS {t : Option TxL} {ts : List (Option TxL)} {x : Option Tx} {st : List (Option Tx)} (h : DbAt aD aT aW H L D) (et : L.ts = t :: ts) (es : D.stack = x :: st) (ne : st ≠ []) :
    DbAt aD aT aW (upd H L.s (.lst (rv tV ts))) { L with ts := ts } { D with stack := st } := by
  have a : All2 (TxAt aT (upd H L.s (.lst (rv tV ts)))) (t :: ts) (x :: st) := by
    have := h.txsQ (o := .lst (rv tV ts)) h.s fun t m => (h.qn t m).2.1
    rw [et, es] at this; exact this
  cases a with
  | cons _ a =>
    refine h.setS a (fun u m => h.qn u (by rw [et]; exact List.mem_cons_of_mem _ m)) ?_ ne
    have := h.qd
    rw [et] at this
    exact (List.pairwise_cons.mp this).2
theorem DbAt.setD (h : DbAt aD aT aW H L D) (f o : Int) : DbAt aD aT aW (upd H L.db (.ins aD L.dx (dbF L.r L.s L.e f o))) L { D with floor := f, opened := o } := by
  refine ⟨upd_same, upd_oth (Ne.symm (ins_ne h.db h.r)) h.r, upd_oth (Ne.symm (ins_ne h.db h.s)) h.s, upd_oth (Ne.symm (ins_ne h.db h.e)) h.e, ?_, ?_, h.rs, h.re, h.se, h.qn, h.qd, h.wd, h.ne⟩
  · refine h.rows.imp fun w x hw hx => upd_oth (fun z => ?_) hx
    unfold RowAt at hx
    rw [z, h.db] at hx
    injection hx with hx
    injection hx with _ _ hx
    exact absurd (congrArg Prod.fst (List.cons.inj hx).1) (show ¬ (("rows" : Str) = "record") by decide +kernel)
  · refine h.txs.imp fun x y hx hy => hy.keep fun t et => ?_
    subst et
    obtain ⟨z, h1, h2, _⟩ := h.tx hx
    refine ⟨fun u e => upd_oth (fun z => ?_) e, fun u e => upd_oth (Ne.symm (ins_ne h.db h2)) e⟩
    rw [z, h.db] at h1
    injection h1 with h1
    injection h1 with _ _ h1
    exact absurd (congrArg List.length h1) (by simp)
theorem DbAt.setQ {t : TxL} {ts : List (Option TxL)} {x : Tx} {st : List (Option Tx)} {rs : List (Option Str)} (h : DbAt aD aT aW H L D) (et : L.ts = some t :: ts) (es : D.stack = some x :: st) (hr : rs ≠ []) :
    DbAt aD aT aW (upd H t.q (.lst (rv oV rs))) L { D with stack := some ⟨x.num, rs⟩ :: st } := by
  have mt : some t ∈ L.ts := by rw [et]; exact List.mem_cons_self
  have a := h.txs
  rw [et, es] at a
  cases a with
  | cons a0 a =>
    obtain ⟨h1, h2, h3⟩ := a0
    obtain ⟨n1, n2, n3⟩ := h.qn t mt
    have qd := h.qd
    rw [et] at qd
    obtain ⟨qd1, _⟩ := List.pairwise_cons.mp qd
    refine ⟨upd_oth (ins_ne h.db h2) h.db, upd_oth (Ne.symm n1) h.r, upd_oth (Ne.symm n2) h.s, upd_oth (Ne.symm n3) h.e, h.rowsQ h2, ?_, h.rs, h.re, h.se, h.qn, h.qd, h.wd, by simp⟩
    rw [et]
    refine .cons ⟨upd_oth (ins_ne h1 h2) h1, upd_same, hr⟩ (a.imp fun z y hz hy => hy.keep fun u eu => ?_)
    subst eu
    obtain ⟨z, k1, _⟩ := h.tx (t := u) (by rw [et]; exact List.mem_cons_of_mem _ hz)
    exact ⟨fun o e => upd_oth (ins_ne k1 h2) e, fun o e => upd_oth (fun z => qd1 _ hz t u rfl rfl z.symm) e⟩
theorem Fr.set {b : Addr} {o : HO} (m : Mut L b) : Fr H (upd H b o) L L := .of_kp (Kp.refl.set m)
theorem Mut.ts {ts : List (Option TxL)} {b : Addr} (h : Mut { L with ts := ts } b) (k : ∀ t, some t ∈ ts → b = t.q → Mut L b ∨ H b = none) : Mut L b ∨ H b = none := by
  rcases h with h | h | h | h | ⟨t, m, h⟩ | h
  · exact .inl (.inl h)
  · exact .inl (.inr (.inl h))
  · exact .inl (.inr (.inr (.inl h)))
  · exact .inl (.inr (.inr (.inr (.inl h))))
  · exact k t m h
  · exact .inl (.inr (.inr (.inr (.inr (.inr h)))))
theorem Fr.pushT {t : TxL} {o : HO} (k : Kp (Mut L) H H') (hq : H t.q = none) : Fr H (upd H' L.s o) L { L with ts := some t :: L.ts } := by
  refine ⟨k.set DbAt.mutS, fun b hb => hb.ts fun u m e => ?_, rfl⟩
  rcases List.mem_cons.mp m with m | m
  · cases m
    exact .inr (e ▸ hq)
  · exact .inl (e ▸ DbAt.mutQ m)
theorem Fr.pushN {o : HO} : Fr H (upd H L.s o) L { L with ts := none :: L.ts } := by
  refine ⟨Kp.refl.set DbAt.mutS, fun b hb => hb.ts fun u m e => ?_, rfl⟩
  rcases List.mem_cons.mp m with m | m
  · cases m
  · exact .inl (e ▸ DbAt.mutQ m)
theorem Fr.popS {t : Option TxL} {ts : List (Option TxL)} {o : HO} (et : L.ts = t :: ts) : Fr H (upd H L.s o) L { L with ts := ts } := by
  refine ⟨Kp.refl.set DbAt.mutS, fun b hb => hb.ts fun u m e => ?_, rfl⟩
  exact .inl (e ▸ DbAt.mutQ (by rw [et]; exact List.mem_cons_of_mem _ m))
theorem Fr.same (k : Same H H') : Fr H H' L L := .of_kp (.of_same k)
/-- the top: None or a transaction -/
theorem DbAt.top (h : DbAt aD aT aW H L D) : (∃ ts st, L.ts = none :: ts ∧ D.stack = none :: st) ∨
    ∃ t ts x st y rs, L.ts = some t :: ts ∧ D.stack = some x :: st ∧ x.rs = y :: rs ∧ H t.t = some (.ins aT t.dt (txF x.num t.q)) ∧ H t.q = some (.lst (rv oV (y :: rs))) := by
  have a := h.txs
  have n := h.ne
  generalize L.ts = ts0 at a
  generalize D.stack = st0 at a n
  cases a with
  | nil => exact absurd rfl n
  | @cons x y l m r a =>
    cases x with
    | none => cases y with
      | none => exact .inl ⟨_, _, rfl, rfl⟩
      | some y => exact r.elim
    | some t => cases y with
      | none => exact r.elim
      | some x =>
        obtain ⟨r1, r2, r3⟩ := r
        obtain ⟨num, rs⟩ := x
        cases rs with
        | nil => exact absurd rfl r3
        | cons y rs => exact .inr ⟨t, _, ⟨num, y :: rs⟩, _, y, rs, rfl, rfl, rfl, r1, r2⟩
end
abbrev s_Mode_is_mode : Stmt := inClass (top 14) 9
theorem sc_Mode_is_mode : FnScope ["thing"] ["thing"] (defScope s_Mode_is_mode) := ⟨rfl, rfl, rfl, by decide +kernel, rfl, by decide +kernel, by decide +kernel⟩
abbrev s_is_word : Stmt := top 13
theorem sc_is_word : FnScope ["thing", "letter"] ["thing"] (defScope s_is_word) := ⟨rfl, rfl, rfl, by decide +kernel, rfl, by decide +kernel, by decide +kernel⟩
abbrev s_MissingU_initU : Stmt := inClass (top 8) 0
abbrev s_PresentU_initU : Stmt := inClass (top 9) 0
abbrev s_DoomedU_initU : Stmt := inClass (top 7) 0
abbrev s_RefusedU_initU : Stmt := inClass (top 10) 0
abbrev s_NoBlockU_initU : Stmt := inClass (top 5) 0
abbrev s_TransactionU_initU : Stmt := inClass (top 17) 0
theorem sc_TransactionU_initU : FnScope ["self", "number"] ["self", "number"] (defScope s_TransactionU_initU) := ⟨rfl, rfl, rfl, by decide +kernel, rfl, by decide +kernel, by decide +kernel⟩
abbrev s_DatabaseU_initU : Stmt := inClass (top 18) 0
theorem sc_DatabaseU_initU : FnScope ["self"] ["self"] (defScope s_DatabaseU_initU) := ⟨rfl, rfl, rfl, by decide +kernel, rfl, by decide +kernel, by decide +kernel⟩
abbrev s_Database_begin : Stmt := inClass (top 18) 9
theorem sc_Database_begin : FnScope ["self"] ["self"] (defScope s_Database_begin) := ⟨rfl, rfl, rfl, by decide +kernel, rfl, by decide +kernel, by decide +kernel⟩
abbrev s_Database_enter_alone : Stmt := inClass (top 18) 7
theorem sc_Database_enter_alone : FnScope ["self", "mode"] ["self", "mode"] (defScope s_Database_enter_alone) := ⟨rfl, rfl, rfl, by decide +kernel, rfl, by decide +kernel, by decide +kernel⟩
abbrev s_Database_enter_inside : Stmt := inClass (top 18) 8
theorem sc_Database_enter_inside : FnScope ["self", "mode", "present"] ["self", "mode", "present"] (defScope s_Database_enter_inside) := ⟨rfl, rfl, rfl, by decide +kernel, rfl, by decide +kernel, by decide +kernel⟩
abbrev s_Database_enter : Stmt := inClass (top 18) 6
theorem sc_Database_enter : FnScope ["self", "mode"] ["self", "mode"] (defScope s_Database_enter) := ⟨rfl, rfl, rfl, by decide +kernel, rfl, by decide +kernel, by decide +kernel⟩
abbrev s_Database_end_level : Stmt := inClass (top 18) 11
theorem sc_Database_end_level : FnScope ["self", "error", "present", "reason", "top", "row"] ["self", "error"] (defScope s_Database_end_level) := ⟨rfl, rfl, rfl, by decide +kernel, rfl, by decide +kernel, by decide +kernel⟩
abbrev s_Database_end_transaction : Stmt := inClass (top 18) 12
theorem sc_Database_end_transaction : FnScope ["self", "error", "commits", "present", "reason", "fate", "row"] ["self", "error", "commits"] (defScope s_Database_end_transaction) := ⟨rfl, rfl, rfl, by decide +kernel, rfl, by decide +kernel, by decide +kernel⟩
abbrev s_Database_leave : Stmt := inClass (top 18) 10
theorem sc_Database_leave : FnScope ["self", "error", "commits", "sort"] ["self", "error", "commits"] (defScope s_Database_leave) := ⟨rfl, rfl, rfl, by decide +kernel, rfl, by decide +kernel, by decide +kernel⟩
abbrev s_Database_doom : Stmt := inClass (top 18) 20
theorem sc_Database_doom : FnScope ["self", "first", "present"] ["self", "first"] (defScope s_Database_doom) := ⟨rfl, rfl, rfl, by decide +kernel, rfl, by decide +kernel, by decide +kernel⟩
abbrev s_Database_is_open : Stmt := inClass (top 18) 1
theorem sc_Database_is_open : FnScope ["self"] ["self"] (defScope s_Database_is_open) := ⟨rfl, rfl, rfl, by decide +kernel, rfl, by decide +kernel, by decide +kernel⟩
abbrev s_Database_is_doomed : Stmt := inClass (top 18) 2
theorem sc_Database_is_doomed : FnScope ["self"] ["self"] (defScope s_Database_is_doomed) := ⟨rfl, rfl, rfl, by decide +kernel, rfl, by decide +kernel, by decide +kernel⟩
abbrev s_Database_reason : Stmt := inClass (top 18) 3
theorem sc_Database_reason : FnScope ["self"] ["self"] (defScope s_Database_reason) := ⟨rfl, rfl, rfl, by decide +kernel, rfl, by decide +kernel, by decide +kernel⟩
abbrev s_Database_levels : Stmt := inClass (top 18) 4
theorem sc_Database_levels : FnScope ["self"] ["self"] (defScope s_Database_levels) := ⟨rfl, rfl, rfl, by decide +kernel, rfl, by decide +kernel, by decide +kernel⟩
abbrev s_Database_depth : Stmt := inClass (top 18) 5
theorem sc_Database_depth : FnScope ["self"] ["self"] (defScope s_Database_depth) := ⟨rfl, rfl, rfl, by decide +kernel, rfl, by decide +kernel, by decide +kernel⟩
abbrev s_law_pool : Stmt := top 20
theorem sc_law_pool : FnScope ["_law_script", "_law_at", "_law_cell", "_law_size", "_law_seed"] ["_law_script", "_law_at"] (defScope s_law_pool) := ⟨rfl, rfl, rfl, by decide +kernel, rfl, by decide +kernel, by decide +kernel⟩
abbrev s_law_draw : Stmt := top 21
theorem sc_law_draw : FnScope ["_law_pool_here", "_law_many", "_law_digit", "_law_count", "_law_mixed"] ["_law_pool_here", "_law_many"] (defScope s_law_draw) := ⟨rfl, rfl, rfl, by decide +kernel, rfl, by decide +kernel, by decide +kernel⟩
abbrev s_law_word : Stmt := top 22
theorem sc_law_word : FnScope ["_law_pool_here", "_law_letters", "_law_k"] ["_law_pool_here"] (defScope s_law_word) := ⟨rfl, rfl, rfl, by decide +kernel, rfl, by decide +kernel, by decide +kernel⟩
abbrev s_law_sort : Stmt := top 23
theorem sc_law_sort : FnScope ["_law_stack", "_law_mode"] ["_law_stack", "_law_mode"] (defScope s_law_sort) := ⟨rfl, rfl, rfl, by decide +kernel, rfl, by decide +kernel, by decide +kernel⟩
abbrev s_law_enter : Stmt := top 24
theorem sc_law_enter : FnScope ["_law_db", "_law_mode", "e"] ["_law_db", "_law_mode"] (defScope s_law_enter) := ⟨rfl, rfl, rfl, by decide +kernel, rfl, by decide +kernel, by decide +kernel⟩
abbrev s_law_leave : Stmt := top 25
theorem sc_law_leave : FnScope ["_law_db", "_law_error", "_law_goes", "_law_told", "e"] ["_law_db", "_law_error", "_law_goes"] (defScope s_law_leave) := ⟨rfl, rfl, rfl, by decide +kernel, rfl, by decide +kernel, by decide +kernel⟩
abbrev s_law_left : Stmt := top 26
theorem sc_law_left : FnScope ["_law_stack", "_law_sorts", "_law_error", "_law_goes", "_law_sort_here", "_law_reason"] ["_law_stack", "_law_sorts", "_law_error", "_law_goes"] (defScope s_law_left) := ⟨rfl, rfl, rfl, by decide +kernel, rfl, by decide +kernel, by decide +kernel⟩
abbrev s_law_shows : Stmt := top 27
theorem sc_law_shows : FnScope ["_law_db", "_law_stack", "_law_depth", "_law_top", "_law_reason", "_law_told"] ["_law_db", "_law_stack", "_law_depth"] (defScope s_law_shows) := ⟨rfl, rfl, rfl, by decide +kernel, rfl, by decide +kernel, by decide +kernel⟩
abbrev s_law_step : Stmt := top 28
theorem sc_law_step : FnScope ["_law_pool_here", "_law_db", "_law_stack", "_law_sorts", "_law_modes", "_law_deed", "_law_mode", "_law_sort_here", "_law_is_error", "_law_error", "_law_goes", "_law_due", "_law_word_here"] ["_law_pool_here", "_law_db", "_law_stack", "_law_sorts"] (defScope s_law_step) := ⟨rfl, rfl, rfl, by decide +kernel, rfl, by decide +kernel, by decide +kernel⟩
abbrev s_law : Stmt := top 29
theorem sc_law : FnScope ["_law_script", "_law_at", "_law_pool_here", "_law_db", "_law_stack", "_law_sorts", "_law_turn"] ["_law_script"] (defScope s_law) := ⟨rfl, rfl, rfl, by decide +kernel, rfl, by decide +kernel, by decide +kernel⟩
abbrev ef_Missing : List (Str × Sum Nat Str) := [("word", .inr "missing"), ("mode", .inl 0)]
theorem ec_Missing {K : PySem.W.Frag} {C fI : Addr} {nm qn : Str} {N : Addr} {bs bm : List Value} {sn : List Str} {sub : List Value} {ab : Bool} {col : Option Bool} {dd : Option Addr} {k0 k1 k2 k3 k5 : Option Value}
    {oc : Value} {od : Option Addr} {doc pm : Value} {an : Option Addr} {cda cc : Addr} {ct : Value} {osl : Array (Option Value)} {ccl : Value} {cdd : Option Addr} {vs : Array Value} {ccs : Array (Option Value)} {tf : Tok} {cl : Value} {cld : Option Addr} {csl : Array (Option Value)}
    (h1 : K.lookup C = some (excClassObj nm qn C N bs bm true sn sub ab col dd k0 k1 k2 k3 k5 "ValueError.__new__")) (h2 : PySem.HandSPX.refsVE bm = true) (h3 : PySem.W.findIn K (.ref C) "__setattr__" = some (some (.builtin "object.__setattr__")))
    (h4 : PySem.W.findIn K (.ref C) "__getattribute__" = some (some (.builtin "BaseException.__getattribute__"))) (h5 : PySem.W.findIn K (.ref C) "__getattr__" = some none) (h6 : PySem.W.findIn K (.ref C) "__init__" = some (some (.ref fI)))
    (h7 : PySem.W.typeIn K (.ref fI) = some (.type "function")) (h8 : PySem.W.keepIn K (.ref C) = true) (h9 : PySem.W.subIn K (.ref C) (.type "BaseException") = some true) (h10 : PySem.W.subIn K (.ref C) (.type "ValueError") = some true)
    (h11 : PySem.W.typeIn K (.ref C) = some (.type "type")) (h12 : PySem.W.hasDictIn K C = true) (h13 : PySem.W.ks_superIn K C C "__init__" = some (some (.builtin "ValueError.__init__"))) (h14 : PySem.W.mroIn K C (.ref C) = some true) (h15 : PySem.W.exmOne K (.ref C) (.ref C) = some true)
    (h16 : PySem.W.nsIn K cStatics "thirdparty.any" = some none) (h17 : K.lookup fI = some ⟨oc, od, .func (PySem.W.ksFn "__init__" "Missing.__init__" (defArgs s_MissingU_initU) (defBody s_MissingU_initU) (defScope s_MissingU_initU) .none .none doc pm an (.ref cda) ct cc), osl⟩) (h18 : PySem.W.codeIn K (.ref cda) "Missing.__init__" = true)
    (h19 : K.lookup cda = some ⟨ccl, cdd, .fields vs, ccs⟩) (h20 : vs[2]? = some (.str P.main.file tf)) (h21 : K.lookup cc = some ⟨cl, cld, .cell (some (.ref C)), csl⟩) (nf0 : PySem.W.findIn K (.ref C) "word" = some none) (nf1 : PySem.W.findIn K (.ref C) "mode" = some none) : ErrC P K C fI s_MissingU_initU "Missing.__init__" ["mode"] ef_Missing := by
  refine ⟨⟨nm, qn, N, bs, bm, sn, sub, ab, col, dd, k0, k1, k2, k3, k5, h1, h2⟩, h3, h4, h5, ?_, h6, h7, h8, h9, h10, h11, h12, h13, h14, h15, h16, ⟨oc, od, doc, pm, an, cda, cc, ct, osl, ccl, cdd, vs, ccs, tf, cl, cld, csl, h17, h18, h19, h20, h21⟩, ⟨_, rfl, rfl⟩, (fun _ _ _ _ _ _ us hl => match us, hl with | [_, _], _ => rfl),
    ⟨_, _, _, _, _, _, _, _, _, rfl, (.con (.par (i := 0) rfl .nil)), fun L cda cc => ⟨_, rfl⟩⟩, rfl, rfl, rfl, by decide +kernel, by decide +kernel, rfl, rfl, by decide +kernel, by decide +kernel⟩
  intro p hp
  rcases List.mem_cons.mp hp with rfl | hp
  · exact nf0
  rcases List.mem_cons.mp hp with rfl | hp
  · exact nf1
  · exact absurd hp (by simp)
abbrev ef_Present : List (Str × Sum Nat Str) := [("word", .inr "present"), ("mode", .inl 0)]
theorem ec_Present {K : PySem.W.Frag} {C fI : Addr} {nm qn : Str} {N : Addr} {bs bm : List Value} {sn : List Str} {sub : List Value} {ab : Bool} {col : Option Bool} {dd : Option Addr} {k0 k1 k2 k3 k5 : Option Value}
    {oc : Value} {od : Option Addr} {doc pm : Value} {an : Option Addr} {cda cc : Addr} {ct : Value} {osl : Array (Option Value)} {ccl : Value} {cdd : Option Addr} {vs : Array Value} {ccs : Array (Option Value)} {tf : Tok} {cl : Value} {cld : Option Addr} {csl : Array (Option Value)}
    (h1 : K.lookup C = some (excClassObj nm qn C N bs bm true sn sub ab col dd k0 k1 k2 k3 k5 "ValueError.__new__")) (h2 : PySem.HandSPX.refsVE bm = true) (h3 : PySem.W.findIn K (.ref C) "__setattr__" = some (some (.builtin "object.__setattr__")))
    (h4 : PySem.W.findIn K (.ref C) "__getattribute__" = some (some (.builtin "BaseException.__getattribute__"))) (h5 : PySem.W.findIn K (.ref C) "__getattr__" = some none) (h6 : PySem.W.findIn K (.ref C) "__init__" = some (some (.ref fI)))
    (h7 : PySem.W.typeIn K (.ref fI) = some (.type "function")) (h8 : PySem.W.keepIn K (.ref C) = true) (h9 : PySem.W.subIn K (.ref C) (.type "BaseException") = some true) (h10 : PySem.W.subIn K (.ref C) (.type "ValueError") = some true)
    (h11 : PySem.W.typeIn K (.ref C) = some (.type "type")) (h12 : PySem.W.hasDictIn K C = true) (h13 : PySem.W.ks_superIn K C C "__init__" = some (some (.builtin "ValueError.__init__"))) (h14 : PySem.W.mroIn K C (.ref C) = some true) (h15 : PySem.W.exmOne K (.ref C) (.ref C) = some true)
    (h16 : PySem.W.nsIn K cStatics "thirdparty.any" = some none) (h17 : K.lookup fI = some ⟨oc, od, .func (PySem.W.ksFn "__init__" "Present.__init__" (defArgs s_PresentU_initU) (defBody s_PresentU_initU) (defScope s_PresentU_initU) .none .none doc pm an (.ref cda) ct cc), osl⟩) (h18 : PySem.W.codeIn K (.ref cda) "Present.__init__" = true)
    (h19 : K.lookup cda = some ⟨ccl, cdd, .fields vs, ccs⟩) (h20 : vs[2]? = some (.str P.main.file tf)) (h21 : K.lookup cc = some ⟨cl, cld, .cell (some (.ref C)), csl⟩) (nf0 : PySem.W.findIn K (.ref C) "word" = some none) (nf1 : PySem.W.findIn K (.ref C) "mode" = some none) : ErrC P K C fI s_PresentU_initU "Present.__init__" ["mode"] ef_Present := by
  refine ⟨⟨nm, qn, N, bs, bm, sn, sub, ab, col, dd, k0, k1, k2, k3, k5, h1, h2⟩, h3, h4, h5, ?_, h6, h7, h8, h9, h10, h11, h12, h13, h14, h15, h16, ⟨oc, od, doc, pm, an, cda, cc, ct, osl, ccl, cdd, vs, ccs, tf, cl, cld, csl, h17, h18, h19, h20, h21⟩, ⟨_, rfl, rfl⟩, (fun _ _ _ _ _ _ us hl => match us, hl with | [_, _], _ => rfl),
    ⟨_, _, _, _, _, _, _, _, _, rfl, (.con (.par (i := 0) rfl .nil)), fun L cda cc => ⟨_, rfl⟩⟩, rfl, rfl, rfl, by decide +kernel, by decide +kernel, rfl, rfl, by decide +kernel, by decide +kernel⟩
  intro p hp
  rcases List.mem_cons.mp hp with rfl | hp
  · exact nf0
  rcases List.mem_cons.mp hp with rfl | hp
  · exact nf1
  · exact absurd hp (by simp)
abbrev ef_Doomed : List (Str × Sum Nat Str) := [("word", .inr "doomed"), ("first", .inl 0)]
theorem ec_Doomed {K : PySem.W.Frag} {C fI : Addr} {nm qn : Str} {N : Addr} {bs bm : List Value} {sn : List Str} {sub : List Value} {ab : Bool} {col : Option Bool} {dd : Option Addr} {k0 k1 k2 k3 k5 : Option Value}
    {oc : Value} {od : Option Addr} {doc pm : Value} {an : Option Addr} {cda cc : Addr} {ct : Value} {osl : Array (Option Value)} {ccl : Value} {cdd : Option Addr} {vs : Array Value} {ccs : Array (Option Value)} {tf : Tok} {cl : Value} {cld : Option Addr} {csl : Array (Option Value)}
    (h1 : K.lookup C = some (excClassObj nm qn C N bs bm true sn sub ab col dd k0 k1 k2 k3 k5 "ValueError.__new__")) (h2 : PySem.HandSPX.refsVE bm = true) (h3 : PySem.W.findIn K (.ref C) "__setattr__" = some (some (.builtin "object.__setattr__")))
    (h4 : PySem.W.findIn K (.ref C) "__getattribute__" = some (some (.builtin "BaseException.__getattribute__"))) (h5 : PySem.W.findIn K (.ref C) "__getattr__" = some none) (h6 : PySem.W.findIn K (.ref C) "__init__" = some (some (.ref fI)))
    (h7 : PySem.W.typeIn K (.ref fI) = some (.type "function")) (h8 : PySem.W.keepIn K (.ref C) = true) (h9 : PySem.W.subIn K (.ref C) (.type "BaseException") = some true) (h10 : PySem.W.subIn K (.ref C) (.type "ValueError") = some true)
    (h11 : PySem.W.typeIn K (.ref C) = some (.type "type")) (h12 : PySem.W.hasDictIn K C = true) (h13 : PySem.W.ks_superIn K C C "__init__" = some (some (.builtin "ValueError.__init__"))) (h14 : PySem.W.mroIn K C (.ref C) = some true) (h15 : PySem.W.exmOne K (.ref C) (.ref C) = some true)
    (h16 : PySem.W.nsIn K cStatics "thirdparty.any" = some none) (h17 : K.lookup fI = some ⟨oc, od, .func (PySem.W.ksFn "__init__" "Doomed.__init__" (defArgs s_DoomedU_initU) (defBody s_DoomedU_initU) (defScope s_DoomedU_initU) .none .none doc pm an (.ref cda) ct cc), osl⟩) (h18 : PySem.W.codeIn K (.ref cda) "Doomed.__init__" = true)
    (h19 : K.lookup cda = some ⟨ccl, cdd, .fields vs, ccs⟩) (h20 : vs[2]? = some (.str P.main.file tf)) (h21 : K.lookup cc = some ⟨cl, cld, .cell (some (.ref C)), csl⟩) (nf0 : PySem.W.findIn K (.ref C) "word" = some none) (nf1 : PySem.W.findIn K (.ref C) "first" = some none) : ErrC P K C fI s_DoomedU_initU "Doomed.__init__" ["first"] ef_Doomed := by
  refine ⟨⟨nm, qn, N, bs, bm, sn, sub, ab, col, dd, k0, k1, k2, k3, k5, h1, h2⟩, h3, h4, h5, ?_, h6, h7, h8, h9, h10, h11, h12, h13, h14, h15, h16, ⟨oc, od, doc, pm, an, cda, cc, ct, osl, ccl, cdd, vs, ccs, tf, cl, cld, csl, h17, h18, h19, h20, h21⟩, ⟨_, rfl, rfl⟩, (fun _ _ _ _ _ _ us hl => match us, hl with | [_, _], _ => rfl),
    ⟨_, _, _, _, _, _, _, _, _, rfl, (.con (.par (i := 0) rfl .nil)), fun L cda cc => ⟨_, rfl⟩⟩, rfl, rfl, rfl, by decide +kernel, by decide +kernel, rfl, rfl, by decide +kernel, by decide +kernel⟩
  intro p hp
  rcases List.mem_cons.mp hp with rfl | hp
  · exact nf0
  rcases List.mem_cons.mp hp with rfl | hp
  · exact nf1
  · exact absurd hp (by simp)
abbrev ef_Refused : List (Str × Sum Nat Str) := [("word", .inr "refused")]
theorem ec_Refused {K : PySem.W.Frag} {C fI : Addr} {nm qn : Str} {N : Addr} {bs bm : List Value} {sn : List Str} {sub : List Value} {ab : Bool} {col : Option Bool} {dd : Option Addr} {k0 k1 k2 k3 k5 : Option Value}
    {oc : Value} {od : Option Addr} {doc pm : Value} {an : Option Addr} {cda cc : Addr} {ct : Value} {osl : Array (Option Value)} {ccl : Value} {cdd : Option Addr} {vs : Array Value} {ccs : Array (Option Value)} {tf : Tok} {cl : Value} {cld : Option Addr} {csl : Array (Option Value)}
    (h1 : K.lookup C = some (excClassObj nm qn C N bs bm true sn sub ab col dd k0 k1 k2 k3 k5 "ValueError.__new__")) (h2 : PySem.HandSPX.refsVE bm = true) (h3 : PySem.W.findIn K (.ref C) "__setattr__" = some (some (.builtin "object.__setattr__")))
    (h4 : PySem.W.findIn K (.ref C) "__getattribute__" = some (some (.builtin "BaseException.__getattribute__"))) (h5 : PySem.W.findIn K (.ref C) "__getattr__" = some none) (h6 : PySem.W.findIn K (.ref C) "__init__" = some (some (.ref fI)))
    (h7 : PySem.W.typeIn K (.ref fI) = some (.type "function")) (h8 : PySem.W.keepIn K (.ref C) = true) (h9 : PySem.W.subIn K (.ref C) (.type "BaseException") = some true) (h10 : PySem.W.subIn K (.ref C) (.type "ValueError") = some true)
    (h11 : PySem.W.typeIn K (.ref C) = some (.type "type")) (h12 : PySem.W.hasDictIn K C = true) (h13 : PySem.W.ks_superIn K C C "__init__" = some (some (.builtin "ValueError.__init__"))) (h14 : PySem.W.mroIn K C (.ref C) = some true) (h15 : PySem.W.exmOne K (.ref C) (.ref C) = some true)
    (h16 : PySem.W.nsIn K cStatics "thirdparty.any" = some none) (h17 : K.lookup fI = some ⟨oc, od, .func (PySem.W.ksFn "__init__" "Refused.__init__" (defArgs s_RefusedU_initU) (defBody s_RefusedU_initU) (defScope s_RefusedU_initU) .none .none doc pm an (.ref cda) ct cc), osl⟩) (h18 : PySem.W.codeIn K (.ref cda) "Refused.__init__" = true)
    (h19 : K.lookup cda = some ⟨ccl, cdd, .fields vs, ccs⟩) (h20 : vs[2]? = some (.str P.main.file tf)) (h21 : K.lookup cc = some ⟨cl, cld, .cell (some (.ref C)), csl⟩) (nf0 : PySem.W.findIn K (.ref C) "word" = some none) : ErrC P K C fI s_RefusedU_initU "Refused.__init__" [] ef_Refused := by
  refine ⟨⟨nm, qn, N, bs, bm, sn, sub, ab, col, dd, k0, k1, k2, k3, k5, h1, h2⟩, h3, h4, h5, ?_, h6, h7, h8, h9, h10, h11, h12, h13, h14, h15, h16, ⟨oc, od, doc, pm, an, cda, cc, ct, osl, ccl, cdd, vs, ccs, tf, cl, cld, csl, h17, h18, h19, h20, h21⟩, ⟨_, rfl, rfl⟩, (fun _ _ _ _ _ _ us hl => match us, hl with | [_], _ => rfl),
    ⟨_, _, _, _, _, _, _, _, _, rfl, (.con .nil), fun L cda cc => ⟨_, rfl⟩⟩, rfl, rfl, rfl, by decide +kernel, by decide +kernel, rfl, rfl, by decide +kernel, by decide +kernel⟩
  intro p hp
  rcases List.mem_cons.mp hp with rfl | hp
  · exact nf0
  · exact absurd hp (by simp)
abbrev ef_NoBlock : List (Str × Sum Nat Str) := []
theorem ec_NoBlock {K : PySem.W.Frag} {C fI : Addr} {nm qn : Str} {N : Addr} {bs bm : List Value} {sn : List Str} {sub : List Value} {ab : Bool} {col : Option Bool} {dd : Option Addr} {k0 k1 k2 k3 k5 : Option Value}
    {oc : Value} {od : Option Addr} {doc pm : Value} {an : Option Addr} {cda cc : Addr} {ct : Value} {osl : Array (Option Value)} {ccl : Value} {cdd : Option Addr} {vs : Array Value} {ccs : Array (Option Value)} {tf : Tok} {cl : Value} {cld : Option Addr} {csl : Array (Option Value)}
    (h1 : K.lookup C = some (excClassObj nm qn C N bs bm true sn sub ab col dd k0 k1 k2 k3 k5 "ValueError.__new__")) (h2 : PySem.HandSPX.refsVE bm = true) (h3 : PySem.W.findIn K (.ref C) "__setattr__" = some (some (.builtin "object.__setattr__")))
    (h4 : PySem.W.findIn K (.ref C) "__getattribute__" = some (some (.builtin "BaseException.__getattribute__"))) (h5 : PySem.W.findIn K (.ref C) "__getattr__" = some none) (h6 : PySem.W.findIn K (.ref C) "__init__" = some (some (.ref fI)))
    (h7 : PySem.W.typeIn K (.ref fI) = some (.type "function")) (h8 : PySem.W.keepIn K (.ref C) = true) (h9 : PySem.W.subIn K (.ref C) (.type "BaseException") = some true) (h10 : PySem.W.subIn K (.ref C) (.type "ValueError") = some true)
    (h11 : PySem.W.typeIn K (.ref C) = some (.type "type")) (h12 : PySem.W.hasDictIn K C = true) (h13 : PySem.W.ks_superIn K C C "__init__" = some (some (.builtin "ValueError.__init__"))) (h14 : PySem.W.mroIn K C (.ref C) = some true) (h15 : PySem.W.exmOne K (.ref C) (.ref C) = some true)
    (h16 : PySem.W.nsIn K cStatics "thirdparty.any" = some none) (h17 : K.lookup fI = some ⟨oc, od, .func (PySem.W.ksFn "__init__" "NoBlock.__init__" (defArgs s_NoBlockU_initU) (defBody s_NoBlockU_initU) (defScope s_NoBlockU_initU) .none .none doc pm an (.ref cda) ct cc), osl⟩) (h18 : PySem.W.codeIn K (.ref cda) "NoBlock.__init__" = true)
    (h19 : K.lookup cda = some ⟨ccl, cdd, .fields vs, ccs⟩) (h20 : vs[2]? = some (.str P.main.file tf)) (h21 : K.lookup cc = some ⟨cl, cld, .cell (some (.ref C)), csl⟩)  : ErrC P K C fI s_NoBlockU_initU "NoBlock.__init__" [] ef_NoBlock := by
  refine ⟨⟨nm, qn, N, bs, bm, sn, sub, ab, col, dd, k0, k1, k2, k3, k5, h1, h2⟩, h3, h4, h5, ?_, h6, h7, h8, h9, h10, h11, h12, h13, h14, h15, h16, ⟨oc, od, doc, pm, an, cda, cc, ct, osl, ccl, cdd, vs, ccs, tf, cl, cld, csl, h17, h18, h19, h20, h21⟩, ⟨_, rfl, rfl⟩, (fun _ _ _ _ _ _ us hl => match us, hl with | [_], _ => rfl),
    ⟨_, _, _, _, _, _, _, _, _, rfl, .nil, fun L cda cc => ⟨_, rfl⟩⟩, rfl, rfl, rfl, by decide +kernel, by decide +kernel, rfl, rfl, by decide +kernel, by decide +kernel⟩
  intro p hp
  exact absurd hp (by simp)
structure Ad where
  Mode : Addr
  Mode_ALL : Addr
  Mode_is_mode : Addr
  p_Mode_is_mode : Addr
  is_word : Addr
  Missing : Addr
  MissingU_initU : Addr
  Present : Addr
  PresentU_initU : Addr
  Doomed : Addr
  DoomedU_initU : Addr
  Refused : Addr
  RefusedU_initU : Addr
  NoBlock : Addr
  NoBlockU_initU : Addr
  Write : Addr
  Transaction : Addr
  TransactionU_initU : Addr
  Database : Addr
  DatabaseU_initU : Addr
  Database_begin : Addr
  Database_enter_alone : Addr
  Database_enter_inside : Addr
  Database_enter : Addr
  Database_end_level : Addr
  Database_end_transaction : Addr
  Database_leave : Addr
  Database_doom : Addr
  Database_is_open : Addr
  p_Database_is_open : Addr
  Database_is_doomed : Addr
  p_Database_is_doomed : Addr
  Database_reason : Addr
  p_Database_reason : Addr
  Database_levels : Addr
  p_Database_levels : Addr
  Database_depth : Addr
  p_Database_depth : Addr
  law_pool : Addr
  law_draw : Addr
  law_word : Addr
  law_sort : Addr
  law_enter : Addr
  law_leave : Addr
  law_left : Addr
  law_shows : Addr
  law_step : Addr
  law : Addr
structure Fd where
  Mode_is_mode : FuncData
  is_word : FuncData
  TransactionU_initU : FuncData
  DatabaseU_initU : FuncData
  Database_begin : FuncData
  Database_enter_alone : FuncData
  Database_enter_inside : FuncData
  Database_enter : FuncData
  Database_end_level : FuncData
  Database_end_transaction : FuncData
  Database_leave : FuncData
  Database_doom : FuncData
  Database_is_open : FuncData
  Database_is_doomed : FuncData
  Database_reason : FuncData
  Database_levels : FuncData
  Database_depth : FuncData
  law_pool : FuncData
  law_draw : FuncData
  law_word : FuncData
  law_sort : FuncData
  law_enter : FuncData
  law_leave : FuncData
  law_left : FuncData
  law_shows : FuncData
  law_step : FuncData
  law : FuncData
structure Txt (K : PySem.W.Frag) (mg : Str → Option Value) (a : Ad) (d : Fd) : Prop where
  g_Mode : mg "Mode" = some (.ref a.Mode)
  r_Mode : ClX.CRead K a.Mode (.type "type")
  c_Mode_JOIN : ∃ u, ClX.CVal K a.Mode (.type "type") "JOIN" (.str "join") u
  c_Mode_INNER : ∃ u, ClX.CVal K a.Mode (.type "type") "INNER" (.str "inner") u
  c_Mode_APART : ∃ u, ClX.CVal K a.Mode (.type "type") "APART" (.str "apart") u
  c_Mode_MUST : ∃ u, ClX.CVal K a.Mode (.type "type") "MUST" (.str "must") u
  c_Mode_EITHER : ∃ u, ClX.CVal K a.Mode (.type "type") "EITHER" (.str "either") u
  c_Mode_NEVER : ∃ u, ClX.CVal K a.Mode (.type "type") "NEVER" (.str "never") u
  c_Mode_OUTSIDE : ∃ u, ClX.CVal K a.Mode (.type "type") "OUTSIDE" (.str "outside") u
  c_Mode_ALONE : ∃ u, ClX.CVal K a.Mode (.type "type") "ALONE" (.str "alone") u
  c_Mode_ALL : ∃ u, ClX.CVal K a.Mode (.type "type") "ALL" (.ref a.Mode_ALL) u
  q_Mode_ALL : (∀ H, SqT K H a.Mode_ALL [.str "join", .str "inner", .str "apart", .str "must", .str "either", .str "never", .str "outside", .str "alone"])
  k_Mode_ALL : (∃ o, K.lookup a.Mode_ALL = some o ∧ o.cls = .type "tuple")
  Mode_is_mode : Fun K "is_mode" "Mode.is_mode" s_Mode_is_mode a.Mode_is_mode d.Mode_is_mode
  b_Mode_is_mode : Binds K d.Mode_is_mode ["thing"] []
  s_Mode_is_mode : SMet K a.Mode (.type "type") "is_mode" a.p_Mode_is_mode a.Mode_is_mode
  is_word : Fun K "is_word" "is_word" s_is_word a.is_word d.is_word
  b_is_word : Binds K d.is_word ["thing"] []
  g_is_word : mg "is_word" = some (.ref a.is_word)
  g_Missing : mg "Missing" = some (.ref a.Missing)
  e_Missing : ErrC P K a.Missing a.MissingU_initU s_MissingU_initU "Missing.__init__" ["mode"] ef_Missing
  g_Present : mg "Present" = some (.ref a.Present)
  e_Present : ErrC P K a.Present a.PresentU_initU s_PresentU_initU "Present.__init__" ["mode"] ef_Present
  g_Doomed : mg "Doomed" = some (.ref a.Doomed)
  e_Doomed : ErrC P K a.Doomed a.DoomedU_initU s_DoomedU_initU "Doomed.__init__" ["first"] ef_Doomed
  g_Refused : mg "Refused" = some (.ref a.Refused)
  e_Refused : ErrC P K a.Refused a.RefusedU_initU s_RefusedU_initU "Refused.__init__" [] ef_Refused
  g_NoBlock : mg "NoBlock" = some (.ref a.NoBlock)
  e_NoBlock : ErrC P K a.NoBlock a.NoBlockU_initU s_NoBlockU_initU "NoBlock.__init__" [] ef_NoBlock
  x_Present_Missing : PySem.W.exmOne K (.ref a.Present) (.ref a.Missing) = some false
  x_Doomed_Missing : PySem.W.exmOne K (.ref a.Doomed) (.ref a.Missing) = some false
  x_Doomed_Present : PySem.W.exmOne K (.ref a.Doomed) (.ref a.Present) = some false
  x_Refused_Doomed : PySem.W.exmOne K (.ref a.Refused) (.ref a.Doomed) = some false
  x_NoBlock_Doomed : PySem.W.exmOne K (.ref a.NoBlock) (.ref a.Doomed) = some false
  x_NoBlock_Refused : PySem.W.exmOne K (.ref a.NoBlock) (.ref a.Refused) = some false
  g_Write : mg "Write" = some (.ref a.Write)
  g_Transaction : mg "Transaction" = some (.ref a.Transaction)
  k_Transaction : Cls K a.Transaction
  na_Transaction_number : NoAttr K a.Transaction "number"
  na_Transaction_reasons : NoAttr K a.Transaction "reasons"
  TransactionU_initU : Fun K "__init__" "Transaction.__init__" s_TransactionU_initU a.TransactionU_initU d.TransactionU_initU
  b_TransactionU_initU : Binds K d.TransactionU_initU ["self", "number"] []
  mk_Transaction : Mk K a.Transaction a.TransactionU_initU
  g_Database : mg "Database" = some (.ref a.Database)
  k_Database : Cls K a.Database
  na_Database_rows : NoAttr K a.Database "rows"
  na_Database_stack : NoAttr K a.Database "stack"
  na_Database_entered : NoAttr K a.Database "entered"
  na_Database_floor : NoAttr K a.Database "floor"
  na_Database_opened : NoAttr K a.Database "opened"
  DatabaseU_initU : Fun K "__init__" "Database.__init__" s_DatabaseU_initU a.DatabaseU_initU d.DatabaseU_initU
  b_DatabaseU_initU : Binds K d.DatabaseU_initU ["self"] []
  mk_Database : Mk K a.Database a.DatabaseU_initU
  Database_begin : Fun K "begin" "Database.begin" s_Database_begin a.Database_begin d.Database_begin
  b_Database_begin : Binds K d.Database_begin ["self"] []
  m_Database_begin : Meth K a.Database "begin" a.Database_begin
  Database_enter_alone : Fun K "enter_alone" "Database.enter_alone" s_Database_enter_alone a.Database_enter_alone d.Database_enter_alone
  b_Database_enter_alone : Binds K d.Database_enter_alone ["self", "mode"] []
  m_Database_enter_alone : Meth K a.Database "enter_alone" a.Database_enter_alone
  Database_enter_inside : Fun K "enter_inside" "Database.enter_inside" s_Database_enter_inside a.Database_enter_inside d.Database_enter_inside
  b_Database_enter_inside : Binds K d.Database_enter_inside ["self", "mode", "present"] []
  m_Database_enter_inside : Meth K a.Database "enter_inside" a.Database_enter_inside
  Database_enter : Fun K "enter" "Database.enter" s_Database_enter a.Database_enter d.Database_enter
  b_Database_enter : Binds K d.Database_enter ["self", "mode"] []
  m_Database_enter : Meth K a.Database "enter" a.Database_enter
  Database_end_level : Fun K "end_level" "Database.end_level" s_Database_end_level a.Database_end_level d.Database_end_level
  b_Database_end_level : Binds K d.Database_end_level ["self", "error"] []
  m_Database_end_level : Meth K a.Database "end_level" a.Database_end_level
  Database_end_transaction : Fun K "end_transaction" "Database.end_transaction" s_Database_end_transaction a.Database_end_transaction d.Database_end_transaction
  b_Database_end_transaction : Binds K d.Database_end_transaction ["self", "error", "commits"] []
  m_Database_end_transaction : Meth K a.Database "end_transaction" a.Database_end_transaction
  Database_leave : FunD K "leave" "Database.leave" (defArgs s_Database_leave) (defBody s_Database_leave) (defScope s_Database_leave) [.non] [("commits", .bl true)] a.Database_leave d.Database_leave
  m_Database_leave : Meth K a.Database "leave" a.Database_leave
  Database_doom : FunD K "doom" "Database.doom" (defArgs s_Database_doom) (defBody s_Database_doom) (defScope s_Database_doom) [.str "doom"] [] a.Database_doom d.Database_doom
  m_Database_doom : Meth K a.Database "doom" a.Database_doom
  Database_is_open : Fun K "is_open" "Database.is_open" s_Database_is_open a.Database_is_open d.Database_is_open
  b_Database_is_open : Binds K d.Database_is_open ["self"] []
  m_Database_is_open : PropOf K a.Database "is_open" a.p_Database_is_open a.Database_is_open
  Database_is_doomed : Fun K "is_doomed" "Database.is_doomed" s_Database_is_doomed a.Database_is_doomed d.Database_is_doomed
  b_Database_is_doomed : Binds K d.Database_is_doomed ["self"] []
  m_Database_is_doomed : PropOf K a.Database "is_doomed" a.p_Database_is_doomed a.Database_is_doomed
  Database_reason : Fun K "reason" "Database.reason" s_Database_reason a.Database_reason d.Database_reason
  b_Database_reason : Binds K d.Database_reason ["self"] []
  m_Database_reason : PropOf K a.Database "reason" a.p_Database_reason a.Database_reason
  Database_levels : Fun K "levels" "Database.levels" s_Database_levels a.Database_levels d.Database_levels
  b_Database_levels : Binds K d.Database_levels ["self"] []
  m_Database_levels : PropOf K a.Database "levels" a.p_Database_levels a.Database_levels
  Database_depth : Fun K "depth" "Database.depth" s_Database_depth a.Database_depth d.Database_depth
  b_Database_depth : Binds K d.Database_depth ["self"] []
  m_Database_depth : PropOf K a.Database "depth" a.p_Database_depth a.Database_depth
  law_pool : Fun K "_law_pool" "_law_pool" s_law_pool a.law_pool d.law_pool
  b_law_pool : Binds K d.law_pool ["_law_script", "_law_at"] []
  g_law_pool : mg "_law_pool" = some (.ref a.law_pool)
  law_draw : Fun K "_law_draw" "_law_draw" s_law_draw a.law_draw d.law_draw
  b_law_draw : Binds K d.law_draw ["_law_pool_here", "_law_many"] []
  g_law_draw : mg "_law_draw" = some (.ref a.law_draw)
  law_word : Fun K "_law_word" "_law_word" s_law_word a.law_word d.law_word
  b_law_word : Binds K d.law_word ["_law_pool_here"] []
  g_law_word : mg "_law_word" = some (.ref a.law_word)
  law_sort : Fun K "_law_sort" "_law_sort" s_law_sort a.law_sort d.law_sort
  b_law_sort : Binds K d.law_sort ["_law_stack", "_law_mode"] []
  g_law_sort : mg "_law_sort" = some (.ref a.law_sort)
  law_enter : Fun K "_law_enter" "_law_enter" s_law_enter a.law_enter d.law_enter
  b_law_enter : Binds K d.law_enter ["_law_db", "_law_mode"] []
  g_law_enter : mg "_law_enter" = some (.ref a.law_enter)
  law_leave : Fun K "_law_leave" "_law_leave" s_law_leave a.law_leave d.law_leave
  b_law_leave : Binds K d.law_leave ["_law_db", "_law_error", "_law_goes"] []
  g_law_leave : mg "_law_leave" = some (.ref a.law_leave)
  law_left : Fun K "_law_left" "_law_left" s_law_left a.law_left d.law_left
  b_law_left : Binds K d.law_left ["_law_stack", "_law_sorts", "_law_error", "_law_goes"] []
  g_law_left : mg "_law_left" = some (.ref a.law_left)
  law_shows : Fun K "_law_shows" "_law_shows" s_law_shows a.law_shows d.law_shows
  b_law_shows : Binds K d.law_shows ["_law_db", "_law_stack", "_law_depth"] []
  g_law_shows : mg "_law_shows" = some (.ref a.law_shows)
  law_step : Fun K "_law_step" "_law_step" s_law_step a.law_step d.law_step
  b_law_step : Binds K d.law_step ["_law_pool_here", "_law_db", "_law_stack", "_law_sorts"] []
  g_law_step : mg "_law_step" = some (.ref a.law_step)
  law : Fun K "law" "law" s_law a.law d.law
  b_law : Binds K d.law ["_law_script"] []
  g_law : mg "law" = some (.ref a.law)
  n_isinstance : mg "isinstance" = none
  n_str : mg "str" = none
  n_len : mg "len" = none
  n_super : mg "super" = none
  n_abs : mg "abs" = none
  n_int : mg "int" = none
  n_range : mg "range" = none
  n_repr : mg "repr" = none
  n_max : mg "max" = none
  n_min : mg "min" = none

section
variable {w : World} {K : PySem.W.Frag} {mg : Str → Option Value} {base : Heap} {a : Ad} {d : Fd}
theorem ok_law_draw (T : Txt K mg a d) : FnOk P w K mg base CX0 1 a.law_draw d.law_draw ["_law_pool_here", "_law_many"] spDraw := by
  refine T.law_draw.ok sc_law_draw (fun vs H Q E h => ?_) (fun cdv A outer s H vs Q E hr h => ?_)
  · obtain ⟨p, m, c, o, rfl, _⟩ := h
    rfl
  · obtain ⟨p, m, c, o, rfl, hp, ⟨x, y, n, rfl, hx, hy, hy2, hn, hn2⟩, hm, hm2, hc, k⟩ := h
    have hw : ∀ i : Int, CDivW i m := fun i => wide_div (b := 200) hm (by omega) (by decide) (by decide)
    have e1 : (b2 : Int) → 0 ≤ b2 → b2 < 2 ^ 62 → CPow (b2 + 48611 * (n + 1)) 3 := fun b2 h1 h2 => ⟨by decide, by decide, by omega⟩
    have e2 : (b2 : Int) → 0 ≤ b2 → b2 < 2 ^ 62 → CPow (b2 + 104729 * (n + 1)) 3 := fun b2 h1 h2 => ⟨by decide, by decide, by omega⟩
    have e3 : ∀ i j : Int, -1000000 < i → i < 1000000 → CMul i j := fun i j h1 h2 => .inl ⟨by omega, by omega⟩
    refine ⟨_, (pss_cons (ps_if (pt_cmpR op_gt (pe_ix ix_list (pv 0) pe_int (fun _ _ => rfl)) pe_int (nomark _)) (pss_cons (ps_set (i := 2) sc_law_draw.nd rfl (Or.inl rfl) (pe_op op_mod (pe_callTy call_int1 (by rfl) T.n_int (by decide +kernel) (pa_cons (pe_ix ix_list (pv 0) pe_int (fun _ _ => rfl)) pa_nil)) (pv 1)))
  (pss_cons (ps_asg (pe_op op_fdivW (pe_ix ix_list (pv 0) pe_int (fun _ _ => rfl)) (pv 1)) (pg_sub (pv 0) pe_int set_list))
  (pss_one (ps_ret (pv 2))))) pss_nil)
  (pss_cons (ps_set (i := 3) sc_law_draw.nd rfl (Or.inl rfl) (pe_op op_add (pe_ix ix_list (pv 0) pe_int (fun _ _ => rfl)) pe_int))
  (pss_cons (ps_asg (pv 3) (pg_sub (pv 0) pe_int set_list))
  (pss_cons (ps_set (i := 4) sc_law_draw.nd rfl (Or.inl rfl) (pe_op op_mod (pe_callTy call_int1 (by rfl) T.n_int (by decide +kernel) (pa_cons (pe_op op_add (pe_op op_pow (pe_op op_add (pe_ix ix_list (pv 0) pe_int (fun _ _ => rfl)) (pe_op op_mul pe_int (pv 3))) pe_int) (pe_op op_mul pe_int (pv 3))) pa_nil)) pe_int))
  (pss_cons (ps_set (i := 4) sc_law_draw.nd rfl (Or.inl rfl) (pe_op op_mod (pe_callTy call_int1 (by rfl) T.n_int (by decide +kernel) (pa_cons (pe_op op_pow (pe_op op_add (pv 4) (pe_op op_mul pe_int (pv 3))) pe_int) pa_nil)) pe_int))
  (pss_one (ps_ret (pe_op op_mod (pe_callTy call_int1 (by rfl) T.n_int (by decide +kernel) (pa_cons (pe_op op_fdivW (pv 4) pe_int) pa_nil)) (pv 1))))))))), ?_⟩
    dsimp only [cxOf]
    walk_at "rd"
    refine ite2 (fun c0 => ?_) (fun c0 => ?_)
    · have c1 : 0 < x := of_decide_eq_true c0
      walk_at "rd"
      refine And.intro (hw _) ?_
      walk_at "rd"
      refine k _ _ (Int.emod_nonneg _ (by omega)) (Int.emod_lt_of_pos _ hm) ⟨_, _, _, rfl, Int.ediv_nonneg (by omega) (by omega), hy, hy2, hn, by omega⟩
    · walk_at "rd"
      refine And.intro (e1 _ hy hy2) ?_
      walk_at "rd"
      refine And.intro (e2 _ (Int.emod_nonneg _ (by decide)) (Int.lt_trans (Int.emod_lt_of_pos _ (by decide)) (by decide))) ?_
      walk_at "rd"
      refine k _ _ (Int.emod_nonneg _ (by omega)) (Int.emod_lt_of_pos _ hm) ⟨_, _, _, rfl, hx, hy, hy2, by omega, by omega⟩
theorem ok_law_pool (T : Txt K mg a d) : FnOk P w K mg base CX0 1 a.law_pool d.law_pool ["_law_script", "_law_at"] (spPool K) := by
  refine T.law_pool.ok sc_law_pool (fun vs H Q E h => ?_) (fun cdv A outer s H vs Q E hr h => ?_)
  · obtain ⟨p, ns, i, rfl, _⟩ := h
    rfl
  · obtain ⟨p, ns, i, rfl, hS, hi, k⟩ := h
    have e3 : ∀ i j : Int, -1000000 < i → i < 1000000 → CMul i j := fun i j h1 h2 => .inl ⟨by omega, by omega⟩
    have e4 : ∀ i j : Int, -1000000 < j → j < 1000000 → CMul i j := fun i j h1 h2 => .inr ⟨by omega, by omega⟩
    refine ⟨_, (pss_cons (ps_set (i := 2) sc_law_pool.nd rfl (Or.inl rfl) (pe_ifExp (pt_cmpR op_lt (pv 1) (pe_callB call_len_seq (by rfl) T.n_len PySem.boot_len (pa_cons (pv 0) pa_nil)) (nomark _)) (pe_ix ix_list (pv 0) (pv 1) (fun _ _ => rfl)) pe_int))
  (pss_cons (ps_set (i := 3) sc_law_pool.nd rfl (Or.inl rfl) (pe_callB call_abs (by rfl) T.n_abs (by decide +kernel) (pa_cons (pv 2) pa_nil)))
  (pss_cons (ps_set (i := 4) sc_law_pool.nd rfl (Or.inl rfl) (pe_op op_mod (pe_callTy call_int1 (by rfl) T.n_int (by decide +kernel) (pa_cons (pe_op op_add (pe_op op_add (pe_op op_mul (pv 3) pe_int) (pe_op op_mul pe_int (pv 1))) (pe_callTy call_int1 (by rfl) T.n_int (by decide +kernel) (pa_cons (pe_cmpR op_lt (pv 2) pe_int (nomark _)) pa_nil))) pa_nil)) pe_int))
  (pss_one (ps_ret (pe_lst (pa_cons (pe_ifExp (pt_cmpR op_ge (pv 3) (pe_op op_pow pe_int pe_int) (nomark _)) (pv 3) pe_int) (pa_cons (pe_op op_add (pv 4) pe_int) (pa_cons pe_int pa_nil))))))))), ?_⟩
    dsimp only [cxOf]
    walk_at "rd"
    refine ite2 (fun c0 => ?_) (fun c0 => ?_)
    · have c1 : (i : Int) < ((ns.map V.int).length : Int) := of_decide_eq_true c0
      rw [List.length_map] at c1
      have c2 : i < ns.length := by omega
      have hz : (ns.map V.int)[i]? = some (.int ns[i]) := by
        rw [List.getElem?_map, List.getElem?_eq_getElem c2]; rfl
      walk_at "rd"
      refine And.intro (atI_nat hz) ?_
      walk_at "rd"
      refine ite2 (fun c2 => ?_) (fun c2 => ?_)
      all_goals
        walk_at "rd"
        intro q hq
        exact k q _ hq ⟨_, _, _, rfl, (by first | (split <;> omega) | decide), Int.add_nonneg (Int.emod_nonneg _ (by decide)) (by decide), Int.lt_trans (Int.add_lt_add_right (Int.emod_lt_of_pos _ (by decide)) _) (by decide), Int.le_refl 0, Int.le_refl 0⟩
    · walk_at "rd"
      intro q hq
      exact k q _ hq ⟨_, _, _, rfl, Int.le_refl 0, Int.add_nonneg (Int.emod_nonneg _ (by decide)) (by decide), Int.lt_trans (Int.add_lt_add_right (Int.emod_lt_of_pos _ (by decide)) _) (by decide), Int.le_refl 0, Int.le_refl 0⟩
theorem ok_law_word (T : Txt K mg a d) : FnOk P w K mg base CX0 2 a.law_word d.law_word ["_law_pool_here"] spWord := by
  have G_law_draw : FnOk P w K mg base CX0 1 a.law_draw d.law_draw ["_law_pool_here", "_law_many"] spDraw := ok_law_draw T
  refine T.law_word.ok sc_law_word (fun vs H Q E h => ?_) (fun cdv A outer s H vs Q E hr h => ?_)
  · obtain ⟨p, c, o, rfl, _⟩ := h
    rfl
  · obtain ⟨p, c, o, rfl, hp, hc, hb, k⟩ := h
    refine ⟨_, (pss_cons (ps_set (i := 1) sc_law_word.nd rfl (Or.inr rfl) pe_str)
  (pss_one (ps_ret (pe_join pe_str (pe_lc (own := [("_law_k", 2)]) (tt := tYes) rfl sc_law_word.nd (pi_range1 (by rfl) T.n_range (pa_cons (pe_op op_add pe_int (pe_call G_law_draw (hr.mono (by decide)) (by rfl) T.g_law_draw T.law_draw.kp T.b_law_draw .nil pass0 (pa_cons (pv 0) (pa_cons pe_int pa_nil)))) pa_nil)) (blkOk_by (own := [("_law_k", 2)]) (N := ["_law_pool_here", "_law_letters", "_law_k"]) (sc := defScope s_law_word) (by decide +kernel)) (fun _ _ _ _ _ => (pg_name (i := 2) sc_law_word.nd rfl (Or.inl rfl))) (fun _ _ _ _ _ => pts_nil) (fun _ _ _ _ _ => (pe_ix ix_str (pv 1) (pe_call G_law_draw (hr.mono (by decide)) (by rfl) T.g_law_draw T.law_draw.kp T.b_law_draw .nil pass0 (pa_cons (pv 0) (pa_cons pe_int pa_nil))) (fun _ _ => rfl)))))))), ?_⟩
    dsimp only [cxOf]
    walk_at "rd"
    intro r o1 r0 r1 h1
    walk_at "rd"
    intro D hD
    refine lc_letters (c := c + 1) hD upd_same h1 (by omega) (by omega) rfl rfl (by decide) (by decide) fun H' cs o2 e1 e2 e3 e4 e5 e6 => ?_
    refine ⟨_, _, cs.map chr1, rfl, rfl, Or.inl (SqL.of e6), ?_, ?_⟩
    · rw [sum_chr, e1]
      have : (Str.ofString "").length = 0 := by decide +kernel
      rw [this]; omega
    · rw [join_chr]
      refine k _ o2 _ ⟨?_, ?_, e2⟩ (e5.mono (by omega)) e4 (Kp.refl.set1.trans e3)
      · show 1 ≤ cs.length
        omega
      · show cs.length ≤ 8
        omega
theorem ok_is_word (T : Txt K mg a d) : FnOk P w K mg base CX0 1 a.is_word d.is_word ["thing"] spIsWord := by
  refine T.is_word.ok sc_is_word (fun vs H Q E h => ?_) (fun cdv A outer s H vs Q E hr h => ?_)
  · obtain ⟨v, rfl, _⟩ := h
    rfl
  · obtain ⟨v, rfl, hv, k⟩ := h
    refine ⟨_, (pss_cons (ps_if (PW.pt (pw_or (pt_not (pt_val (pe_callB call_isi (by rfl) T.n_isinstance (by decide +kernel) (pa_cons (pv 0) (pa_cons (pe_bltn (v := .ty "str") (u := .type "str") (by rfl) T.n_str (by decide +kernel) rfl) pa_nil))))) (pw_or1 (pt_not (pt_chain op_le op_le pe_int (pe_callB call_len_str (by rfl) T.n_len PySem.boot_len (pa_cons (pv 0) pa_nil)) pe_int))))) (pss_one (ps_ret pe_bl)) pss_nil)
  (pss_cons (ps_for PassesOwn.never rfl (pi_str (pv 0)) (pg_name (i := 1) sc_is_word.nd rfl (Or.inl rfl))
  (pss_one (ps_if (pt_not (pt_chain op_le_str op_le_str pe_str (pv 1) pe_str)) (pss_one (ps_ret pe_bl)) pss_nil)))
  (pss_one (ps_ret pe_bl)))), ?_⟩
    dsimp only [cxOf]
    obtain ⟨ty, h1, h2⟩ := hv.isi (K := K)
    refine ⟨_, rfl, _, _, _, _, _, rfl, ClsV.ty _, h1, h2, _, rfl, ?_⟩
    cases hv with
    | str z hz ha0 =>
      refine iteF ?_
      have hs : z.length ≤ sizeLine := by rw [sizeLine_eq]; omega
      refine ⟨_, rfl, z, rfl, hs, ?_⟩
      walk_at "rd"
      by_cases c1 : (1 : Int) ≤ (z.length : Int)
      · rw [decide_eq_true c1]
        refine iteT ?_
        walk_at "rd"
        by_cases c2 : (z.length : Int) ≤ 8
        · rw [decide_eq_true c2]
          refine iteF ?_
          walk_at "rd"
          refine for_it (walk_str (z := z)) (fun i σ H' => H' = H ∧ ∃ v, σ = [some (.str z), v] ∧ (z.cps.toList.take i).all okC = true) ?_ (fun _ _ _ _ _ => trivial) ?_ ?_
          · exact ⟨rfl, none, rfl, rfl⟩
          · rintro i x σ H1 H2 hi ⟨rfl, v, rfl, ha⟩ ⟨rfl, c, hc, rfl⟩
            have hc' : z.cps.toList[i]? = some c := by rw [Array.getElem?_toList]; exact hc
            walk_at "rd"
            rw [le_a]
            by_cases d1 : 97 ≤ c
            · rw [decide_eq_true d1]
              refine iteT ?_
              walk_at "rd"
              rw [le_z]
              by_cases d2 : c ≤ 122
              · rw [decide_eq_true d2]
                refine iteF ?_
                refine ⟨rfl, _, rfl, all_take hc' ha ?_⟩
                unfold okC; rw [decide_eq_true d1, decide_eq_true d2]; rfl
              · rw [decide_eq_false d2]
                refine iteT ?_
                have : wordB (.str z) = false := by
                  show wordS z = false
                  unfold wordS; rw [all_no hc' (show okC c = false by unfold okC; rw [decide_eq_false d2, Bool.and_false]), Bool.and_false]
                rw [this] at k
                exact k
            · rw [decide_eq_false d1]
              refine iteF ?_
              walk_at "rd"
              refine iteT ?_
              have : wordB (.str z) = false := by
                show wordS z = false
                unfold wordS; rw [all_no hc' (show okC c = false by unfold okC; rw [decide_eq_false d1, Bool.false_and]), Bool.and_false]
              rw [this] at k
              exact k
          · rintro σ H1 ⟨rfl, v, rfl, ha⟩
            have e : (z.cps.toList.take z.cps.size) = z.cps.toList := List.take_of_length_le (by simp)
            rw [e] at ha
            have : wordB (.str z) = true := by
              show wordS z = true
              unfold wordS; rw [ha, decide_eq_true (show 1 ≤ z.length by omega), decide_eq_true (show z.length ≤ 8 by omega)]; rfl
            rw [this] at k
            exact k
        · rw [decide_eq_false c2]
          refine iteT ?_
          have : wordB (.str z) = false := by
            show wordS z = false
            unfold wordS; rw [decide_eq_false (show ¬ z.length ≤ 8 by omega), Bool.and_false, Bool.false_and]
          rw [this] at k
          exact k
      · rw [decide_eq_false c1]
        refine iteF ?_
        walk_at "rd"
        refine iteT ?_
        have : wordB (.str z) = false := by
          show wordS z = false
          unfold wordS; rw [decide_eq_false (show ¬ 1 ≤ z.length by omega), Bool.false_and, Bool.false_and]
        rw [this] at k
        exact k
    | int i => exact iteT (iteT k)
    | bl b => exact iteT (iteT k)
    | non => exact iteT (iteT k)
    | lst h => exact iteT (iteT k)
    | tup h => exact iteT (iteT k)
/-! ### modes -/
abbrev modesS : List Str := ["join", "inner", "apart", "must", "either", "never", "outside", "alone"]
abbrev modesV : List V := [.str "join", .str "inner", .str "apart", .str "must", .str "either", .str "never", .str "outside", .str "alone"]
def modeB (v : V) : Bool := strB v && inV v modesV
theorem strB_flat {v : V} (h : strB v = true) : flatV v = true := by
  cases v <;> first | rfl | cases h
def spIsMode : Sp := fun vs H Q _ => ∃ v, vs = [v] ∧ Thing H v ∧ Q (.bl (modeB v)) H
theorem ok_Mode_is_mode (T : Txt K mg a d) : FnOk P w K mg base CX0 1 a.Mode_is_mode d.Mode_is_mode ["thing"] spIsMode := by
  refine T.Mode_is_mode.ok sc_Mode_is_mode (fun vs H Q E h => ?_) (fun cdv A outer s H vs Q E hr h => ?_)
  · obtain ⟨v, rfl, _⟩ := h
    rfl
  · obtain ⟨v, rfl, hv, k⟩ := h
    refine ⟨_, (pss_one (ps_ret (pe_and (pe_callB call_isi (by rfl) T.n_isinstance (by decide +kernel) (pa_cons (pv 0) (pa_cons (pe_bltn (v := .ty "str") (u := .type "str") (by rfl) T.n_str (by decide +kernel) rfl) pa_nil))) (pe_one (pe_cmpR op_in_seq (pv 0) (ClX.pe_cval (pe_glob (v := .ref a.Mode) (by rfl) T.g_Mode rfl)) (by rfl)))))), ?_⟩
    dsimp only [cxOf]
    obtain ⟨ty, h1, h2⟩ := hv.isi (K := K)
    refine ⟨_, rfl, _, _, _, _, _, rfl, ClsV.ty _, h1, h2, _, rfl, ?_⟩
    obtain ⟨u, hu⟩ := T.c_Mode_ALL
    unfold modeB at k
    cases hb : strB v with
    | true =>
      rw [hb] at k
      refine iteT ⟨_, rfl, _, _, _, _, rfl, T.r_Mode, hu, _, _, rfl, .inr (T.q_Mode_ALL H), strB_flat hb, rfl, k⟩
    | false =>
      rw [hb] at k
      exact iteF k
theorem mode_thing {H : Hp} {m : Str} (h : m ∈ modesS) : Thing H (.str m) := by
  refine .str m ?_ ?_
  · have : modesS.all (fun m => decide (m.length ≤ 1000)) = true := by decide +kernel
    exact of_decide_eq_true (List.all_eq_true.mp this m h)
  · intro c hc
    have : modesS.all (fun m => m.cps.toList.all fun c => decide (c < 128)) = true := by decide +kernel
    exact of_decide_eq_true (List.all_eq_true.mp (List.all_eq_true.mp this m h) c hc)
theorem mode_isB {m : Str} (h : m ∈ modesS) : modeB (.str m) = true := by
  have : modesS.all (fun m => modeB (.str m)) = true := by decide +kernel
  exact List.all_eq_true.mp this m h
/-! ### Transaction(n), Database() -/
abbrev DB (a : Ad) := DbAt a.Database a.Transaction a.Write
def spTxI (a : Ad) : Sp := fun vs H Q _ => ∃ (x dx : Addr) (n : Int), vs = [.ref x, .int n] ∧ H x = some (.ins a.Transaction dx []) ∧ ∀ q, H q = none → q ≠ x → Q .non (upd (upd (upd H x (.ins a.Transaction dx [("number", .int n)])) q (.lst [.non])) x (.ins a.Transaction dx (txF n q)))
theorem ok_TransactionU_initU (T : Txt K mg a d) : FnOk P w K mg base CX0 1 a.TransactionU_initU d.TransactionU_initU ["self", "number"] (spTxI a) := by
  refine T.TransactionU_initU.ok sc_TransactionU_initU (fun vs H Q E h => ?_) (fun cdv A outer s H vs Q E hr h => ?_)
  · obtain ⟨x, dx, n, rfl, _⟩ := h
    rfl
  · obtain ⟨x, dx, n, rfl, hx, k⟩ := h
    have c1 := T.k_Transaction
    have n1 := T.na_Transaction_number
    have n2 := T.na_Transaction_reasons
    refine ⟨_, (pss_cons (ps_fld (pv 0) (pv 1) rfl)
  (pss_one (ps_fld (pv 0) (pe_lst (pa_cons pe_non pa_nil)) rfl))), ?_⟩
    dsimp only [cxOf]
    walk_at "rd"
    intro q hq
    have hqx : q ≠ x := fun e => by rw [e, upd_same] at hq; cases hq
    rw [upd_ne hqx] at hq
    have h1 : (upd (upd H x (.ins a.Transaction dx [("number", .int n)])) q (.lst [.non])) x = some (.ins a.Transaction dx [("number", .int n)]) := upd_oth (Ne.symm hqx) upd_same
    walk_at "rd"
    exact k q hq hqx
def spDbI (a : Ad) : Sp := fun vs H Q _ => ∃ (x dx : Addr), vs = [.ref x] ∧ H x = some (.ins a.Database dx []) ∧
  ∀ H' L, DB a H' L ⟨[], [none], [], 0, 0⟩ → L.db = x → Kp (fun b => b = x) H H' → (∀ b, Mut L b → b = x ∨ H b = none) → Q .non H'
theorem ok_DatabaseU_initU (T : Txt K mg a d) : FnOk P w K mg base CX0 1 a.DatabaseU_initU d.DatabaseU_initU ["self"] (spDbI a) := by
  refine T.DatabaseU_initU.ok sc_DatabaseU_initU (fun vs H Q E h => ?_) (fun cdv A outer s H vs Q E hr h => ?_)
  · obtain ⟨x, dx, rfl, _⟩ := h
    rfl
  · obtain ⟨x, dx, rfl, hx, k⟩ := h
    have c1 := T.k_Database
    have n1 := T.na_Database_rows
    have n2 := T.na_Database_stack
    have n3 := T.na_Database_entered
    have n4 := T.na_Database_floor
    have n5 := T.na_Database_opened
    refine ⟨_, (pss_cons (ps_fld (pv 0) (pe_lst pa_nil) rfl)
  (pss_cons (ps_fld (pv 0) (pe_lst (pa_cons pe_non pa_nil)) rfl)
  (pss_cons (ps_fld (pv 0) (pe_lst pa_nil) rfl)
  (pss_cons (ps_fld (pv 0) pe_int rfl)
  (pss_one (ps_fld (pv 0) pe_int rfl)))))), ?_⟩
    dsimp only [cxOf]
    walk_at "rd"
    intro r hr0
    have nxr := ne_of_none hx hr0
    walk_at "rd"
    intro s1 hs
    obtain ⟨nsx, hs1⟩ := none_upd hs
    obtain ⟨nsr, hs2⟩ := none_upd hs1
    walk_at "rd"
    intro e1 he
    obtain ⟨nex, he1⟩ := none_upd he
    obtain ⟨nes, he2⟩ := none_upd he1
    obtain ⟨nex, he3⟩ := none_upd he2
    obtain ⟨ner, he4⟩ := none_upd he3
    walk_at "rd"
    refine k _ ⟨x, dx, r, s1, e1, [], [none]⟩ ⟨upd_same, ?_, ?_, ?_, .nil, .cons trivial .nil, Ne.symm nsr, Ne.symm ner, Ne.symm nes, (fun t m => by simp at m), by simp, by simp, by simp⟩ rfl ?_ ?_
    · show (_ : Hp) r = some (.lst [])
      walk_at "hp"
    · show (_ : Hp) s1 = some (.lst [.non])
      walk_at "hp"
    · show (_ : Hp) e1 = some (.lst [])
      walk_at "hp"
    · walk_at "kp"
    · intro b hb
      rcases hb with rfl | rfl | rfl | rfl | ⟨t, m, rfl⟩ | ⟨w, m, rfl⟩
      · exact .inl rfl
      · exact .inr hr0
      · exact .inr hs2
      · exact .inr he4
      · simp at m
      · simp at m
/-! ### the database's methods -/
structure Sm (D : Db) : Prop where
  e : D.entered.length ≤ 100000
  s : D.stack.length ≤ 100000
  r : ∀ x, some x ∈ D.stack → x.rs.length ≤ 100000
inductive EK
  | missing (m : Str)
  | present (m : Str)
  | doomed (z : Str)
  | refused
  | noblock
def errE (a : Ad) (e : EK) (H : Hp) (E : XK) : Prop := match e with
  | .missing m => errQ a.Missing ef_Missing [.str m] H E
  | .present m => errQ a.Present ef_Present [.str m] H E
  | .doomed z => errQ a.Doomed ef_Doomed [.str z] H E
  | .refused => errQ a.Refused ef_Refused [] H E
  | .noblock => errQ a.NoBlock ef_NoBlock [] H E
/-- what a method leaves: the state, and an error or None -/
def outE (a : Ad) (r : Db × Option EK) (H : Hp) (L : Lay) (Q : VK) (E : XK) : Prop := ∀ H' L', DB a H' L' r.1 → Fr H H' L L' → match r.2 with
  | none => Q .non H'
  | some e => errE a e H' E
theorem outE.fr {a : Ad} {r : Db × Option EK} {H H1 : Hp} {L L1 : Lay} {Q : VK} {E : XK} (k : outE a r H L Q E) (f : Fr H H1 L L1) : outE a r H1 L1 Q E := fun H' L' d f' => k H' L' d (f.trans f')
def plainD (D : Db) (z : Str) : Db := { D with entered := z :: D.entered }
theorem outE.putE {a : Ad} {H : Hp} {L : Lay} {D : Db} {z : Str} {Q : VK} {E : XK} (hD : DB a H L D) (k : outE a (plainD D z, none) H L Q E) : Q .non (upd H L.e (.lst (rv V.str D.entered ++ [.str z]))) := by
  have := k _ _ (hD.setE (z :: D.entered)) (Fr.set DbAt.mutE)
  rw [rv_cons] at this
  exact this
def beginD (D : Db) : Db := { D with stack := some ⟨D.opened, [none]⟩ :: D.stack, opened := D.opened + 1, entered := "base" :: D.entered }
def spBegin (a : Ad) : Sp := fun vs H Q E => ∃ L D, vs = [.ref L.db] ∧ DB a H L D ∧ Sm D ∧ outE a (beginD D, none) H L Q E
theorem ts_len {a : Ad} {H : Hp} {L : Lay} {D : Db} (h : DB a H L D) (m : Sm D) : (rv tV L.ts).length < sizeLine := by
  rw [rv_len, h.txs.len, sizeLine_eq]
  have := m.s
  omega
theorem es_len {D : Db} (m : Sm D) : (rv V.str D.entered).length < sizeLine := by
  rw [rv_len, sizeLine_eq]
  have := m.e
  omega
theorem ok_Database_begin (T : Txt K mg a d) : FnOk P w K mg base CX0 3 a.Database_begin d.Database_begin ["self"] (spBegin a) := by
  have G_TransactionU_initU : FnOk P w K mg base CX0 1 a.TransactionU_initU d.TransactionU_initU ["self", "number"] (spTxI a) := ok_TransactionU_initU T
  refine T.Database_begin.ok sc_Database_begin (fun vs H Q E h => ?_) (fun cdv A outer s H vs Q E hr h => ?_)
  · obtain ⟨L, D, rfl, _⟩ := h
    rfl
  · obtain ⟨L, D, rfl, hD, hm, k⟩ := h
    have c1 := T.k_Database
    have n1 := T.na_Database_stack
    have n2 := T.na_Database_entered
    have n3 := T.na_Database_opened
    have h1 := hD.db
    have h2 := hD.s
    have h3 := hD.e
    have l1 := ts_len hD hm
    have l2 := es_len hm
    refine ⟨_, (pss_cons (ps_expr (pe_bm PySem.F.plainAttrs_list PySem.F.slot_list_append PySem.F.type_list_append mt_append (pe_fld (pv 0) rfl) (pa_cons (pe_make T.mk_Transaction G_TransactionU_initU (hr.mono (by decide)) (by rfl) T.g_Transaction T.b_TransactionU_initU .nil pass0 (pa_cons (pe_fld (pv 0) rfl) pa_nil)) pa_nil)))
  (pss_cons (ps_fldaug (pv 0) pe_int in_add)
  (pss_one (ps_expr (pe_bm PySem.F.plainAttrs_list PySem.F.slot_list_append PySem.F.type_list_append mt_append (pe_fld (pv 0) rfl) (pa_cons pe_str pa_nil)))))), ?_⟩
    dsimp only [cxOf]
    walk_at "rd"
    intro x dx hx hdx nxd
    refine ⟨x, dx, D.opened, rfl, upd_same, fun q hq nq => ⟨rfl, ?_⟩⟩
    obtain ⟨_, hq1⟩ := none_upd hq
    obtain ⟨nqd, hq2⟩ := none_upd hq1
    generalize hH1 : upd (upd (upd (upd (upd H dx (HO.own x)) x (HO.ins a.Transaction dx [])) x (HO.ins a.Transaction dx [("number", V.int D.opened)])) q (HO.lst [V.non])) x (HO.ins a.Transaction dx (txF D.opened q)) = H1
    have k1 : Same H H1 := fun b u e => by
      rw [← hH1]
      exact upd_oth (ne_of_none e hx) (upd_oth (ne_of_none e hq2) (upd_oth (ne_of_none e hx) (upd_oth (ne_of_none e hx) (upd_oth (ne_of_none e hdx) e))))
    have hx1 : H1 x = some (.ins a.Transaction dx (txF D.opened q)) := by rw [← hH1]; exact upd_same
    have hq3 : H1 q = some (.lst (rv oV [none])) := by rw [← hH1]; exact upd_oth nq upd_same
    have hD1 : DB a H1 L D := hD.keep fun b u _ e => k1 b u e
    have hD2 := hD1.pushT (t := ⟨x, dx, q⟩) hx1 hq3 (by simp) (hD.fresh hq2 )
    have f2 : Fr H _ L _ := Fr.pushT (t := ⟨x, dx, q⟩) (o := .lst (rv tV (some ⟨x, dx, q⟩ :: L.ts))) (.of_same k1) hq2
    rw [← show rv tV L.ts ++ [V.ref x] = rv tV (some ⟨x, dx, q⟩ :: L.ts) from (rv_cons (f := tV) (x := some ⟨x, dx, q⟩)).symm] at hD2 f2
    have g1 := hD1.s
    have g2 : upd H1 L.s (HO.lst (rv tV L.ts ++ [V.ref x])) L.db = some (.ins a.Database L.dx (dbF L.r L.s L.e D.floor D.opened)) := hD2.db
    have g3 : upd H1 L.s (HO.lst (rv tV L.ts ++ [V.ref x])) L.e = some (.lst (rv V.str D.entered)) := hD2.e
    have g4 : L.e ≠ L.db := Ne.symm (ins_ne h1 h3)
    walk_at "rd"
    have hD4 := (hD2.setD D.floor (D.opened + 1)).setE ("base" :: D.entered)
    have f4 := (f2.trans (Fr.set (o := .ins a.Database L.dx (dbF L.r L.s L.e D.floor (D.opened + 1))) DbAt.mutD)).trans (Fr.set (o := .lst (rv V.str ("base" :: D.entered))) DbAt.mutE)
    rw [rv_cons] at hD4 f4
    exact k _ _ hD4 f4
/-! ### enter -/
def aloneD (D : Db) (m : Str) : Db × Option EK :=
  if decide (V.str m = V.str "must") = true then (D, some (.missing m)) else if inV (.str m) [.str "either", .str "never", .str "outside"] = true then (plainD D "plain", none) else (beginD D, none)
def spAlone (a : Ad) : Sp := fun vs H Q E => ∃ L D m, vs = [.ref L.db, .str m] ∧ DB a H L D ∧ Sm D ∧ outE a (aloneD D m) H L Q E
theorem ok_Database_enter_alone (T : Txt K mg a d) : FnOk P w K mg base (L2.CX P w) 4 a.Database_enter_alone d.Database_enter_alone ["self", "mode"] (spAlone a) := by
  have G_Database_begin : FnOk P w K mg base CX0 3 a.Database_begin d.Database_begin ["self"] (spBegin a) := ok_Database_begin T
  refine T.Database_enter_alone.okX sc_Database_enter_alone (fun vs H Q E h => ?_) (fun cdv A outer s H vs Q E hr h => ?_)
  · obtain ⟨L, D, m, rfl, _⟩ := h
    rfl
  · obtain ⟨L, D, m, rfl, hD, hm, k⟩ := h
    have c1 := T.k_Database
    have n2 := T.na_Database_entered
    have h1 := hD.db
    have h3 := hD.e
    have l2 := es_len hm
    obtain ⟨u1, k1⟩ := T.c_Mode_MUST
    obtain ⟨u2, k2⟩ := T.c_Mode_EITHER
    obtain ⟨u3, k3⟩ := T.c_Mode_NEVER
    obtain ⟨u4, k4⟩ := T.c_Mode_OUTSIDE
    have r1 := T.r_Mode
    refine ⟨_, (pss_cons (ps_if (pt_cmpR op_eq (pv 1) (ClX.pe_cval (pe_glob (v := .ref a.Mode) (by rfl) T.g_Mode rfl)) (nomark _)) (pss_one (ps_raise rfl (takes_of rfl rfl rfl rfl) (pmk_err T.e_Missing T.g_Missing T.n_super hr (pa_cons (pv 1) pa_nil)))) pss_nil)
  (pss_one (ps_if (pt_cmpR op_in_seq (pv 1) (pe_tup (pa_cons (ClX.pe_cval (pe_glob (v := .ref a.Mode) (by rfl) T.g_Mode rfl)) (pa_cons (ClX.pe_cval (pe_glob (v := .ref a.Mode) (by rfl) T.g_Mode rfl)) (pa_cons (ClX.pe_cval (pe_glob (v := .ref a.Mode) (by rfl) T.g_Mode rfl)) pa_nil)))) (by rfl)) (pss_one (ps_expr (pe_bm PySem.F.plainAttrs_list PySem.F.slot_list_append PySem.F.type_list_append mt_append (pe_fld (pv 0) rfl) (pa_cons pe_str pa_nil)))) (pss_one (ps_expr (pe_meth0 (pv 0) T.k_Database T.m_Database_begin G_Database_begin (hr.mono (by decide)) T.b_Database_begin .nil pass0)))))), ?_⟩
    dsimp only [cxOf]
    walk_at "rd"
    unfold aloneD at k
    refine ite2 (fun c0 => ?_) (fun c0 => ?_)
    · rw [if_pos c0] at k
      walk_at "rd"
      exact k H L hD Fr.refl
    · rw [if_neg c0] at k
      walk_at "rd"
      intro p hp
      have hD1 : DB a _ L D := hD.new (o := .tup [.str "either", .str "never", .str "outside"]) hp
      have f1 : Fr H _ L L := Fr.refl.new (o := .tup [.str "either", .str "never", .str "outside"]) hp
      have h1 := hD1.db
      have h3 := hD1.e
      have hp1 := upd_same (H := H) (a := p) (o := .tup [.str "either", .str "never", .str "outside"])
      generalize upd H p (.tup [.str "either", .str "never", .str "outside"]) = H1 at hD1 f1 h1 h3 hp1 ⊢
      walk_at "rd"
      refine ite2 (fun c1 => ?_) (fun c1 => ?_)
      · rw [if_pos (show inV (V.str m) [V.str "either", V.str "never", V.str "outside"] = true from c1)] at k
        walk_at "rd"
        exact (k.fr f1).putE hD1
      · rw [if_neg (show ¬ inV (V.str m) [V.str "either", V.str "never", V.str "outside"] = true from c1)] at k
        walk_at "rd"
        exact ⟨L, D, rfl, hD1, hm, k.fr f1⟩
def lvlD (D : Db) (m : Str) (n : Int) (y : Option Str) (rs : List (Option Str)) (st : List (Option Tx)) : Db × Option EK :=
  if inV (.str m) [.str "never", .str "alone"] = true then (D, some (.present m)) else
  if decide (V.str m = V.str "inner") = true then (match y with
    | some z => (D, some (.doomed z))
    | none => (plainD { D with stack := some ⟨n, none :: y :: rs⟩ :: st } "level", none)) else
  if decide (V.str m = V.str "apart") = true then (beginD D, none) else
  if decide (V.str m = V.str "outside") = true then (plainD { D with stack := none :: D.stack } "outside", none) else (plainD D "joined", none)
def spInside (a : Ad) : Sp := fun vs H Q E => ∃ L D m t ts n y rs st, vs = [.ref L.db, .str m, .ref t.t] ∧ DB a H L D ∧ Sm D ∧ L.ts = some t :: ts ∧ D.stack = some ⟨n, y :: rs⟩ :: st ∧ outE a (lvlD D m n y rs st) H L Q E
theorem ok_Database_enter_inside (T : Txt K mg a d) : FnOk P w K mg base (L2.CX P w) 4 a.Database_enter_inside d.Database_enter_inside ["self", "mode", "present"] (spInside a) := by
  have G_Database_begin : FnOk P w K mg base CX0 3 a.Database_begin d.Database_begin ["self"] (spBegin a) := ok_Database_begin T
  refine T.Database_enter_inside.okX sc_Database_enter_inside (fun vs H Q E h => ?_) (fun cdv A outer s H vs Q E hr h => ?_)
  · obtain ⟨L, D, m, t, ts, n, y, rs, st, rfl, _⟩ := h
    rfl
  · obtain ⟨L, D, m, t, ts, n, y, rs, st, rfl, hD0, hm, et, es, k⟩ := h
    have c1 := T.k_Database
    have c2 := T.k_Transaction
    have n1 := T.na_Database_stack
    have n2 := T.na_Database_entered
    have n3 := T.na_Transaction_reasons
    obtain ⟨u1, k1⟩ := T.c_Mode_NEVER
    obtain ⟨u2, k2⟩ := T.c_Mode_ALONE
    obtain ⟨u3, k3⟩ := T.c_Mode_INNER
    obtain ⟨u4, k4⟩ := T.c_Mode_APART
    obtain ⟨u5, k5⟩ := T.c_Mode_OUTSIDE
    have r1 := T.r_Mode
    refine ⟨_, (pss_cons (ps_if (pt_cmpR op_in_seq (pv 1) (pe_tup (pa_cons (ClX.pe_cval (pe_glob (v := .ref a.Mode) (by rfl) T.g_Mode rfl)) (pa_cons (ClX.pe_cval (pe_glob (v := .ref a.Mode) (by rfl) T.g_Mode rfl)) pa_nil))) (by rfl)) (pss_one (ps_raise rfl (takes_of rfl rfl rfl rfl) (pmk_err T.e_Present T.g_Present T.n_super hr (pa_cons (pv 1) pa_nil)))) pss_nil)
  (pss_one (ps_if (pt_cmpR op_eq (pv 1) (ClX.pe_cval (pe_glob (v := .ref a.Mode) (by rfl) T.g_Mode rfl)) (nomark _)) (pss_cons (ps_if (pt_cmpR op_notN (pe_ix ix_list (pe_fld (pv 2) rfl) (pe_un un_neg pe_int) (fun _ _ => rfl)) pe_non (nomark _)) (pss_one (ps_raise rfl (takes_of rfl rfl rfl rfl) (pmk_err T.e_Doomed T.g_Doomed T.n_super hr (pa_cons (pe_ix ix_list (pe_fld (pv 2) rfl) (pe_un un_neg pe_int) (fun _ _ => rfl)) pa_nil)))) pss_nil)
  (pss_cons (ps_expr (pe_bm PySem.F.plainAttrs_list PySem.F.slot_list_append PySem.F.type_list_append mt_append (pe_fld (pv 2) rfl) (pa_cons pe_non pa_nil)))
  (pss_one (ps_expr (pe_bm PySem.F.plainAttrs_list PySem.F.slot_list_append PySem.F.type_list_append mt_append (pe_fld (pv 0) rfl) (pa_cons pe_str pa_nil)))))) (pss_one (ps_if (pt_cmpR op_eq (pv 1) (ClX.pe_cval (pe_glob (v := .ref a.Mode) (by rfl) T.g_Mode rfl)) (nomark _)) (pss_one (ps_expr (pe_meth0 (pv 0) T.k_Database T.m_Database_begin G_Database_begin (hr.mono (by decide)) T.b_Database_begin .nil pass0))) (pss_one (ps_if (pt_cmpR op_eq (pv 1) (ClX.pe_cval (pe_glob (v := .ref a.Mode) (by rfl) T.g_Mode rfl)) (nomark _)) (pss_cons (ps_expr (pe_bm PySem.F.plainAttrs_list PySem.F.slot_list_append PySem.F.type_list_append mt_append (pe_fld (pv 0) rfl) (pa_cons pe_non pa_nil)))
  (pss_one (ps_expr (pe_bm PySem.F.plainAttrs_list PySem.F.slot_list_append PySem.F.type_list_append mt_append (pe_fld (pv 0) rfl) (pa_cons pe_str pa_nil))))) (pss_one (ps_expr (pe_bm PySem.F.plainAttrs_list PySem.F.slot_list_append PySem.F.type_list_append mt_append (pe_fld (pv 0) rfl) (pa_cons pe_str pa_nil))))))))))), ?_⟩
    dsimp only [cxOf]
    walk_at "rd"
    intro p hp
    have hD : DB a _ L D := hD0.new (o := .tup [.str "never", .str "alone"]) hp
    have f1 : Fr H _ L L := Fr.refl.new (o := .tup [.str "never", .str "alone"]) hp
    have hp1 := upd_same (H := H) (a := p) (o := .tup [.str "never", .str "alone"])
    generalize upd H p (.tup [.str "never", .str "alone"]) = H1 at hD f1 hp1 ⊢
    replace k := k.fr f1
    have mt : some t ∈ L.ts := by rw [et]; exact List.mem_cons_self
    have h1 := hD.db
    have h2 := hD.s
    have h3 := hD.e
    have hx := hD.txs
    rw [et, es] at hx
    obtain ⟨h4, h5, h6⟩ : TxAt a.Transaction H1 (some t) (some ⟨n, y :: rs⟩) := by cases hx; assumption
    have e1 := rv_at (f := oV) (x := y) (l := rs)
    have l2 := es_len hm
    have l1 := ts_len hD hm
    unfold lvlD at k
    walk_at "rd"
    refine ite2 (fun b1 => ?_) (fun b1 => ?_)
    · rw [if_pos (show inV (V.str m) [V.str "never", V.str "alone"] = true from b1)] at k
      walk_at "rd"
      exact k H1 L hD Fr.refl
    rw [if_neg (show ¬ inV (V.str m) [V.str "never", V.str "alone"] = true from b1)] at k
    walk_at "rd"
    refine ite2 (fun b2 => ?_) (fun b2 => ?_)
    · rw [if_pos b2] at k
      have hd : ∀ z, H1 t.q ≠ some (.ins a.Database L.dx z) := fun z e => by rw [h5] at e; cases e
      walk_at "rd"
      cases y with
      | some z =>
        refine iteT ?_
        walk_at "rd"
        exact k H1 L hD Fr.refl
      | none =>
        refine iteF ?_
        have hD2 := hD.setQ (rs := none :: none :: rs) et es (by simp)
        have f2 := Fr.set (H := H1) (o := .lst (rv oV (none :: none :: rs))) (DbAt.mutQ mt)
        rw [show rv oV (none :: none :: rs) = rv oV (none :: rs) ++ [V.non] from rv_cons] at hD2 f2
        have g1 := hD2.db
        have g2 := hD2.e
        dsimp only at g1 g2
        have l3 : (rv oV (none :: rs)).length < sizeLine := by
          rw [rv_len, sizeLine_eq]
          have := hm.r ⟨n, none :: rs⟩ (by rw [es]; exact List.mem_cons_self)
          dsimp only at this
          omega
        walk_at "rd"
        have z := outE.putE hD2 (k.fr f2)
        exact z
    rw [if_neg b2] at k
    walk_at "rd"
    refine ite2 (fun b3 => ?_) (fun b3 => ?_)
    · rw [if_pos b3] at k
      walk_at "rd"
      exact ⟨L, D, rfl, hD, hm, k⟩
    rw [if_neg b3] at k
    walk_at "rd"
    refine ite2 (fun b4 => ?_) (fun b4 => ?_)
    · rw [if_pos b4] at k
      have hD2 := hD.pushN
      have f2 := Fr.pushN (H := H1) (L := L) (o := .lst (rv tV (none :: L.ts)))
      rw [show rv tV (none :: L.ts) = rv tV L.ts ++ [V.non] from rv_cons] at hD2 f2
      have g1 := hD2.db
      have g2 := hD2.e
      dsimp only at g1 g2
      walk_at "rd"
      have z := outE.putE hD2 (k.fr f2)
      exact z
    rw [if_neg b4] at k
    walk_at "rd"
    exact k.putE hD
def enterD (D : Db) (m : Str) : Db × Option EK := match D.stack with
  | none :: _ => aloneD D m
  | some ⟨n, y :: rs⟩ :: st => lvlD D m n y rs st
  | _ => (D, none)
def spEnter (a : Ad) : Sp := fun vs H Q E => ∃ L D m, vs = [.ref L.db, .str m] ∧ m ∈ modesS ∧ DB a H L D ∧ Sm D ∧ outE a (enterD D m) H L Q E
theorem ok_Database_enter (T : Txt K mg a d) : FnOk P w K mg base (L2.CX P w) 5 a.Database_enter d.Database_enter ["self", "mode"] (spEnter a) := by
  have G_Mode_is_mode : FnOk P w K mg base CX0 1 a.Mode_is_mode d.Mode_is_mode ["thing"] spIsMode := ok_Mode_is_mode T
  have G_Database_enter_alone : FnOk P w K mg base (L2.CX P w) 4 a.Database_enter_alone d.Database_enter_alone ["self", "mode"] (spAlone a) := ok_Database_enter_alone T
  have G_Database_enter_inside : FnOk P w K mg base (L2.CX P w) 4 a.Database_enter_inside d.Database_enter_inside ["self", "mode", "present"] (spInside a) := ok_Database_enter_inside T
  refine T.Database_enter.okX sc_Database_enter (fun vs H Q E h => ?_) (fun cdv A outer s H vs Q E hr h => ?_)
  · obtain ⟨L, D, m, rfl, _⟩ := h
    rfl
  · obtain ⟨L, D, m, rfl, hmm, hD, hm, k⟩ := h
    have c1 := T.k_Database
    have n1 := T.na_Database_stack
    have h1 := hD.db
    have h2 := hD.s
    refine ⟨_, (pss_cons (ps_if (pt_not (pt_val (pe_smeth (pe_glob (v := .ref a.Mode) (by rfl) T.g_Mode rfl) T.r_Mode T.s_Mode_is_mode G_Mode_is_mode (hr.mono (by decide)) T.Mode_is_mode.kp T.b_Mode_is_mode .nil pass0 (pa_cons (pv 1) pa_nil)))) (pss_one ps_no) pss_nil)
  (pss_one (ps_if (pt_cmpR op_isN (pe_ix ix_list (pe_fld (pv 0) rfl) (pe_un un_neg pe_int) (fun _ _ => rfl)) pe_non (nomark _)) (pss_one (ps_expr (pe_meth (pv 0) T.k_Database T.m_Database_enter_alone G_Database_enter_alone (hr.mono (by decide)) T.b_Database_enter_alone .nil (passes_call (takes_of rfl rfl rfl rfl) (fun _ _ _ _ h => h)) (pa_cons (pv 1) pa_nil)))) (pss_one (ps_expr (pe_meth (pv 0) T.k_Database T.m_Database_enter_inside G_Database_enter_inside (hr.mono (by decide)) T.b_Database_enter_inside .nil (passes_call (takes_of rfl rfl rfl rfl) (fun _ _ _ _ h => h)) (pa_cons (pv 1) (pa_cons (pe_ix ix_list (pe_fld (pv 0) rfl) (pe_un un_neg pe_int) (fun _ _ => rfl)) pa_nil)))))))), ?_⟩
    dsimp only [cxOf]
    have tm : Thing H (.str m) := mode_thing hmm
    have bm := mode_isB hmm
    walk_at "rd"
    rw [bm]
    refine iteF ?_
    unfold enterD at k
    rcases hD.top with ⟨ts, st, et, es⟩ | ⟨t, ts, x, st, y, rs, et, es, ex, h4, h5⟩
    · rw [es] at k
      rw [et] at h2
      have e1 := rv_at (f := tV) (x := none) (l := ts)
      walk_at "rd"
      exact ⟨L, D, m, rfl, hD, hm, k⟩
    · obtain ⟨n, rs0⟩ := x
      dsimp only at ex
      subst ex
      rw [es] at k
      rw [et] at h2
      have e1 := rv_at (f := tV) (x := some t) (l := ts)
      walk_at "rd"
      exact ⟨L, D, m, t, ts, n, y, rs, st, rfl, hD, hm, et, es, k⟩
/-! ### properties -/
def openD (D : Db) : Bool := match D.stack with
  | some _ :: _ => true
  | _ => false
def reasonD (D : Db) : Option Str := match D.stack with
  | some ⟨_, y :: _⟩ :: _ => y
  | _ => none
def levelsD (D : Db) : Nat := match D.stack with
  | some x :: _ => x.rs.length
  | _ => 0
def spProp (a : Ad) (f : Db → V) : Sp := fun vs H Q _ => ∃ L D, vs = [.ref L.db] ∧ DB a H L D ∧ Sm D ∧ Q (f D) H
theorem ok_Database_is_open (T : Txt K mg a d) : FnOk P w K mg base CX0 1 a.Database_is_open d.Database_is_open ["self"] (spProp a fun D => .bl (openD D)) := by
  refine T.Database_is_open.ok sc_Database_is_open (fun vs H Q E h => ?_) (fun cdv A outer s H vs Q E hr h => ?_)
  · obtain ⟨L, D, rfl, _⟩ := h
    rfl
  · obtain ⟨L, D, rfl, hD, hm, k⟩ := h
    have c1 := T.k_Database
    have n1 := T.na_Database_stack
    have h1 := hD.db
    have h2 := hD.s
    refine ⟨_, (pss_one (ps_ret (pe_cmpR op_notN (pe_ix ix_list (pe_fld (pv 0) rfl) (pe_un un_neg pe_int) (fun _ _ => rfl)) pe_non (nomark _)))), ?_⟩
    dsimp only [cxOf]
    unfold openD at k
    dsimp only at k
    rcases hD.top with ⟨ts, st, et, es⟩ | ⟨t, ts, x, st, y, rs, et, es, ex, h4, h5⟩
    · rw [es] at k
      rw [et] at h2
      have e1 := rv_at (f := tV) (x := none) (l := ts)
      walk_at "rd"
      exact k
    · rw [es] at k
      rw [et] at h2
      have e1 := rv_at (f := tV) (x := some t) (l := ts)
      walk_at "rd"
      exact k
theorem ok_Database_is_doomed (T : Txt K mg a d) : FnOk P w K mg base CX0 1 a.Database_is_doomed d.Database_is_doomed ["self"] (spProp a fun D => .bl (reasonD D).isSome) := by
  refine T.Database_is_doomed.ok sc_Database_is_doomed (fun vs H Q E h => ?_) (fun cdv A outer s H vs Q E hr h => ?_)
  · obtain ⟨L, D, rfl, _⟩ := h
    rfl
  · obtain ⟨L, D, rfl, hD, hm, k⟩ := h
    have c1 := T.k_Database
    have c2 := T.k_Transaction
    have n1 := T.na_Database_stack
    have n3 := T.na_Transaction_reasons
    have h1 := hD.db
    have h2 := hD.s
    refine ⟨_, (pss_one (ps_ret (pe_and (pe_cmpR op_notN (pe_ix ix_list (pe_fld (pv 0) rfl) (pe_un un_neg pe_int) (fun _ _ => rfl)) pe_non (nomark _)) (pe_one (pe_cmpR op_notN (pe_ix ix_list (pe_fld (pe_ix ix_list (pe_fld (pv 0) rfl) (pe_un un_neg pe_int) (fun _ _ => rfl)) rfl) (pe_un un_neg pe_int) (fun _ _ => rfl)) pe_non (nomark _)))))), ?_⟩
    dsimp only [cxOf]
    unfold reasonD at k
    dsimp only at k
    rcases hD.top with ⟨ts, st, et, es⟩ | ⟨t, ts, x, st, y, rs, et, es, ex, h4, h5⟩
    · rw [es] at k
      rw [et] at h2
      have e1 := rv_at (f := tV) (x := none) (l := ts)
      walk_at "rd"
      exact iteF k
    · obtain ⟨n, rs0⟩ := x
      dsimp only at ex
      subst ex
      rw [es] at k
      rw [et] at h2
      have e1 := rv_at (f := tV) (x := some t) (l := ts)
      have e2 := rv_at (f := oV) (x := y) (l := rs)
      walk_at "rd"
      cases y <;> exact k
theorem ok_Database_reason (T : Txt K mg a d) : FnOk P w K mg base CX0 1 a.Database_reason d.Database_reason ["self"] (spProp a fun D => oV (reasonD D)) := by
  refine T.Database_reason.ok sc_Database_reason (fun vs H Q E h => ?_) (fun cdv A outer s H vs Q E hr h => ?_)
  · obtain ⟨L, D, rfl, _⟩ := h
    rfl
  · obtain ⟨L, D, rfl, hD, hm, k⟩ := h
    have c1 := T.k_Database
    have c2 := T.k_Transaction
    have n1 := T.na_Database_stack
    have n3 := T.na_Transaction_reasons
    have h1 := hD.db
    have h2 := hD.s
    refine ⟨_, (pss_one (ps_ret (pe_ifExp (pt_cmpR op_isN (pe_ix ix_list (pe_fld (pv 0) rfl) (pe_un un_neg pe_int) (fun _ _ => rfl)) pe_non (nomark _)) pe_non (pe_ix ix_list (pe_fld (pe_ix ix_list (pe_fld (pv 0) rfl) (pe_un un_neg pe_int) (fun _ _ => rfl)) rfl) (pe_un un_neg pe_int) (fun _ _ => rfl))))), ?_⟩
    dsimp only [cxOf]
    unfold reasonD at k
    dsimp only at k
    rcases hD.top with ⟨ts, st, et, es⟩ | ⟨t, ts, x, st, y, rs, et, es, ex, h4, h5⟩
    · rw [es] at k
      rw [et] at h2
      have e1 := rv_at (f := tV) (x := none) (l := ts)
      walk_at "rd"
      exact iteT k
    · obtain ⟨n, rs0⟩ := x
      dsimp only at ex
      subst ex
      rw [es] at k
      rw [et] at h2
      have e1 := rv_at (f := tV) (x := some t) (l := ts)
      have e2 := rv_at (f := oV) (x := y) (l := rs)
      walk_at "rd"
      exact k
theorem ok_Database_levels (T : Txt K mg a d) : FnOk P w K mg base CX0 1 a.Database_levels d.Database_levels ["self"] (spProp a fun D => .int (levelsD D : Int)) := by
  refine T.Database_levels.ok sc_Database_levels (fun vs H Q E h => ?_) (fun cdv A outer s H vs Q E hr h => ?_)
  · obtain ⟨L, D, rfl, _⟩ := h
    rfl
  · obtain ⟨L, D, rfl, hD, hm, k⟩ := h
    have c1 := T.k_Database
    have c2 := T.k_Transaction
    have n1 := T.na_Database_stack
    have n3 := T.na_Transaction_reasons
    have h1 := hD.db
    have h2 := hD.s
    refine ⟨_, (pss_one (ps_ret (pe_ifExp (pt_cmpR op_isN (pe_ix ix_list (pe_fld (pv 0) rfl) (pe_un un_neg pe_int) (fun _ _ => rfl)) pe_non (nomark _)) pe_int (pe_callB call_len_seq (by rfl) T.n_len PySem.boot_len (pa_cons (pe_fld (pe_ix ix_list (pe_fld (pv 0) rfl) (pe_un un_neg pe_int) (fun _ _ => rfl)) rfl) pa_nil))))), ?_⟩
    dsimp only [cxOf]
    unfold levelsD at k
    dsimp only at k
    rcases hD.top with ⟨ts, st, et, es⟩ | ⟨t, ts, x, st, y, rs, et, es, ex, h4, h5⟩
    · rw [es] at k
      rw [et] at h2
      have e1 := rv_at (f := tV) (x := none) (l := ts)
      walk_at "rd"
      exact iteT k
    · obtain ⟨n, rs0⟩ := x
      dsimp only at ex
      subst ex
      rw [es] at k
      rw [et] at h2
      have e1 := rv_at (f := tV) (x := some t) (l := ts)
      walk_at "rd"
      rw [rv_len]
      exact k
theorem ok_Database_depth (T : Txt K mg a d) : FnOk P w K mg base CX0 1 a.Database_depth d.Database_depth ["self"] (spProp a fun D => .int (D.entered.length : Int)) := by
  refine T.Database_depth.ok sc_Database_depth (fun vs H Q E h => ?_) (fun cdv A outer s H vs Q E hr h => ?_)
  · obtain ⟨L, D, rfl, _⟩ := h
    rfl
  · obtain ⟨L, D, rfl, hD, hm, k⟩ := h
    have c1 := T.k_Database
    have n1 := T.na_Database_entered
    have h1 := hD.db
    have h2 := hD.e
    refine ⟨_, (pss_one (ps_ret (pe_callB call_len_seq (by rfl) T.n_len PySem.boot_len (pa_cons (pe_fld (pv 0) rfl) pa_nil)))), ?_⟩
    dsimp only [cxOf]
    walk_at "rd"
    rw [rv_len]
    exact k
/-! ### doom, leave -/
theorem bd_doom (T : Txt K mg a d) : Binds K d.Database_doom ["self", "first"] [] := by
  obtain ⟨ds, h1, h2⟩ := T.Database_doom.binds1 (ps := ["self", "first"]) 2 1 (by simp) rfl fun T kV doc pm an cdv ct us its hu hi => match us, hu, its, hi with | [_, _], _, [_], _ => ⟨_, rfl, rfl⟩
  cases h1
  exact h2
theorem bd_leave0 (T : Txt K mg a d) : ∃ ds, Vals [V.non, .bl true] ds ∧ Binds K d.Database_leave ["self", "error", "commits"] ds :=
  T.Database_leave.binds (ps := ["self", "error", "commits"]) 1 0 (by simp) rfl (fun T D doc pm an cdv ct us its ks hu hi hk => match us, hu, its, hi, ks, hk with | [_], _, [_], _, [_], _ => ⟨_, rfl, _, _, _, _, _, _, rfl, rfl, rfl⟩) (by simp)
def doomD (D : Db) (z : Str) : Db := match D.stack with
  | some ⟨n, none :: rs⟩ :: st => { D with stack := some ⟨n, some z :: rs⟩ :: st }
  | _ => D
theorem IsWord.asc {w : Str} (h : IsWord w) : asc w := fun c hc => by
  have := h.al c hc
  omega
theorem word_thing {H : Hp} {w : Str} (h : IsWord w) : Thing H (.str w) := .str w (by rw [← len_toList]; have := h.hi; omega) h.asc
def spDoom (a : Ad) : Sp := fun vs H Q E => ∃ L D z, vs = [.ref L.db, .str z] ∧ IsWord z ∧ DB a H L D ∧ outE a (doomD D z, none) H L Q E
theorem ok_Database_doom (T : Txt K mg a d) : FnOk P w K mg base (L2.CX P w) 2 a.Database_doom d.Database_doom ["self", "first"] (spDoom a) := by
  have G_is_word : FnOk P w K mg base CX0 1 a.is_word d.is_word ["thing"] spIsWord := ok_is_word T
  refine T.Database_doom.ok sc_Database_doom (fun vs H Q E h => ?_) (fun cdv A outer s H vs Q E hr h => ?_)
  · obtain ⟨L, D, z, rfl, _⟩ := h
    rfl
  · obtain ⟨L, D, z, rfl, hz, hD, k⟩ := h
    have c1 := T.k_Database
    have c2 := T.k_Transaction
    have n1 := T.na_Database_stack
    have n3 := T.na_Transaction_reasons
    have h1 := hD.db
    have h2 := hD.s
    have tz : Thing H (.str z) := word_thing hz
    have bz : wordB (.str z) = true := hz.ok
    refine ⟨_, (pss_cons (ps_if (pt_not (pt_val (pe_call G_is_word (hr.mono (by decide)) (by rfl) T.g_is_word T.is_word.kp T.b_is_word .nil pass0 (pa_cons (pv 1) pa_nil)))) (pss_one ps_no) pss_nil)
  (pss_cons (ps_set (i := 2) sc_Database_doom.nd rfl (Or.inl rfl) (pe_ix ix_list (pe_fld (pv 0) rfl) (pe_un un_neg pe_int) (fun _ _ => rfl)))
  (pss_one (ps_if (PW.pt (pw_and (pt_cmpR op_notN (pv 2) pe_non (nomark _)) (pw_and1 (pt_cmpR op_isN (pe_ix ix_list (pe_fld (pv 2) rfl) (pe_un un_neg pe_int) (fun _ _ => rfl)) pe_non (nomark _))))) (pss_one (ps_asg (pv 1) (pg_sub (pe_fld (pv 2) rfl) (pe_un un_neg pe_int) set_list))) pss_nil)))), ?_⟩
    dsimp only [cxOf]
    walk_at "rd"
    rw [bz]
    refine iteF ?_
    unfold doomD at k
    rcases hD.top with ⟨ts, st, et, es⟩ | ⟨t, ts, x, st, y, rs, et, es, ex, h4, h5⟩
    · rw [es] at k
      rw [et] at h2
      have e1 := rv_at (f := tV) (x := none) (l := ts)
      walk_at "rd"
      exact k H L hD Fr.refl
    · obtain ⟨n, rs0⟩ := x
      dsimp only at ex
      subst ex
      rw [es] at k
      rw [et] at h2
      have e1 := rv_at (f := tV) (x := some t) (l := ts)
      have e2 := rv_at (f := oV) (x := y) (l := rs)
      have e3 := rv_ix (f := oV) (x := y) (l := rs)
      have mt : some t ∈ L.ts := by rw [et]; exact List.mem_cons_self
      cases y with
      | some y =>
        walk_at "rd"
        exact k H L hD Fr.refl
      | none =>
        walk_at "rd"
        have hD2 := hD.setQ (rs := some z :: rs) et es (by simp)
        have f2 := Fr.set (H := H) (o := .lst (rv oV (some z :: rs))) (DbAt.mutQ mt)
        have z2 := k _ _ hD2 f2
        rw [← rv_set (x := none)] at z2
        exact z2
/-- the blocks and the transactions fit -/
inductive Wf : List Str → List (Option Tx) → Prop
  | nil : Wf [] [none]
  | plain {es st} (h : Wf es (none :: st)) : Wf ("plain" :: es) (none :: st)
  | base {es st n y} (h : Wf es st) : Wf ("base" :: es) (some ⟨n, [y]⟩ :: st)
  | level {es st n y z rs} (h : Wf es (some ⟨n, z :: rs⟩ :: st)) : Wf ("level" :: es) (some ⟨n, y :: z :: rs⟩ :: st)
  | joined {es st n y rs} (h : Wf es (some ⟨n, y :: rs⟩ :: st)) : Wf ("joined" :: es) (some ⟨n, y :: rs⟩ :: st)
  | outside {es st x} (h : Wf es (some x :: st)) : Wf ("outside" :: es) (none :: some x :: st)
theorem Wf.ne {es : List Str} {st : List (Option Tx)} (h : Wf es st) : st ≠ [] := by cases h <;> simp
def endE (err y : Option Str) (c : Bool) : Option EK := match err, y, c with
  | none, some z, _ => some (.doomed z)
  | none, none, false => some .refused
  | _, _, _ => none
def spEndL (a : Ad) : Sp := fun vs H Q E => ∃ L D err n y z rs st, vs = [.ref L.db, oV err] ∧ DB a H L D ∧ Sm D ∧ D.rows = [] ∧ D.stack = some ⟨n, y :: z :: rs⟩ :: st ∧
  outE a ({ D with stack := some ⟨n, z :: rs⟩ :: st }, endE err y true) H L Q E
theorem ok_Database_end_level (T : Txt K mg a d) : FnOk P w K mg base (L2.CX P w) 1 a.Database_end_level d.Database_end_level ["self", "error"] (spEndL a) := by
  refine T.Database_end_level.okX sc_Database_end_level (fun vs H Q E h => ?_) (fun cdv A outer s H vs Q E hr h => ?_)
  · obtain ⟨L, D, err, n, y, z, rs, st, rfl, _⟩ := h
    rfl
  · obtain ⟨L, D, err, n, y, z, rs, st, rfl, hD, hm, hrow, es, k⟩ := h
    have c1 := T.k_Database
    have c2 := T.k_Transaction
    have n1 := T.na_Database_stack
    have n2 := T.na_Database_rows
    have n3 := T.na_Transaction_reasons
    have h1 := hD.db
    have h2 := hD.s
    have h3 := hD.r
    have hw : L.ws = [] := by
      have := hD.rows.len
      rw [hrow] at this
      exact List.eq_nil_of_length_eq_zero this
    rw [hw] at h3
    rcases hD.top with ⟨ts, st', et, es'⟩ | ⟨t, ts, x, st', y', rs', et, es', ex, h4, h5⟩
    · rw [es] at es'
      cases es'
    · rw [es] at es'
      cases es'
      cases ex
      rw [et] at h2
      have e1 := rv_at (f := tV) (x := some t) (l := ts)
      have e2 := rv_pop (f := oV) (x := y) (l := z :: rs)
      have mt : some t ∈ L.ts := by rw [et]; exact List.mem_cons_self
      have hD2 := hD.setQ (rs := z :: rs) et es (by simp)
      have f2 := Fr.set (H := H) (o := .lst (rv oV (z :: rs))) (DbAt.mutQ mt)
      have g1 := hD2.db
      have g2 := hD2.r
      rw [hw] at g2
      dsimp only at g1 g2
      obtain ⟨g3, g4, _⟩ : TxAt a.Transaction _ (some t) (some ⟨n, z :: rs⟩) := by
        have hx := hD2.txs
        rw [et] at hx
        cases hx
        assumption
      dsimp only at g3 g4
      rw [← rv_drop (f := oV) (x := y) (l := z :: rs)] at hD2 f2 g1 g2 g3 g4
      replace k := k.fr f2
      refine ⟨_, (pss_cons (ps_set (i := 2) sc_Database_end_level.nd rfl (Or.inl rfl) (pe_ix ix_list (pe_fld (pv 0) rfl) (pe_un un_neg pe_int) (fun _ _ => rfl)))
  (pss_cons (ps_set (i := 3) sc_Database_end_level.nd rfl (Or.inl rfl) (pe_bm0 PySem.F.plainAttrs_list PySem.F.slot_list_pop PySem.F.type_list_pop mt_pop (pe_fld (pv 2) rfl)))
  (pss_cons (ps_set (i := 4) sc_Database_end_level.nd rfl (Or.inl rfl) (pe_callB call_len_seq (by rfl) T.n_len PySem.boot_len (pa_cons (pe_fld (pv 2) rfl) pa_nil)))
  (pss_cons (ps_for (passes_of rfl) rfl (pi_list (pe_fld (pv 0) rfl)) (pg_name (i := 5) sc_Database_end_level.nd rfl (Or.inl rfl))
  (pss_one (ps_if (PW.pt (pw_and (pt_cmpR op_eq (pe_fld (pv 5) rfl) pe_str (nomark _)) (pw_and (pt_cmpR op_eq (pe_fld (pv 5) rfl) (pe_fld (pv 2) rfl) (nomark _)) (pw_and1 (pt_cmpR op_eq (pe_fld (pv 5) rfl) (pv 4) (nomark _)))))) (pss_one (ps_if (PW.pt (pw_and (pt_cmpR op_isN (pv 1) pe_non (nomark _)) (pw_and1 (pt_cmpR op_isN (pv 3) pe_non (nomark _))))) (pss_one (ps_fld (pv 5) (pe_op op_sub (pv 4) pe_int) rfl)) (pss_one (ps_fld (pv 5) pe_str rfl)))) pss_nil)))
  (pss_one (ps_if (PW.pt (pw_and (pt_cmpR op_isN (pv 1) pe_non (nomark _)) (pw_and1 (pt_cmpR op_notN (pv 3) pe_non (nomark _))))) (pss_one (ps_raise rfl (takes_of rfl rfl rfl rfl) (pmk_err T.e_Doomed T.g_Doomed T.n_super hr (pa_cons (pv 3) pa_nil)))) pss_nil)))))), ?_⟩
      dsimp only [cxOf]
      walk_at "rd"
      refine ⟨⟨_, SqL.of g2⟩, for_nil (SqL.of g2) ?_⟩
      have k0 := k _ _ hD2 Fr.refl
      cases err with
      | some e =>
        walk_at "rd"
        cases y <;> exact k0
      | none =>
        cases y with
        | none =>
          walk_at "rd"
          exact k0
        | some y =>
          walk_at "rd"
          exact k0
def spEndT (a : Ad) : Sp := fun vs H Q E => ∃ L D err c n y rs st, vs = [.ref L.db, oV err, .bl c] ∧ DB a H L D ∧ Sm D ∧ D.rows = [] ∧ D.stack = some ⟨n, y :: rs⟩ :: st ∧ st ≠ [] ∧
  outE a ({ D with stack := st }, endE err y c) H L Q E
theorem ok_Database_end_transaction (T : Txt K mg a d) : FnOk P w K mg base (L2.CX P w) 1 a.Database_end_transaction d.Database_end_transaction ["self", "error", "commits"] (spEndT a) := by
  refine T.Database_end_transaction.okX sc_Database_end_transaction (fun vs H Q E h => ?_) (fun cdv A outer s H vs Q E hr h => ?_)
  · obtain ⟨L, D, err, c, n, y, rs, st, rfl, _⟩ := h
    rfl
  · obtain ⟨L, D, err, c, n, y, rs, st, rfl, hD, hm, hrow, es, hst, k⟩ := h
    have c1 := T.k_Database
    have c2 := T.k_Transaction
    have n1 := T.na_Database_stack
    have n2 := T.na_Database_rows
    have n3 := T.na_Transaction_reasons
    have h1 := hD.db
    have h2 := hD.s
    have h3 := hD.r
    have hw : L.ws = [] := by
      have := hD.rows.len
      rw [hrow] at this
      exact List.eq_nil_of_length_eq_zero this
    rcases hD.top with ⟨ts, st', et, es'⟩ | ⟨t, ts, x, st', y', rs', et, es', ex, h4, h5⟩
    · rw [es] at es'
      cases es'
    · rw [es] at es'
      cases es'
      cases ex
      rw [et] at h2
      have e1 := rv_pop (f := tV) (x := some t) (l := ts)
      have e2 := rv_at (f := oV) (x := y) (l := rs)
      have mt : some t ∈ L.ts := by rw [et]; exact List.mem_cons_self
      have hD2 := hD.popS et es hst
      have f2 := Fr.popS (H := H) (o := .lst (rv tV ts)) et
      have g1 := hD2.db
      have g2 := hD2.r
      rw [hw] at g2
      have g3 := upd_oth (o := .lst (rv tV ts)) (ins_ne h4 hD.s) h4
      have g4 := upd_oth (o := .lst (rv tV ts)) ((hD.qn t mt).2.1) h5
      dsimp only at g1 g2 g3 g4
      rw [← rv_drop (f := tV) (x := some t) (l := ts)] at hD2 f2 g1 g2 g3 g4
      replace k := k.fr f2
      have k0 := k _ _ hD2 Fr.refl
      refine ⟨_, (pss_cons (ps_set (i := 3) sc_Database_end_transaction.nd rfl (Or.inl rfl) (pe_bm0 PySem.F.plainAttrs_list PySem.F.slot_list_pop PySem.F.type_list_pop mt_pop (pe_fld (pv 0) rfl)))
  (pss_cons (ps_set (i := 4) sc_Database_end_transaction.nd rfl (Or.inl rfl) (pe_ix ix_list (pe_fld (pv 3) rfl) (pe_un un_neg pe_int) (fun _ _ => rfl)))
  (pss_cons (ps_set (i := 5) sc_Database_end_transaction.nd rfl (Or.inl rfl) (pe_ifExp (PW.pt (pw_and (pt_cmpR op_isN (pv 1) pe_non (nomark _)) (pw_and (pt_cmpR op_isN (pv 4) pe_non (nomark _)) (pw_and1 (pt_val (pv 2)))))) pe_str pe_str))
  (pss_cons (ps_for (passes_of rfl) rfl (pi_list (pe_fld (pv 0) rfl)) (pg_name (i := 6) sc_Database_end_transaction.nd rfl (Or.inl rfl))
  (pss_one (ps_if (PW.pt (pw_and (pt_cmpR op_eq (pe_fld (pv 6) rfl) pe_str (nomark _)) (pw_and1 (pt_cmpR op_eq (pe_fld (pv 6) rfl) (pe_fld (pv 3) rfl) (nomark _))))) (pss_one (ps_fld (pv 6) (pv 5) rfl)) pss_nil)))
  (pss_cons (ps_if (PW.pt (pw_and (pt_cmpR op_isN (pv 1) pe_non (nomark _)) (pw_and1 (pt_cmpR op_notN (pv 4) pe_non (nomark _))))) (pss_one (ps_raise rfl (takes_of rfl rfl rfl rfl) (pmk_err T.e_Doomed T.g_Doomed T.n_super hr (pa_cons (pv 4) pa_nil)))) pss_nil)
  (pss_one (ps_if (PW.pt (pw_and (pt_cmpR op_isN (pv 1) pe_non (nomark _)) (pw_and1 (pt_not (pt_val (pv 2)))))) (pss_one (ps_raise rfl (takes_of rfl rfl rfl rfl) (pmk_err0 T.e_Refused T.g_Refused T.n_super hr))) pss_nil))))))), ?_⟩
      dsimp only [cxOf]
      walk_at "rd"
      cases err with
      | some e =>
        walk_at "rd"
        refine ⟨⟨_, SqL.of g2⟩, for_nil (SqL.of g2) ?_⟩
        walk_at "rd"
        cases y <;> exact k0
      | none =>
        cases y with
        | some y =>
          walk_at "rd"
          refine ⟨⟨_, SqL.of g2⟩, for_nil (SqL.of g2) ?_⟩
          walk_at "rd"
          exact k0
        | none =>
          cases c with
          | true =>
            walk_at "rd"
            refine ⟨⟨_, SqL.of g2⟩, for_nil (SqL.of g2) ?_⟩
            walk_at "rd"
            exact k0
          | false =>
            walk_at "rd"
            refine ⟨⟨_, SqL.of g2⟩, for_nil (SqL.of g2) ?_⟩
            walk_at "rd"
            exact k0
def leaveD (D : Db) (err : Option Str) (c : Bool) : Db × Option EK := match D.entered with
  | [] => (D, some .noblock)
  | e :: es =>
    if e = "outside" then ({ D with entered := es, stack := D.stack.tail }, none) else
    if e = "joined" then ((match err with
      | some z => doomD { D with entered := es } z
      | none => { D with entered := es }), none) else
    if e = "level" then (match D.stack with
      | some ⟨n, y :: rs⟩ :: st => ({ D with entered := es, stack := some ⟨n, rs⟩ :: st }, endE err y true)
      | _ => (D, none)) else
    if e = "base" then (match D.stack with
      | some ⟨_, y :: _⟩ :: st => ({ D with entered := es, stack := st }, endE err y c)
      | _ => (D, none)) else
    ({ D with entered := es }, none)
def spLeave (a : Ad) : Sp := fun vs H Q E => ∃ L D err c, vs = [.ref L.db, oV err, .bl c] ∧ (∀ z, err = some z → IsWord z) ∧ DB a H L D ∧ Sm D ∧ D.rows = [] ∧ D.floor = 0 ∧ Wf D.entered D.stack ∧ outE a (leaveD D err c) H L Q E
theorem ok_Database_leave (T : Txt K mg a d) : FnOk P w K mg base (L2.CX P w) 3 a.Database_leave d.Database_leave ["self", "error", "commits"] (spLeave a) := by
  have G_is_word : FnOk P w K mg base CX0 1 a.is_word d.is_word ["thing"] spIsWord := ok_is_word T
  have G_Database_doom : FnOk P w K mg base (L2.CX P w) 2 a.Database_doom d.Database_doom ["self", "first"] (spDoom a) := ok_Database_doom T
  have G_Database_end_level : FnOk P w K mg base (L2.CX P w) 1 a.Database_end_level d.Database_end_level ["self", "error"] (spEndL a) := ok_Database_end_level T
  have G_Database_end_transaction : FnOk P w K mg base (L2.CX P w) 1 a.Database_end_transaction d.Database_end_transaction ["self", "error", "commits"] (spEndT a) := ok_Database_end_transaction T
  refine T.Database_leave.ok sc_Database_leave (fun vs H Q E h => ?_) (fun cdv A outer s H vs Q E hr h => ?_)
  · obtain ⟨L, D, err, c, rfl, _⟩ := h
    rfl
  · obtain ⟨L, D, err, c, rfl, hz, hD, hm, hrow, hfl, hw, k⟩ := h
    have c1 := T.k_Database
    have n1 := T.na_Database_stack
    have n2 := T.na_Database_entered
    have n3 := T.na_Database_floor
    have h1 := hD.db
    have h2 := hD.s
    have h3 := hD.e
    rw [hfl] at h1
    refine ⟨_, (pss_cons (ps_if (pt_cmpR op_le (pe_callB call_len_seq (by rfl) T.n_len PySem.boot_len (pa_cons (pe_fld (pv 0) rfl) pa_nil)) (pe_fld (pv 0) rfl) (nomark _)) (pss_one (ps_raise rfl (takes_of rfl rfl rfl rfl) (pmk_err0 T.e_NoBlock T.g_NoBlock T.n_super hr))) pss_nil)
  (pss_cons (ps_if (PW.pt (pw_and (pt_cmpR op_notN (pv 1) pe_non (nomark _)) (pw_and1 (pt_not (pt_val (pe_call G_is_word (hr.mono (by decide)) (by rfl) T.g_is_word T.is_word.kp T.b_is_word .nil pass0 (pa_cons (pv 1) pa_nil))))))) (pss_one ps_no) pss_nil)
  (pss_cons (ps_set (i := 3) sc_Database_leave.nd rfl (Or.inl rfl) (pe_bm0 PySem.F.plainAttrs_list PySem.F.slot_list_pop PySem.F.type_list_pop mt_pop (pe_fld (pv 0) rfl)))
  (pss_one (ps_if (pt_cmpR op_eq (pv 3) pe_str (nomark _)) (pss_one (ps_expr (pe_bm0 PySem.F.plainAttrs_list PySem.F.slot_list_pop PySem.F.type_list_pop mt_pop (pe_fld (pv 0) rfl)))) (pss_one (ps_if (PW.pt (pw_and (pt_cmpR op_eq (pv 3) pe_str (nomark _)) (pw_and1 (pt_cmpR op_notN (pv 1) pe_non (nomark _))))) (pss_one (ps_expr (pe_meth (pv 0) T.k_Database T.m_Database_doom G_Database_doom (hr.mono (by decide)) (bd_doom T) .nil (passes_call (takes_of rfl rfl rfl rfl) (fun _ _ _ _ h => h)) (pa_cons (pv 1) pa_nil)))) (pss_one (ps_if (pt_cmpR op_eq (pv 3) pe_str (nomark _)) (pss_one (ps_expr (pe_meth (pv 0) T.k_Database T.m_Database_end_level G_Database_end_level (hr.mono (by decide)) T.b_Database_end_level .nil (passes_call (takes_of rfl rfl rfl rfl) (fun _ _ _ _ h => h)) (pa_cons (pv 1) pa_nil)))) (pss_one (ps_if (pt_cmpR op_eq (pv 3) pe_str (nomark _)) (pss_one (ps_expr (pe_meth (pv 0) T.k_Database T.m_Database_end_transaction G_Database_end_transaction (hr.mono (by decide)) T.b_Database_end_transaction .nil (passes_call (takes_of rfl rfl rfl rfl) (fun _ _ _ _ h => h)) (pa_cons (pv 1) (pa_cons (pv 2) pa_nil))))) pss_nil))))))))))), ?_⟩
    dsimp only [cxOf]
    unfold leaveD at k
    cases hent : D.entered with
    | nil =>
      rw [hent] at k h3
      walk_at "rd"
      exact k H L hD Fr.refl
    | cons e es =>
      rw [hent] at k h3 hw
      have l1 : ¬ ((rv V.str (e :: es)).length : Int) ≤ 0 := by rw [rv_len, List.length_cons]; omega
      have e2 := rv_pop (f := V.str) (x := e) (l := es)
      have hw2 := hw
      generalize est : D.stack = stk at hw2
      rw [est] at k
      have hD2 := hD.setE es
      have f2 := Fr.set (H := H) (L := L) (o := .lst (rv V.str es)) DbAt.mutE
      have hm2 : Sm { D with entered := es } := ⟨by have := hm.e; rw [hent, List.length_cons] at this; exact Nat.le_of_succ_le this, hm.s, hm.r⟩
      have g1 := hD2.db
      dsimp only at g1
      rw [hfl] at g1
      rw [← rv_drop (f := V.str) (x := e) (l := es)] at hD2 f2 g1
      walk_at "rd"
      rw [decide_eq_false l1]
      refine iteF ?_
      cases err with
      | none =>
        walk_at "rd"
        generalize upd H L.e (.lst (rv V.str (e :: es)).dropLast) = H2 at hD2 f2 g1 ⊢
        have k0 := k
        cases hw2 with
        | plain h =>
          walk_at "rd"
          rw [est] at hD2
          exact k0 _ _ hD2 f2
        | outside h =>
          have et := hD2.top
          rcases et with ⟨ts, st', et, es'⟩ | ⟨t, ts, x, st', y', rs', et, es', ex, h4, h5⟩
          · dsimp only at es'
            rw [est] at es'
            cases es'
            have g2 := hD2.s
            rw [et] at g2
            have e3 := rv_pop (f := tV) (x := none) (l := ts)
            walk_at "rd"
            have hD3 := hD2.popS et est (by simp)
            have f3 := Fr.popS (H := H2) (o := .lst (rv tV ts)) et
            rw [← rv_drop (f := tV) (x := none) (l := ts)] at hD3 f3
            exact k0 _ _ hD3 (f2.trans f3)
          · dsimp only at es'
            rw [est] at es'
            cases es'
        | joined h =>
          walk_at "rd"
          rw [est] at hD2
          exact k0 _ _ hD2 f2
        | level h =>
          walk_at "rd"
          exact ⟨L, { D with entered := es }, none, _, _, _, _, _, rfl, hD2, hm2, hrow, est, outE.fr k0 f2⟩
        | base h =>
          walk_at "rd"
          exact ⟨L, { D with entered := es }, none, c, _, _, _, _, rfl, hD2, hm2, hrow, est, h.ne, outE.fr k0 f2⟩
      | some z =>
        have tz : Thing H (oV (some z)) := word_thing (hz z rfl)
        have bz : wordB (.str z) = true := (hz z rfl).ok
        walk_at "rd"
        rw [show wordB (oV (some z)) = true from bz]
        refine iteF ?_
        walk_at "rd"
        generalize upd H L.e (.lst (rv V.str (e :: es)).dropLast) = H2 at hD2 f2 g1 ⊢
        have k0 := k
        cases hw2 with
        | plain h =>
          walk_at "rd"
          rw [est] at hD2
          exact k0 _ _ hD2 f2
        | outside h =>
          have et := hD2.top
          rcases et with ⟨ts, st', et, es'⟩ | ⟨t, ts, x, st', y', rs', et, es', ex, h4, h5⟩
          · dsimp only at es'
            rw [est] at es'
            cases es'
            have g2 := hD2.s
            rw [et] at g2
            have e3 := rv_pop (f := tV) (x := none) (l := ts)
            walk_at "rd"
            have hD3 := hD2.popS et est (by simp)
            have f3 := Fr.popS (H := H2) (o := .lst (rv tV ts)) et
            rw [← rv_drop (f := tV) (x := none) (l := ts)] at hD3 f3
            exact k0 _ _ hD3 (f2.trans f3)
          · dsimp only at es'
            rw [est] at es'
            cases es'
        | joined h =>
          walk_at "rd"
          rw [← est] at k0
          exact ⟨L, { D with entered := es }, z, rfl, hz z rfl, hD2, outE.fr k0 f2⟩
        | level h =>
          walk_at "rd"
          exact ⟨L, { D with entered := es }, (some z), _, _, _, _, _, rfl, hD2, hm2, hrow, est, outE.fr k0 f2⟩
        | base h =>
          walk_at "rd"
          exact ⟨L, { D with entered := es }, (some z), c, _, _, _, _, rfl, hD2, hm2, hrow, est, h.ne, outE.fr k0 f2⟩
/-! ### the law's own stack -/
def oD : Option Str → PyData
  | none => .none
  | some z => .str z
def rvD (rs : List (Option Str)) : List PyData := (rs.map oD).reverse
def GoodR (rs : List (Option Str)) : Prop := rs.length ≤ 1000 ∧ ∀ z, some z ∈ rs → IsWord z
theorem dp_o {K : PySem.W.Frag} {H : Hp} : ∀ y : Option Str, Dp K H (oV y) (oD y)
  | none => .non
  | some z => .str z
theorem dp_map {K : PySem.W.Frag} {H : Hp} : ∀ l : List (Option Str), DpAll K H (l.map oV) (l.map oD)
  | [] => .nil
  | y :: l => .cons (dp_o y) (dp_map l)
theorem dp_rv {K : PySem.W.Frag} {H : Hp} (l : List (Option Str)) : DpAll K H (rv oV l) (rvD l) := by
  unfold rv rvD
  rw [← List.map_reverse, ← List.map_reverse]
  exact dp_map _
theorem lay_map : ∀ {l : List (Option Str)}, (∀ z, some z ∈ l → IsWord z) → PyData.canLayAll0 (l.map oD) = true ∧ PyData.depthAll (l.map oD) = 0
  | [], _ => ⟨rfl, rfl⟩
  | y :: l, h => by
    obtain ⟨h1, h2⟩ := lay_map (l := l) fun z hz => h z (List.mem_cons_of_mem _ hz)
    cases y with
    | none =>
      refine ⟨?_, ?_⟩
      · show (true && PyData.canLayAll0 (l.map oD)) = true
        rw [h1]; rfl
      · show max 0 (PyData.depthAll (l.map oD)) = 0
        rw [h2]; rfl
    | some z =>
      refine ⟨?_, ?_⟩
      · show (PyData.strOk z && PyData.canLayAll0 (l.map oD)) = true
        rw [h1, asc_ok (h z List.mem_cons_self).asc]; rfl
      · show max 0 (PyData.depthAll (l.map oD)) = 0
        rw [h2]; rfl
theorem shaped_rv {l : List (Option Str)} (h : ∀ z, some z ∈ l → IsWord z) : SeqAt.shaped (.list (rvD l)) = true := by
  unfold rvD
  rw [← List.map_reverse]
  obtain ⟨h1, h2⟩ := lay_map (l := l.reverse) fun z hz => h z (List.mem_reverse.mp hz)
  show (PyData.canLayAll0 (l.reverse.map oD) && decide (PyData.depthAll (l.reverse.map oD) + 1 ≤ 64)) = true
  rw [h1, h2]; rfl
theorem eqv_rv (l : List (Option Str)) : PyData.eqv (.list (rvD l)) (.list []) = l.isEmpty := by
  show PyData.eqvAll (rvD l) [] = _
  rw [eqvAll_nil]
  unfold rvD
  cases l <;> simp
def StkAt (S : Addr → Prop) (H : Hp) (p : Addr) (stk : List (List (Option Str))) : Prop :=
  ∃ qs, ¬ S p ∧ H p = some (.lst (rv V.ref qs)) ∧ All2 (fun q rs => ¬ S q ∧ H q = some (.lst (rv oV rs))) qs stk
theorem StkAt.kp {S : Addr → Prop} {H H' : Hp} {p : Addr} {stk : List (List (Option Str))} (h : StkAt S H p stk) (k : Kp S H H') : StkAt S H' p stk := by
  obtain ⟨qs, h1, h2, h3⟩ := h
  exact ⟨qs, h1, k _ _ h2 h1, h3.imp fun q rs _ h => ⟨h.1, k _ _ h.2 h.1⟩⟩
theorem StkAt.mono {S S' : Addr → Prop} {H : Hp} {p : Addr} {stk : List (List (Option Str))} (h : StkAt S H p stk) (k : ∀ b, S' b → S b ∨ H b = none) : StkAt S' H p stk := by
  obtain ⟨qs, h1, h2, h3⟩ := h
  have go : ∀ {b u}, ¬ S b → H b = some u → ¬ S' b := fun {b u} n e z => by
    rcases k b z with z | z
    · exact n z
    · rw [e] at z; cases z
  exact ⟨qs, go h1 h2, h2, h3.imp fun q rs _ h => ⟨go h.1 h.2, h.2⟩⟩
abbrev Stk := List (List (Option Str))
theorem cut_rv {α : Type} {f : α → V} {x : α} {l : List α} : cutV (rv f (x :: l)) none (some (-1)) = rv f l := by
  rw [rv_cons]
  show List.take (HT.sIx (rv f l ++ [f x]).length (rv f l ++ [f x]).length (some (-1)) - 0) (List.drop 0 (rv f l ++ [f x])) = rv f l
  rw [List.drop_zero, Nat.sub_zero]
  have e : HT.sIx (rv f l ++ [f x]).length (rv f l ++ [f x]).length (some (-1)) = (rv f l).length := by
    unfold HT.sIx
    rw [List.length_append, List.length_singleton]
    simp only
    rw [if_pos (by decide)]
    omega
  rw [e, List.take_left]
def topR (st : List (Option Tx)) : List (Option Str) := match st with
  | some x :: _ => x.rs
  | _ => []
/-! ### plain: the model and the database go alike -/
def absT : Option Tx → List (Option Str)
  | none => []
  | some x => x.rs
def absS (st : List (Option Tx)) : Stk := st.map absT
theorem Wf.len {es : List Str} {st : List (Option Tx)} (h : Wf es st) : st.length ≤ es.length + 1 ∧ ∀ x, some x ∈ st → x.rs.length ≤ es.length ∧ x.rs ≠ [] := by
  induction h with
  | nil => exact ⟨by simp, fun x m => by simp at m⟩
  | plain h ih =>
    obtain ⟨i1, i2⟩ := ih
    simp only [List.length_cons] at *
    exact ⟨by omega, fun x m => ⟨Nat.le_succ_of_le (i2 x m).1, (i2 x m).2⟩⟩
  | base h ih =>
    obtain ⟨i1, i2⟩ := ih
    simp only [List.length_cons] at *
    refine ⟨by omega, fun x m => ?_⟩
    rcases List.mem_cons.mp m with m | m
    · cases m
      exact ⟨by simp, by simp⟩
    · exact ⟨Nat.le_succ_of_le (i2 x m).1, (i2 x m).2⟩
  | level h ih =>
    obtain ⟨i1, i2⟩ := ih
    simp only [List.length_cons] at *
    refine ⟨by omega, fun x m => ?_⟩
    rcases List.mem_cons.mp m with m | m
    · cases m
      have := (i2 _ List.mem_cons_self).1
      simp only [List.length_cons] at *
      exact ⟨by omega, by simp⟩
    · have := i2 x (List.mem_cons_of_mem _ m)
      exact ⟨Nat.le_succ_of_le this.1, this.2⟩
  | joined h ih =>
    obtain ⟨i1, i2⟩ := ih
    simp only [List.length_cons] at *
    exact ⟨by omega, fun x m => ⟨Nat.le_succ_of_le (i2 x m).1, (i2 x m).2⟩⟩
  | outside h ih =>
    obtain ⟨i1, i2⟩ := ih
    simp only [List.length_cons] at *
    refine ⟨by omega, fun x m => ?_⟩
    rcases List.mem_cons.mp m with m | m
    · cases m
    · exact ⟨Nat.le_succ_of_le (i2 x m).1, (i2 x m).2⟩
/-- the top level's word may change -/
theorem Wf.top {es : List Str} {st : List (Option Tx)} {n : Int} {y z : Option Str} {rs : List (Option Str)} (h : Wf es (some ⟨n, y :: rs⟩ :: st)) : Wf es (some ⟨n, z :: rs⟩ :: st) := by
  generalize e : (some ⟨n, y :: rs⟩ :: st : List (Option Tx)) = q at h
  induction h with
  | nil => cases e
  | plain h ih => cases e
  | base h ih =>
    cases e
    exact .base h
  | level h ih =>
    cases e
    exact .level h
  | joined h ih =>
    cases e
    exact .joined (ih rfl)
  | outside h ih => cases e
structure Gd (D : Db) (n : Nat) : Prop where
  rows : D.rows = []
  floor : D.floor = 0
  wf : Wf D.entered D.stack
  e : D.entered.length ≤ n
  w : ∀ x, some x ∈ D.stack → ∀ z, some z ∈ x.rs → IsWord z
theorem Gd.sm {D : Db} {n : Nat} (g : Gd D n) (h : n ≤ 900) : Sm D := by
  have := g.e
  obtain ⟨h1, h2⟩ := g.wf.len
  exact ⟨by omega, by omega, fun x m => by have := (h2 x m).1; omega⟩
theorem Gd.good {D : Db} {n : Nat} (g : Gd D n) (h : n ≤ 900) : GoodR (topR D.stack) := by
  have := g.e
  obtain ⟨h1, h2⟩ := g.wf.len
  have hw := g.w
  unfold topR
  split
  · rename_i x st e
    rw [e] at h2 hw
    exact ⟨by have := (h2 x List.mem_cons_self).1; omega, hw x List.mem_cons_self⟩
  · exact ⟨by simp, fun z m => by simp at m⟩
theorem Gd.abs {D : Db} {n : Nat} (g : Gd D n) (h : n ≤ 900) : ∃ stk, absS D.stack = topR D.stack :: stk ∧ stk.length ≤ 1000 := by
  have := g.e
  obtain ⟨h1, _⟩ := g.wf.len
  have ne := g.wf.ne
  cases e : D.stack with
  | nil => exact absurd e ne
  | cons x st =>
    rw [e] at h1
    refine ⟨absS st, ?_, ?_⟩
    · cases x <;> rfl
    · unfold absS
      rw [List.length_map]
      rw [List.length_cons] at h1
      omega
theorem gd_new : Gd ⟨[], [none], [], 0, 0⟩ 0 := ⟨rfl, rfl, .nil, by simp, fun x m => by simp at m⟩
def doomM (z : Str) : Stk → Stk
  | (none :: rs) :: r => (some z :: rs) :: r
  | s => s
theorem Gd.doom {D : Db} {n : Nat} (g : Gd D n) {z : Str} (hz : IsWord z) : Gd (doomD D z) n ∧ absS (doomD D z).stack = doomM z (absS D.stack) ∧ (doomD D z).entered = D.entered := by
  obtain ⟨rows, stack, entered, floor, opened⟩ := D
  obtain ⟨g1, g2, g3, g4, g5⟩ := g
  dsimp only at g1 g2 g3 g4 g5
  subst g1 g2
  obtain ⟨l1, l2⟩ := g3.len
  cases stack with
  | nil => exact absurd rfl g3.ne
  | cons x st =>
    cases x with
    | none => exact ⟨⟨rfl, rfl, g3, g4, g5⟩, rfl, rfl⟩
    | some x =>
      obtain ⟨k, rs⟩ := x
      cases rs with
      | nil => exact absurd rfl (l2 _ List.mem_cons_self).2
      | cons y rs =>
        cases y with
        | some y => exact ⟨⟨rfl, rfl, g3, g4, g5⟩, rfl, rfl⟩
        | none =>
          refine ⟨⟨rfl, rfl, g3.top, g4, fun x hx => ?_⟩, rfl, rfl⟩
          rcases List.mem_cons.mp hx with e | e
          · cases e
            intro u hu
            rcases List.mem_cons.mp hu with e | e
            · cases e
              exact hz
            · exact g5 _ List.mem_cons_self u (List.mem_cons_of_mem _ e)
          · exact g5 x (List.mem_cons_of_mem _ e)
/-! ### what the law shows -/
theorem int_len {a : Int} (h : a.natAbs.log2 < 1920) : (Str.ofString (toString a)).length ≤ 4000 := by
  have e := int_text_length_le (k := 1920) (by decide) h
  rw [ofString_length]; omega
theorem o_len {y : Option Str} (h : ∀ z, y = some z → IsWord z) : (PyData.shown (oD y)).length ≤ 100 := by
  cases y with
  | none =>
    show (Str.ofString "None").length ≤ 100
    decide +kernel
  | some z =>
    show (reprText z).length ≤ 100
    have hz := h z rfl
    have := StrLaws.reprText_len z fun c hc => by have := hz.al c hc; omega
    have h2 := hz.hi
    rw [len_toList] at h2
    omega
theorem o_showable (y : Option Str) : PyData.showable (oD y) = true := by
  cases y <;> rfl
theorem o_plain (y : Option Str) : PyData.hasDict (oD y) = false := by
  cases y <;> rfl
theorem o_depth (y : Option Str) : PyData.depth (oD y) = 0 := by
  cases y <;> rfl
def toldD (o b : Bool) (y : Option Str) (l n : Int) : PyData := .list [.bool o, .bool b, oD y, .int l, .int n]
theorem told_ok {o b : Bool} {y : Option Str} {l n : Int} (hy : ∀ z, y = some z → IsWord z) (hl : l.natAbs.log2 < 1920) (hn : n.natAbs.log2 < 1920) :
    (toldD o b y l n).showable = true ∧ (toldD o b y l n).hasDict = false ∧ (toldD o b y l n).depth ≤ 60 ∧ (toldD o b y l n).shown.length ≤ sizeLine := by
  refine ⟨?_, ?_, ?_, ?_⟩
  · show (true && (true && (PyData.showable (oD y) && (decide (l.natAbs.log2 < 1920) && (decide (n.natAbs.log2 < 1920) && true))))) = true
    rw [o_showable, decide_eq_true hl, decide_eq_true hn]; rfl
  · show (false || (false || (PyData.hasDict (oD y) || (false || (false || false))))) = false
    rw [o_plain]; rfl
  · show PyData.depthAll [.bool o, .bool b, oD y, .int l, .int n] + 1 ≤ 60
    show max 0 (max 0 (max (PyData.depth (oD y)) (max 0 (max 0 0)))) + 1 ≤ 60
    rw [o_depth]; decide
  · have h := listText_len_le [PyData.shown (.bool o), PyData.shown (.bool b), PyData.shown (oD y), PyData.shown (.int l), PyData.shown (.int n)]
    have h1 := o_len hy
    have h2 : (PyData.shown (.int l)).length ≤ 4000 := int_len hl
    have h3 : (PyData.shown (.int n)).length ≤ 4000 := int_len hn
    have h4 : ∀ b : Bool, (PyData.shown (.bool b)).length ≤ 10 := fun b => by cases b <;> decide +kernel
    have h5 := h4 o
    have h6 := h4 b
    show (listText [PyData.shown (.bool o), PyData.shown (.bool b), PyData.shown (oD y), PyData.shown (.int l), PyData.shown (.int n)]).length ≤ sizeLine
    rw [sizeLine_eq]
    simp only [List.map_cons, List.map_nil, List.sum_cons, List.sum_nil, List.length_cons, List.length_nil] at h
    omega
theorem log_small {n : Nat} (h : n ≤ 1000000) : ((n : Int)).natAbs.log2 < 1920 := by
  rw [Int.natAbs_natCast]
  by_cases h0 : n = 0
  · subst h0; decide
  · exact (Nat.log2_lt h0).mpr (Nat.lt_of_le_of_lt h (Nat.lt_of_lt_of_le (by decide : 1000000 < 2 ^ 20) (Nat.pow_le_pow_right (by decide) (by decide))))
def spShows (a : Ad) : Sp := fun vs H Q _ => ∃ (S : Addr → Prop) (L : Lay) (D : Db) (p : Addr) (stk : Stk), vs = [.ref L.db, .ref p, .int (D.entered.length : Int)] ∧ DB a H L D ∧ Sm D ∧ StkAt S H p (topR D.stack :: stk) ∧ GoodR (topR D.stack) ∧
  ∀ H', Same H H' → Q (.bl true) H'
theorem ok_law_shows (T : Txt K mg a d) : FnG P w K mg base CX0 3 a.law_shows d.law_shows ["_law_db", "_law_stack", "_law_depth"] (spShows a) := by
  have G_Database_is_open : FnOk P w K mg base CX0 1 a.Database_is_open d.Database_is_open ["self"] (spProp a fun D => .bl (openD D)) := ok_Database_is_open T
  have G_Database_is_doomed : FnOk P w K mg base CX0 1 a.Database_is_doomed d.Database_is_doomed ["self"] (spProp a fun D => .bl (reasonD D).isSome) := ok_Database_is_doomed T
  have G_Database_reason : FnOk P w K mg base CX0 1 a.Database_reason d.Database_reason ["self"] (spProp a fun D => oV (reasonD D)) := ok_Database_reason T
  have G_Database_levels : FnOk P w K mg base CX0 1 a.Database_levels d.Database_levels ["self"] (spProp a fun D => .int (levelsD D : Int)) := ok_Database_levels T
  have G_Database_depth : FnOk P w K mg base CX0 1 a.Database_depth d.Database_depth ["self"] (spProp a fun D => .int (D.entered.length : Int)) := ok_Database_depth T
  refine okG T.law_shows sc_law_shows (fun vs H Q E h => ?_) (fun cdv A outer s H vs Q E hr hgd h => ?_)
  · obtain ⟨S, L, D, p, stk, rfl, _⟩ := h
    rfl
  · obtain ⟨S, L, D, p, stk, rfl, hD, hm, ⟨qs, hp1, hp2, hq⟩, hg, k⟩ := h
    cases hq with
    | @cons q _ qs _ hq0 hq =>
    obtain ⟨nq, hq0⟩ := hq0
    have e1 := rv_at (f := V.ref) (x := q) (l := qs)
    refine ⟨_, (pss_cons (ps_set (i := 3) sc_law_shows.nd rfl (Or.inl rfl) (pe_ix ix_list (pv 1) (pe_un un_neg pe_int) (fun _ _ => rfl)))
  (pss_cons (ps_set (i := 4) sc_law_shows.nd rfl (Or.inl rfl) (pe_ifExp (pt_cmpR (op_neD hr.units) (pv 3) (pe_lst pa_nil) (nomark _)) (pe_ix ix_list (pv 3) (pe_un un_neg pe_int) (fun _ _ => rfl)) pe_non))
  (pss_cons (ps_set (i := 5) sc_law_shows.nd rfl (Or.inl rfl) (pe_lst (pa_cons (pe_prop (pv 0) T.k_Database T.m_Database_is_open G_Database_is_open (hr.mono (by decide)) T.b_Database_is_open .nil pass0 rfl) (pa_cons (pe_prop (pv 0) T.k_Database T.m_Database_is_doomed G_Database_is_doomed (hr.mono (by decide)) T.b_Database_is_doomed .nil pass0 rfl) (pa_cons (pe_prop (pv 0) T.k_Database T.m_Database_reason G_Database_reason (hr.mono (by decide)) T.b_Database_reason .nil pass0 rfl) (pa_cons (pe_prop (pv 0) T.k_Database T.m_Database_levels G_Database_levels (hr.mono (by decide)) T.b_Database_levels .nil pass0 rfl) (pa_cons (pe_prop (pv 0) T.k_Database T.m_Database_depth G_Database_depth (hr.mono (by decide)) T.b_Database_depth .nil pass0 rfl) pa_nil)))))))
  (pss_one (ps_ret (pe_cmpR op_eq (pe_callB (call_reprD hgd hr.units) (by rfl) T.n_repr (by decide +kernel) (pa_cons (pv 5) pa_nil)) (pe_callB (call_reprD hgd hr.units) (by rfl) T.n_repr (by decide +kernel) (pa_cons (pe_lst (pa_cons (pe_cmpR (op_neD hr.units) (pv 3) (pe_lst pa_nil) (nomark _)) (pa_cons (pe_cmpR op_notN (pv 4) pe_non (nomark _)) (pa_cons (pv 4) (pa_cons (pe_callB call_len_seq (by rfl) T.n_len PySem.boot_len (pa_cons (pv 3) pa_nil)) (pa_cons (pv 2) pa_nil)))))) pa_nil)) (nomark _))))))), ?_⟩
    dsimp only [cxOf]
    walk_at "rd"
    intro n1 f1
    refine ⟨.list (rvD (topR D.stack)), .list [], .lst (SqL.of (upd_old hq0 f1)) (dp_rv _), .lst (SqL.of upd_same) .nil, shaped_rv hg.2, rfl, ?_⟩
    rw [eqv_rv]
    have s1 : Same H (upd H n1 (.lst [])) := (Same.refl H).new f1
    have hq1 := s1 _ _ hq0
    have hD1 : DB a _ L D := hD.new (o := .lst []) f1
    have h1 := hD1.db
    generalize upd H n1 (.lst []) = H1 at s1 hq1 hD1 h1 ⊢
    have lm := hm.e
    rcases hD1.top with ⟨ts, st, et, es⟩ | ⟨t, ts, x, st, y, rs, et, es, ex, h4, h5⟩
    · have t0 : topR D.stack = [] := by rw [es]; rfl
      have o0 : openD D = false := by unfold openD; rw [es]
      have r0 : reasonD D = none := by unfold reasonD; rw [es]
      have l0 : levelsD D = 0 := by unfold levelsD; rw [es]
      rw [t0] at hq1 hg ⊢
      obtain ⟨k1, k2, k3, k4⟩ := told_ok (o := false) (b := false) (y := none) (l := ((0 : Nat) : Int)) (n := (D.entered.length : Int)) (by simp) (log_small (by decide)) (log_small (by omega))
      walk_at "rd"
      refine ⟨L, D, rfl, hD1, hm, ?_⟩
      walk_at "rd"
      refine ⟨L, D, rfl, hD1, hm, ?_⟩
      walk_at "rd"
      refine ⟨L, D, rfl, hD1, hm, ?_⟩
      walk_at "rd"
      refine ⟨L, D, rfl, hD1, hm, ?_⟩
      walk_at "rd"
      refine ⟨L, D, rfl, hD1, hm, ?_⟩
      dsimp only
      rw [o0, r0, l0]
      walk_at "rd"
      intro n2 f2
      walk_at "rd"
      refine ⟨toldD false false none ((0 : Nat) : Int) (D.entered.length : Int), rfl, .lst (SqL.of upd_same) (.cons (.bl _) (.cons (.bl _) (.cons (dp_o _) (.cons (.int _) (.cons (.int _) .nil))))), k1, k2, k3, k4, ?_⟩
      walk_at "rd"
      intro n3 f3
      refine ⟨.list (rvD []), .list [], .lst (SqL.of (upd_old (upd_old hq1 f2) f3)) (dp_rv _), .lst (SqL.of upd_same) .nil, shaped_rv hg.2, rfl, ?_⟩
      rw [eqv_rv]
      walk_at "rd"
      intro n4 f4
      rw [rv_len]
      refine ⟨_, toldD false false none ((0 : Nat) : Int) (D.entered.length : Int), rfl, .lst (SqL.of upd_same) (.cons (.bl _) (.cons (.bl _) (.cons (dp_o none) (.cons (.int _) (.cons (.int _) .nil))))), k1, k2, k3, k4, ?_⟩
      walk_at "rd"
      rw [decide_eq_true rfl]
      exact k _ (((s1.new f2).new f3).new f4)
    · obtain ⟨n, rs0⟩ := x
      dsimp only at ex
      subst ex
      have t0 : topR D.stack = y :: rs := by rw [es]; rfl
      have o0 : openD D = true := by unfold openD; rw [es]
      have r0 : reasonD D = y := by unfold reasonD; rw [es]
      have l0 : levelsD D = (y :: rs).length := by unfold levelsD; rw [es]
      have e2 := rv_at (f := oV) (x := y) (l := rs)
      rw [t0] at hq1 hg ⊢
      obtain ⟨k1, k2, k3, k4⟩ := told_ok (o := true) (b := y.isSome) (y := y) (l := ((y :: rs).length : Int)) (n := (D.entered.length : Int)) (fun z e => hg.2 z (by rw [e]; exact List.mem_cons_self)) (log_small (Nat.le_trans hg.1 (by decide))) (log_small (by omega))
      walk_at "rd"
      refine ⟨L, D, rfl, hD1, hm, ?_⟩
      walk_at "rd"
      refine ⟨L, D, rfl, hD1, hm, ?_⟩
      walk_at "rd"
      refine ⟨L, D, rfl, hD1, hm, ?_⟩
      walk_at "rd"
      refine ⟨L, D, rfl, hD1, hm, ?_⟩
      walk_at "rd"
      refine ⟨L, D, rfl, hD1, hm, ?_⟩
      dsimp only
      rw [o0, r0, l0]
      walk_at "rd"
      intro n2 f2
      walk_at "rd"
      refine ⟨toldD true y.isSome y ((y :: rs).length : Int) (D.entered.length : Int), rfl, .lst (SqL.of upd_same) (.cons (.bl _) (.cons (.bl _) (.cons (dp_o _) (.cons (.int _) (.cons (.int _) .nil))))), k1, k2, k3, k4, ?_⟩
      walk_at "rd"
      intro n3 f3
      refine ⟨.list (rvD (y :: rs)), .list [], .lst (SqL.of (upd_old (upd_old hq1 f2) f3)) (dp_rv _), .lst (SqL.of upd_same) .nil, shaped_rv hg.2, rfl, ?_⟩
      rw [eqv_rv]
      walk_at "rd"
      intro n4 f4
      rw [rv_len, show (!decide (oV y = V.non)) = y.isSome from by cases y <;> rfl]
      refine ⟨_, toldD true y.isSome y ((y :: rs).length : Int) (D.entered.length : Int), rfl, .lst (SqL.of upd_same) (.cons (.bl _) (.cons (.bl _) (.cons (dp_o _) (.cons (.int _) (.cons (.int _) .nil))))), k1, k2, k3, k4, ?_⟩
      walk_at "rd"
      rw [decide_eq_true rfl]
      exact k _ (((s1.new f2).new f3).new f4)
/-! ### the law's own stack, which it changes -/
structure MAt (H : Hp) (p so : Addr) (qs : List Addr) (stk : Stk) (ss : List Str) : Prop where
  hp : H p = some (.lst (rv V.ref qs))
  hq : All2 (fun q rs => H q = some (.lst (rv oV rs))) qs stk
  hs : H so = some (.lst (rv V.str ss))
  ps : p ≠ so
  pq : ∀ q ∈ qs, q ≠ p ∧ q ≠ so
  nd : qs.Nodup
def MF (p so : Addr) (qs : List Addr) (b : Addr) : Prop := b = p ∨ b = so ∨ b ∈ qs
section
variable {H H' : Hp} {p so : Addr} {qs : List Addr} {stk : Stk} {ss : List Str}
theorem MAt.there (h : MAt H p so qs stk ss) {b : Addr} (m : MF p so qs b) : ∃ xs, H b = some (.lst xs) := by
  rcases m with rfl | rfl | m
  · exact ⟨_, h.hp⟩
  · exact ⟨_, h.hs⟩
  · obtain ⟨rs, _, e⟩ := h.hq.mem m
    exact ⟨_, e⟩
theorem MAt.keep (h : MAt H p so qs stk ss) (k : ∀ b u, MF p so qs b → H b = some u → H' b = some u) : MAt H' p so qs stk ss :=
  ⟨k _ _ (.inl rfl) h.hp, h.hq.imp fun q rs hq e => k _ _ (.inr (.inr hq)) e, k _ _ (.inr (.inl rfl)) h.hs, h.ps, h.pq, h.nd⟩
theorem MAt.same (h : MAt H p so qs stk ss) (k : Same H H') : MAt H' p so qs stk ss := h.keep fun b u _ e => k b u e
theorem MAt.setS (h : MAt H p so qs stk ss) (ss' : List Str) : MAt (upd H so (.lst (rv V.str ss'))) p so qs stk ss' :=
  ⟨upd_oth h.ps h.hp, h.hq.imp fun q rs hq e => upd_oth (h.pq q hq).2 e, upd_same, h.ps, h.pq, h.nd⟩
theorem MAt.top {y : List (Option Str)} (h : MAt H p so qs (y :: stk) ss) : ∃ q r, qs = q :: r ∧ H q = some (.lst (rv oV y)) ∧ H p = some (.lst (rv V.ref (q :: r))) := by
  obtain ⟨h1, h2, _⟩ := h
  cases h2 with
  | cons a b => exact ⟨_, _, rfl, a, h1⟩
theorem MAt.setQ {q : Addr} {r : List Addr} {y y' : List (Option Str)} (h : MAt H p so (q :: r) (y :: stk) ss) : MAt (upd H q (.lst (rv oV y'))) p so (q :: r) (y' :: stk) ss := by
  have a := h.hq
  cases a with
  | cons a b =>
    have n := h.pq q List.mem_cons_self
    have nd := List.nodup_cons.mp h.nd
    exact ⟨upd_oth (Ne.symm n.1) h.hp, .cons upd_same (b.imp fun x rs hx e => upd_oth (fun z => nd.1 (z ▸ hx)) e), upd_oth (Ne.symm n.2) h.hs, h.ps, h.pq, h.nd⟩
theorem MAt.push {q : Addr} {y : List (Option Str)} (h : MAt H p so qs stk ss) (hq : H q = some (.lst (rv oV y))) (n : ¬ MF p so qs q) : MAt (upd H p (.lst (rv V.ref (q :: qs)))) p so (q :: qs) (y :: stk) ss := by
  have n1 : q ≠ p := fun z => n (.inl z)
  refine ⟨upd_same, .cons (upd_oth n1 hq) (h.hq.imp fun x rs hx e => upd_oth (h.pq x hx).1 e), upd_oth (Ne.symm h.ps) h.hs, h.ps, fun x hx => ?_, List.nodup_cons.mpr ⟨fun z => n (.inr (.inr z)), h.nd⟩⟩
  rcases List.mem_cons.mp hx with rfl | hx
  · exact ⟨n1, fun z => n (.inr (.inl z))⟩
  · exact h.pq x hx
theorem MAt.pop {q : Addr} {r : List Addr} {y : List (Option Str)} (h : MAt H p so (q :: r) (y :: stk) ss) : MAt (upd H p (.lst (rv V.ref r))) p so r stk ss := by
  have a := h.hq
  cases a with
  | cons a b => exact ⟨upd_same, b.imp fun x rs hx e => upd_oth (h.pq x (List.mem_cons_of_mem _ hx)).1 e, upd_oth (Ne.symm h.ps) h.hs, h.ps, fun x hx => h.pq x (List.mem_cons_of_mem _ hx), (List.nodup_cons.mp h.nd).2⟩
end
/-- what a step of the model leaves -/
structure MFr (H H' : Hp) (p so : Addr) (qs qs' : List Addr) : Prop where
  kp : Kp (MF p so qs) H H'
  mf : ∀ b, MF p so qs' b → MF p so qs b ∨ H b = none
section
variable {H H' H2 : Hp} {p so : Addr} {qs qs' qs2 : List Addr} {stk : Stk} {ss : List Str}
theorem MFr.refl : MFr H H p so qs qs := ⟨Kp.refl, fun _ h => .inl h⟩
theorem MFr.same (k : Same H H') : MFr H H' p so qs qs := ⟨.of_same k, fun _ h => .inl h⟩
theorem MFr.trans (a : MFr H H' p so qs qs') (b : MFr H' H2 p so qs' qs2) : MFr H H2 p so qs qs2 := by
  refine ⟨fun c u h n => ?_, fun c h => ?_⟩
  · refine b.kp c u (a.kp c u h n) fun z => ?_
    rcases a.mf c z with z | z
    · exact n z
    · rw [z] at h; cases h
  · rcases b.mf c h with z | z
    · exact a.mf c z
    · cases e : H c with
      | none => exact .inr rfl
      | some u =>
        by_cases hm : MF p so qs c
        · exact .inl hm
        · rw [a.kp c u e hm] at z; cases z
theorem MFr.set {b : Addr} {o : HO} (m : MF p so qs b) : MFr H (upd H b o) p so qs qs := ⟨Kp.refl.set m, fun _ h => .inl h⟩
theorem MFr.new {b : Addr} {o : HO} (a : MFr H H' p so qs qs') (h : H' b = none) : MFr H (upd H' b o) p so qs qs' := ⟨a.kp.new h, a.mf⟩
theorem MFr.pop {q : Addr} {o : HO} : MFr H (upd H p o) p so (q :: qs) qs := by
  refine ⟨Kp.refl.set (.inl rfl), fun b h => ?_⟩
  rcases h with h | h | h
  · exact .inl (.inl h)
  · exact .inl (.inr (.inl h))
  · exact .inl (.inr (.inr (List.mem_cons_of_mem _ h)))
theorem MFr.push {q : Addr} {o : HO} (a : MFr H H' p so qs qs') (hq : H q = none) : MFr H (upd H' p o) p so qs (q :: qs') := by
  refine ⟨a.kp.set (.inl rfl), fun b h => ?_⟩
  rcases h with h | h | h
  · exact .inl (.inl h)
  · exact .inl (.inr (.inl h))
  · rcases List.mem_cons.mp h with rfl | h
    · exact .inr hq
    · exact a.mf b (.inr (.inr h))
end
/-- the whole state of the law -/
structure KI (a : Ad) (H0 : Hp) (pp x p so : Addr) (H : Hp) (L : Lay) (D : Db) (qs : List Addr) (stk : Stk) (ss : List Str) (c : Nat) : Prop where
  same : Same H0 H
  pool : ∃ o, H pp = some o ∧ PoolO o c
  dat : DB a H L D
  ed : L.db = x
  mat : MAt H p so qs stk ss
  fre : ∀ b, (b = pp ∨ Mut L b ∨ MF p so qs b) → H0 b = none
  d1 : ∀ b, MF p so qs b → ¬ Mut L b ∧ b ≠ pp
  d2 : ¬ Mut L pp
section
variable {a : Ad} {H0 H H' : Hp} {pp x p so : Addr} {L : Lay} {D : Db} {qs : List Addr} {stk : Stk} {ss : List Str} {c : Nat}
theorem PoolO.notIns {o : HO} {c : Nat} (h : PoolO o c) {C dx : Addr} {fs : List (Str × V)} : o ≠ .ins C dx fs := by
  obtain ⟨x, y, z, e, _⟩ := h
  rw [e]
  exact fun z => by cases z
theorem DbAt.kpS {S : Addr → Prop} {aD aT aW : Addr} (h : DbAt aD aT aW H L D) (k : Kp S H H') (n : ∀ b, S b → ¬ Mut L b ∧ ∀ C dx fs, H b ≠ some (.ins C dx fs)) : DbAt aD aT aW H' L D := by
  refine h.keep fun b u f e => k b u e fun z => ?_
  rcases f with f | ⟨t, m, rfl⟩
  · exact (n b z).1 f
  · obtain ⟨x, h1, _⟩ := h.tx m
    exact (n _ z).2 _ _ _ h1
theorem KI.draw {o' : HO} {c' : Nat} (h : KI a H0 pp x p so H L D qs stk ss c) (k : Kp (fun b => b = pp) H H') (hp : H' pp = some o') (ho : PoolO o' c') : KI a H0 pp x p so H' L D qs stk ss c' := by
  obtain ⟨o, h1, h2⟩ := h.pool
  refine ⟨Kp.same h.same k fun b e => h.fre b (.inl e), ⟨o', hp, ho⟩, h.dat.kpS k fun b e => ⟨e ▸ h.d2, fun C dx fs z => ?_⟩, h.ed, h.mat.keep fun b u m e => k b u e (h.d1 b m).2, h.fre, h.d1, h.d2⟩
  rw [e, h1] at z
  exact h2.notIns (Option.some.inj z)
theorem KI.keep (h : KI a H0 pp x p so H L D qs stk ss c) (k : Same H H') : KI a H0 pp x p so H' L D qs stk ss c := by
  obtain ⟨o, h1, h2⟩ := h.pool
  exact ⟨h.same.trans k, ⟨o, k _ _ h1, h2⟩, h.dat.keep fun b u _ e => k b u e, h.ed, h.mat.same k, h.fre, h.d1, h.d2⟩
theorem KI.up {c' : Nat} (h : KI a H0 pp x p so H L D qs stk ss c) (k : c ≤ c') : KI a H0 pp x p so H L D qs stk ss c' := by
  obtain ⟨o, h1, h2⟩ := h.pool
  exact { h with pool := ⟨o, h1, h2.mono k⟩ }
theorem KI.db {L' : Lay} {D' : Db} (h : KI a H0 pp x p so H L D qs stk ss c) (hD : DB a H' L' D') (f : Fr H H' L L') : KI a H0 pp x p so H' L' D' qs stk ss c := by
  obtain ⟨o, h1, h2⟩ := h.pool
  refine ⟨fun b u e => f.kp b u (h.same b u e) fun z => ?_, ⟨o, f.kp _ _ h1 h.d2, h2⟩, hD, f.db.trans h.ed, h.mat.keep fun b u m e => f.kp b u e (h.d1 b m).1, fun b hb => ?_, fun b hb => ⟨?_, (h.d1 b hb).2⟩, f.out h1 h.d2⟩
  · rw [h.fre b (.inr (.inl z))] at e; cases e
  · rcases hb with hb | hb | hb
    · exact h.fre b (.inl hb)
    · rcases f.mt b hb with z | z
      · exact h.fre b (.inr (.inl z))
      · exact h.same.free z
    · exact h.fre b (.inr (.inr hb))
  · obtain ⟨xs, e⟩ := h.mat.there hb
    exact f.out e (h.d1 b hb).1
theorem KI.mdl {qs' : List Addr} {stk' : Stk} {ss' : List Str} (h : KI a H0 pp x p so H L D qs stk ss c) (hM : MAt H' p so qs' stk' ss') (f : MFr H H' p so qs qs') : KI a H0 pp x p so H' L D qs' stk' ss' c := by
  obtain ⟨o, h1, h2⟩ := h.pool
  have npp : ¬ MF p so qs pp := fun z => (h.d1 pp z).2 rfl
  refine ⟨fun b u e => f.kp b u (h.same b u e) fun z => ?_, ⟨o, f.kp _ _ h1 npp, h2⟩, h.dat.kpS f.kp fun b hb => ⟨(h.d1 b hb).1, fun C dx fs e => ?_⟩, h.ed, hM, fun b hb => ?_, fun b hb => ?_, h.d2⟩
  · rw [h.fre b (.inr (.inr z))] at e; cases e
  · obtain ⟨xs, e2⟩ := h.mat.there hb
    rw [e2] at e; cases e
  · rcases hb with hb | hb | hb
    · exact h.fre b (.inl hb)
    · exact h.fre b (.inr (.inl hb))
    · rcases f.mf b hb with z | z
      · exact h.fre b (.inr (.inr z))
      · exact h.same.free z
  · rcases f.mf b hb with z | z
    · exact h.d1 b z
    · refine ⟨h.dat.fresh z, fun e => ?_⟩
      rw [e, h1] at z; cases z
theorem KI.stkAt (h : KI a H0 pp x p so H L D qs stk ss c) : StkAt (fun _ => False) H p stk := ⟨qs, fun z => z, h.mat.hp, h.mat.hq.imp fun q rs _ e => ⟨fun z => z, e⟩⟩
end
/-! ### what block is entered -/
def sortM (m : Str) : List (Option Str) → Str
  | [] => if decide (V.str m = V.str "must") = true then "missing" else if inV (.str m) [.str "either", .str "never", .str "outside"] = true then "plain" else "base"
  | y :: _ => if inV (.str m) [.str "never", .str "alone"] = true then "present" else if decide (V.str m = V.str "inner") = true then (match y with | none => "level" | some _ => "doomed") else
    if decide (V.str m = V.str "apart") = true then "base" else if decide (V.str m = V.str "outside") = true then "outside" else "joined"
def sortV (m : Str) : Option V := if decide (V.str m = V.str "apart") = true then some (.str "base") else if decide (V.str m = V.str "outside") = true then some (.str "outside") else none
theorem sortV_eq (m : Str) : valV (mergeK [] [(.inr "apart", .str "base"), (.inr "outside", .str "outside")]) (.inr m : Key) = sortV m := by
  have e : mergeK [] [((.inr "apart" : Key), V.str "base"), (.inr "outside", .str "outside")] = [(.inr "apart", .str "base"), (.inr "outside", .str "outside")] := by decide +kernel
  rw [e]
  unfold sortV valV
  by_cases h1 : m = "apart"
  · subst h1
    rfl
  · have h2 : ¬ decide (V.str m = V.str "apart") = true := by simp [h1]
    have h3 : decide ((Sum.inr "apart" : Key) = .inr m) = false := by simp [Ne.symm h1]
    rw [if_neg h2, List.find?_cons, h3]
    dsimp only
    by_cases h4 : m = "outside"
    · subst h4
      rfl
    · have h5 : ¬ decide (V.str m = V.str "outside") = true := by simp [h4]
      have h6 : decide ((Sum.inr "outside" : Key) = .inr m) = false := by simp [Ne.symm h4]
      rw [if_neg h5, List.find?_cons, h6]
      rfl
def spSort : Sp := fun vs H Q _ => ∃ (p : Addr) (m : Str) (y : List (Option Str)) (stk : Stk), vs = [.ref p, .str m] ∧ StkAt (fun _ => False) H p (y :: stk) ∧ GoodR y ∧ ∀ H', Same H H' → Q (.str (sortM m y)) H'
theorem ok_law_sort (T : Txt K mg a d) : FnOk P w K mg base CX0 1 a.law_sort d.law_sort ["_law_stack", "_law_mode"] spSort := by
  refine T.law_sort.ok sc_law_sort (fun vs H Q E h => ?_) (fun cdv A outer s H vs Q E hr h => ?_)
  · obtain ⟨p, m, y, stk, rfl, _⟩ := h
    rfl
  · obtain ⟨p, m, y, stk, rfl, ⟨qs, _, hp2, hq⟩, hg, k⟩ := h
    cases hq with
    | @cons q _ qs _ hq0 hq =>
    obtain ⟨_, hq0⟩ := hq0
    have e1 := rv_at (f := V.ref) (x := q) (l := qs)
    refine ⟨_, (pss_cons (ps_if (pt_cmpR (op_eqD hr.units) (pe_ix ix_list (pv 0) (pe_un un_neg pe_int) (fun _ _ => rfl)) (pe_lst pa_nil) (nomark _)) (pss_cons (ps_if (pt_cmpR op_eq (pv 1) pe_str (nomark _)) (pss_one (ps_ret pe_str)) pss_nil)
  (pss_one (ps_ret (pe_ifExp (pt_cmpR op_in_seq (pv 1) (pe_lst (pa_cons pe_str (pa_cons pe_str (pa_cons pe_str pa_nil)))) (by rfl)) pe_str pe_str)))) pss_nil)
  (pss_cons (ps_if (pt_cmpR op_in_seq (pv 1) (pe_lst (pa_cons pe_str (pa_cons pe_str pa_nil))) (by rfl)) (pss_one (ps_ret pe_str)) pss_nil)
  (pss_cons (ps_if (pt_cmpR op_eq (pv 1) pe_str (nomark _)) (pss_one (ps_ret (pe_ifExp (pt_cmpR op_isN (pe_ix ix_list (pe_ix ix_list (pv 0) (pe_un un_neg pe_int) (fun _ _ => rfl)) (pe_un un_neg pe_int) (fun _ _ => rfl)) pe_non (nomark _)) pe_str pe_str))) pss_nil)
  (pss_one (ps_ret (pe_dget2 (hu_of hr) (pe_disp (pps_cons pe_str pe_str (pps_cons pe_str pe_str pps_nil)) (by rfl) (by rfl) (fun z => by cases z) (by decide)) (pv 1) pe_str ⟨by rfl, by rfl, by rfl, by rfl⟩)))))), ?_⟩
    dsimp only [cxOf]
    walk_at "rd"
    intro n1 f1
    refine ⟨.list (rvD y), .list [], .lst (SqL.of (upd_old hq0 f1)) (dp_rv y), .lst (SqL.of upd_same) .nil, shaped_rv hg.2, rfl, ?_⟩
    rw [eqv_rv]
    have s1 : Same H (upd H n1 (.lst [])) := (Same.refl H).new f1
    replace hp2 := s1 _ _ hp2
    replace hq0 := s1 _ _ hq0
    generalize upd H n1 (.lst []) = H1 at s1 hp2 hq0 ⊢
    cases y with
    | nil =>
      unfold sortM at k
      dsimp only at k
      walk_at "rd"
      refine ite2 (fun b1 => ?_) (fun b1 => ?_)
      · rw [if_pos b1] at k
        exact k _ s1
      rw [if_neg b1] at k
      walk_at "rd"
      intro n2 g2
      walk_at "rd"
      refine ite2 (fun b2 => ?_) (fun b2 => ?_)
      · rw [if_pos (show inV (V.str m) [V.str "either", V.str "never", V.str "outside"] = true from b2)] at k
        exact k _ (s1.new g2)
      · rw [if_neg (show ¬ inV (V.str m) [V.str "either", V.str "never", V.str "outside"] = true from b2)] at k
        exact k _ (s1.new g2)
    | cons y rs =>
      unfold sortM at k
      dsimp only at k
      have e2 := rv_at (f := oV) (x := y) (l := rs)
      walk_at "rd"
      intro n2 g2
      walk_at "rd"
      have s2 : Same H (upd H1 n2 (.lst [.str "never", .str "alone"])) := s1.new g2
      have hp3 := upd_old (o := .lst [.str "never", .str "alone"]) hp2 g2
      have hq3 := upd_old (o := .lst [.str "never", .str "alone"]) hq0 g2
      generalize upd H1 n2 (.lst [.str "never", .str "alone"]) = H2 at s2 hp3 hq3 ⊢
      refine ite2 (fun b1 => ?_) (fun b1 => ?_)
      · rw [if_pos (show inV (V.str m) [V.str "never", V.str "alone"] = true from b1)] at k
        exact k _ s2
      rw [if_neg (show ¬ inV (V.str m) [V.str "never", V.str "alone"] = true from b1)] at k
      walk_at "rd"
      refine ite2 (fun b2 => ?_) (fun b2 => ?_)
      · rw [if_pos b2] at k
        cases y with
        | some z =>
          walk_at "rd"
          exact k _ s2
        | none =>
          walk_at "rd"
          exact k _ s2
      rw [if_neg b2] at k
      walk_at "rd"
      intro n3 g3
      refine ⟨upd_same, [(.inr "apart", .str "base"), (.inr "outside", .str "outside")], rfl, by decide, ?_⟩
      refine ⟨n3, rfl, .inl ⟨_, .inl upd_same⟩, _, rfl, _, DGet.k (k := .inr m) upd_same, ?_⟩
      rw [show valV (mergeK [] [(.inr "apart", .str "base"), (.inr "outside", .str "outside")]) (.inr m : Key) = sortV m from sortV_eq m]
      have s3 := (s2.new (o := .dK []) g3).frsh (p := n3) (o := .dK (mergeK [] [(.inr "apart", .str "base"), (.inr "outside", .str "outside")])) (s2.free g3)
      unfold sortV
      by_cases b3 : decide (V.str m = V.str "apart") = true
      · rw [if_pos b3] at k ⊢
        exact k _ s3
      rw [if_neg b3] at k ⊢
      by_cases b4 : decide (V.str m = V.str "outside") = true
      · rw [if_pos b4] at k ⊢
        exact k _ s3
      rw [if_neg b4] at k ⊢
      exact k _ s3
/-! ### the law enters -/
theorem no_Missing_mode (T : Txt K mg a d) : PySem.W.findIn K (.ref a.Missing) "mode" = some none := T.e_Missing.noF ("mode", .inl 0) (by simp [ef_Missing])
theorem no_Present_mode (T : Txt K mg a d) : PySem.W.findIn K (.ref a.Present) "mode" = some none := T.e_Present.noF ("mode", .inl 0) (by simp [ef_Present])
theorem no_Doomed_first (T : Txt K mg a d) : PySem.W.findIn K (.ref a.Doomed) "first" = some none := T.e_Doomed.noF ("first", .inl 0) (by simp [ef_Doomed])
theorem no_Refused_word (T : Txt K mg a d) : PySem.W.findIn K (.ref a.Refused) "word" = some none := T.e_Refused.noF ("word", .inr "refused") (by simp [ef_Refused])
def nmE : Option EK → Str
  | none => ""
  | some (.missing _) => "missing"
  | some (.present _) => "present"
  | some (.doomed _) => "doomed"
  | some .refused => "refused"
  | some .noblock => "noblock"
theorem enterD_arg (D : Db) (m : Str) : (∀ z, (enterD D m).2 = some (.missing z) → z = m) ∧ (∀ z, (enterD D m).2 = some (.present z) → z = m) ∧ (∀ z, (enterD D m).2 = some (.doomed z) → reasonD (enterD D m).1 = some z) ∧ (enterD D m).2 ≠ some .refused ∧ (enterD D m).2 ≠ some .noblock := by
  unfold enterD
  split
  · unfold aloneD
    repeat' split
    all_goals simp
  · rename_i n y rs st e
    unfold lvlD
    repeat' split
    all_goals simp
    all_goals (unfold reasonD; rw [e])
  · simp
theorem okP_Database_reason (T : Txt K mg a d) : FnP P w K mg base CX0 1 a.Database_reason d.Database_reason ["self"] (spProp a fun D => oV (reasonD D)) := by
  refine okP T.Database_reason sc_Database_reason (fun vs H Q E h => ?_) (fun cdv A outer s H vs Q E p hr h => ?_)
  · obtain ⟨L, D, rfl, _⟩ := h
    rfl
  · obtain ⟨L, D, rfl, hD, hm, k⟩ := h
    have c1 := T.k_Database
    have c2 := T.k_Transaction
    have n1 := T.na_Database_stack
    have n3 := T.na_Transaction_reasons
    have h1 := hD.db
    have h2 := hD.s
    refine ⟨_, (pss_one (ps_ret (pe_ifExp (pt_cmpR op_isN (pe_ix ix_list (pe_fld (pv 0) rfl) (pe_un un_neg pe_int) (fun _ _ => rfl)) pe_non (nomark _)) pe_non (pe_ix ix_list (pe_fld (pe_ix ix_list (pe_fld (pv 0) rfl) (pe_un un_neg pe_int) (fun _ _ => rfl)) rfl) (pe_un un_neg pe_int) (fun _ _ => rfl))))), ?_⟩
    dsimp only [cxOf, L2H.cxH]
    unfold reasonD at k
    dsimp only at k
    rcases hD.top with ⟨ts, st, et, es⟩ | ⟨t, ts, x, st, y, rs, et, es, ex, h4, h5⟩
    · rw [es] at k
      rw [et] at h2
      have e1 := rv_at (f := tV) (x := none) (l := ts)
      walk_at "rd"
      exact k
    · obtain ⟨n, rs0⟩ := x
      dsimp only at ex
      subst ex
      rw [es] at k
      rw [et] at h2
      have e1 := rv_at (f := tV) (x := some t) (l := ts)
      have e2 := rv_at (f := oV) (x := y) (l := rs)
      walk_at "rd"
      exact k
def spLEnt (a : Ad) : Sp := fun vs H Q _ => ∃ L D m, vs = [.ref L.db, .str m] ∧ m ∈ modesS ∧ DB a H L D ∧ Sm D ∧ Sm (enterD D m).1 ∧
  ∀ H' L', DB a H' L' (enterD D m).1 → Fr H H' L L' → Q (.str (nmE (enterD D m).2)) H'
theorem ok_law_enter (T : Txt K mg a d) : FnOk P w K mg base CX0 6 a.law_enter d.law_enter ["_law_db", "_law_mode"] (spLEnt a) := by
  have G_Database_enter : FnOk P w K mg base (L2.CX P w) 5 a.Database_enter d.Database_enter ["self", "mode"] (spEnter a) := ok_Database_enter T
  have GP_Database_reason : FnP P w K mg base CX0 1 a.Database_reason d.Database_reason ["self"] (spProp a fun D => oV (reasonD D)) := okP_Database_reason T
  refine T.law_enter.ok sc_law_enter (fun vs H Q E h => ?_) (fun cdv A outer s H vs Q E hr h => ?_)
  · obtain ⟨L, D, m, rfl, _⟩ := h
    rfl
  · obtain ⟨L, D, m, rfl, hmm, hD, hm, hm', k⟩ := h
    have h1 := hD.db
    refine ⟨_, (pss_cons (ps_tryA rfl rfl sc_law_enter.nd takes0 (fun W pn xe tk po => (pss_one (ps_expr (pe_methSD (pv 0) T.k_Database T.m_Database_enter G_Database_enter (hr.mono (by decide)) T.b_Database_enter .nil (fun σ => passAt tk σ) (pa_cons (pv 1) pa_nil))))) (.consA (i := 2) (.intro (by rfl) (And.intro (by decide) (Or.inl T.g_Missing))) rfl rfl (fun _ _ _ _ _ hz hf => (pss_one (ps_ret (pe_ifExp (pt_cmpR op_eq (pe_xf (xfc T.e_Missing) (no_Missing_mode T) hz hf (pv 2)) (pv 1) (nomark _)) pe_str pe_str)))) (.consA (i := 2) (.intro (by rfl) (And.intro (by decide) (Or.inl T.g_Present))) rfl rfl (fun _ _ _ _ _ hz hf => (pss_one (ps_ret (pe_ifExp (pt_cmpR op_eq (pe_xf (xfc T.e_Present) (no_Present_mode T) hz hf (pv 2)) (pv 1) (nomark _)) pe_str pe_str)))) (.consA (i := 2) (.intro (by rfl) (And.intro (by decide) (Or.inl T.g_Doomed))) rfl rfl (fun _ _ _ _ _ hz hf => (pss_one (ps_ret (pe_ifExp (pt_cmpR op_eq (pe_xf (xfc T.e_Doomed) (no_Doomed_first T) hz hf (pv 2)) (pe_propP (pv 0) T.k_Database T.m_Database_reason GP_Database_reason ⟨(hr.mono (by decide : 2 ≤ 5)).dp, (hr.mono (by decide : 2 ≤ 5)).un⟩ ⟨_, List.mem_cons_self⟩ T.b_Database_reason .nil rfl) (nomark _)) pe_str pe_str)))) .nil))))
  (pss_one (ps_ret pe_str))), ?_⟩
    dsimp only [cxOf]
    walk_at "rd"
    refine ⟨L, D, m, rfl, hmm, hD, hm, fun H' L' hD' f' => ?_⟩
    obtain ⟨q1, q2, q3, q4, q5⟩ := enterD_arg D m
    cases he : (enterD D m).2 with
    | none =>
      have z := k H' L' hD' f'
      rw [he] at z
      exact z
    | some e =>
      have k2 : ∀ {d o}, H' d = none → Q (.str (nmE (some e))) (upd H' d o) := fun {d o} g1 => by
        have z := k _ L' (hD'.new (o := o) g1) (f'.new g1)
        rw [he] at z
        exact z
      cases e with
      | missing m' =>
        cases q1 _ he
        intro dd g1
        refine ⟨true, T.e_Missing.te, fun _ x hx => ?_, (fun z => by cases z)⟩
        unfold wCl
        walk_at "rd"
        exact ite2 (fun _ => k2 g1) (fun c => absurd (decide_eq_true rfl) c)
      | present m' =>
        cases q2 _ he
        intro dd g1
        refine ⟨false, T.x_Present_Missing, (fun z => by cases z), fun _ => ⟨true, T.e_Present.te, fun _ x hx => ?_, (fun z => by cases z)⟩⟩
        unfold wCl
        walk_at "rd"
        exact ite2 (fun _ => k2 g1) (fun c => absurd (decide_eq_true rfl) c)
      | doomed z =>
        have r1 := q3 _ he
        intro dd g1
        refine ⟨false, T.x_Doomed_Missing, (fun z => by cases z), fun _ => ⟨false, T.x_Doomed_Present, (fun z => by cases z), fun _ => ⟨true, T.e_Doomed.te, fun _ x hx => ?_, (fun z => by cases z)⟩⟩⟩
        unfold wCl
        have hD2 : DB a (upd H' dd (.xd (errF [.str z] ef_Doomed []))) L' (enterD D m).1 := hD'.new g1
        have h3 := hD2.db
        rw [f'.db] at h3
        walk_at "rd"
        refine ⟨L', _, by rw [f'.db], hD2, hm', ?_⟩
        dsimp only
        rw [r1]
        walk_at "rd"
        exact ite2 (fun _ => k2 g1) (fun c => absurd (decide_eq_true rfl) c)
      | refused => exact absurd he q4
      | noblock => exact absurd he q5
/-! ### the law leaves -/
theorem kb_leave' (T : Txt K mg a d) : ∃ its mv : List Value, KBn K d.Database_leave ["self", "error", "commits"] 2 ["commits"] (fun us ws => us ++ ws) (fun vs zs => vs ++ zs) :=
  T.Database_leave.kbinds (ps := ["self", "error", "commits"]) 2 ["commits"] [] (fun us _ _ ws => us ++ ws) (by simp) (by simp) (by simp) (fun a _ _ b => a.append b)
    (fun T D doc pm an cdv ct us its mv ws hu hi hm hw => match us, hu, its, hi, mv, hm, ws, hw with | [_, _], _, [_], _, [], _, [_], _ => ⟨_, rfl, rfl⟩)
def dueV : Option EK → List V
  | none => [.str "", .non]
  | some (.doomed z) => [.str "doomed", .str z]
  | some .refused => [.str "refused", .non]
  | some .noblock => [.str "noblock", .non]
  | some (.missing _) => [.str "missing", .non]
  | some (.present _) => [.str "present", .non]
theorem leaveD_err (D : Db) (err : Option Str) (c : Bool) : (∀ z, (leaveD D err c).2 ≠ some (.missing z)) ∧ ∀ z, (leaveD D err c).2 ≠ some (.present z) := by
  have h : ∀ err y c, (∀ z, endE err y c ≠ some (.missing z)) ∧ ∀ z, endE err y c ≠ some (.present z) := fun err y c => by
    unfold endE
    split <;> simp
  unfold leaveD
  repeat' split
  all_goals first | exact h _ _ _ | simp
def spLLeave (a : Ad) : Sp := fun vs H Q _ => ∃ L D err c, vs = [.ref L.db, oV err, .bl c] ∧ (∀ z, err = some z → IsWord z) ∧ DB a H L D ∧ Sm D ∧ D.rows = [] ∧ D.floor = 0 ∧ Wf D.entered D.stack ∧
  ∀ H' L' t, DB a H' L' (leaveD D err c).1 → Fr H H' L L' → H' t = some (.tup (dueV (leaveD D err c).2)) → Q (.ref t) H'
theorem ok_law_leave (T : Txt K mg a d) : FnOk P w K mg base CX0 4 a.law_leave d.law_leave ["_law_db", "_law_error", "_law_goes"] (spLLeave a) := by
  have G_Database_leave : FnOk P w K mg base (L2.CX P w) 3 a.Database_leave d.Database_leave ["self", "error", "commits"] (spLeave a) := ok_Database_leave T
  obtain ⟨_, _, kb_leave⟩ := kb_leave' T
  refine T.law_leave.ok sc_law_leave (fun vs H Q E h => ?_) (fun cdv A outer s H vs Q E hr h => ?_)
  · obtain ⟨L, D, err, c, rfl, _⟩ := h
    rfl
  · obtain ⟨L, D, err, c, rfl, hz, hD, hm, hrow, hfl, hw, k⟩ := h
    have h1 := hD.db
    refine ⟨_, (pss_cons (ps_tryA rfl rfl sc_law_leave.nd takes0 (fun W pn xe tk po => (pss_one (ps_set (i := 3) sc_law_leave.nd rfl (Or.inl rfl) (pe_methK (pv 0) T.k_Database T.m_Database_leave G_Database_leave (hr.mono (by decide)) kb_leave (fun σ => passAt tk σ) (pa_cons (pv 1) pa_nil) (pk_cons (pv 2) pk_nil))))) (.consA (i := 4) (.intro (by rfl) (And.intro (by decide) (Or.inl T.g_Doomed))) rfl rfl (fun _ _ _ _ _ hz hf => (pss_one (ps_ret (pe_tup (pa_cons pe_str (pa_cons (pe_xf (xfc T.e_Doomed) (no_Doomed_first T) hz hf (pv 4)) pa_nil)))))) (.consA (i := 4) (.intro (by rfl) (And.intro (by decide) (Or.inl T.g_Refused))) rfl rfl (fun _ _ _ _ _ hz hf => (pss_one (ps_ret (pe_tup (pa_cons (pe_xf (xfc T.e_Refused) (no_Refused_word T) hz hf (pv 4)) (pa_cons pe_non pa_nil)))))) (.cons (.intro (by rfl) (And.intro (by decide) (Or.inl T.g_NoBlock))) (fun _ _ _ _ _ hz hf => (pss_one (ps_ret (pe_tup (pa_cons pe_str (pa_cons pe_non pa_nil)))))) .nil))))
  (pss_one (ps_ret (pe_tup (pa_cons pe_str (pa_cons (pv 3) pa_nil)))))), ?_⟩
    dsimp only [cxOf]
    walk_at "rd"
    refine ⟨L, D, err, c, rfl, hz, hD, hm, hrow, hfl, hw, fun H' L' hD' f' => ?_⟩
    obtain ⟨q1, q2⟩ := leaveD_err D err c
    cases he : (leaveD D err c).2 with
    | none =>
      rw [he] at k
      walk_at "rd"
      intro t ht
      exact k _ L' t (hD'.new ht) (f'.new ht) upd_same
    | some e =>
      have k2 : ∀ {d t o}, H' d = none → upd H' d o t = none → Q (.ref t) (upd (upd H' d o) t (.tup (dueV (some e)))) := fun {d t o} g1 g2 => by
        rw [he] at k
        exact k _ L' t ((hD'.new (o := o) g1).new g2) ((f'.new g1).new g2) upd_same
      have k3 : ∀ {t}, H' t = none → Q (.ref t) (upd H' t (.tup (dueV (some e)))) := fun {t} g2 => by
        rw [he] at k
        exact k _ L' t (hD'.new g2) (f'.new g2) upd_same
      cases e with
      | missing m' => exact absurd he (q1 _)
      | present m' => exact absurd he (q2 _)
      | doomed z =>
        intro dd g1
        refine ⟨true, T.e_Doomed.te, fun _ x hx => ?_, (fun z => by cases z)⟩
        unfold wCl
        walk_at "rd"
        intro t g2
        exact k2 g1 g2
      | refused =>
        intro dd g1
        refine ⟨false, T.x_Refused_Doomed, (fun z => by cases z), fun _ => ⟨true, T.e_Refused.te, fun _ x hx => ?_, (fun z => by cases z)⟩⟩
        unfold wCl
        walk_at "rd"
        intro t g2
        exact k2 g1 g2
      | noblock =>
        refine ⟨false, T.x_NoBlock_Doomed, (fun z => by cases z), fun _ => ⟨false, T.x_NoBlock_Refused, (fun z => by cases z), fun _ => ⟨true, T.e_NoBlock.te, fun _ x hx => ?_, (fun z => by cases z)⟩⟩⟩
        unfold wCl
        walk_at "rd"
        intro t g2
        exact k3 g2
/-! ### the model leaves -/
theorem dp_rvS {K : PySem.W.Frag} {H : Hp} (l : List Str) : DpAll K H (rv V.str l) ((l.map PyData.str).reverse) := by
  unfold rv
  rw [← List.map_reverse, ← List.map_reverse]
  exact dp_strs _
theorem eqv_rvS (l : List Str) : PyData.eqv (.list (l.map PyData.str).reverse) (.list []) = l.isEmpty := by
  show PyData.eqvAll _ [] = _
  rw [eqvAll_nil]
  cases l <;> simp
theorem shaped_rvS {l : List Str} (h : ∀ y ∈ l, asc y) : SeqAt.shaped (.list (l.map PyData.str).reverse) = true := by
  rw [← List.map_reverse]
  exact shaped_strs fun y hy => h y (List.mem_reverse.mp hy)
theorem Wf.asc {es : List Str} {st : List (Option Tx)} (h : Wf es st) : ∀ y ∈ es, asc y := by
  have hz : ∀ z : Str, (z.cps.toList.all fun c => decide (c < 128)) = true → Ic.asc z := fun z h c hc => of_decide_eq_true (List.all_eq_true.mp h c hc)
  induction h with
  | nil => exact fun y hy => by cases hy
  | plain h ih =>
    intro y hy
    rcases List.mem_cons.mp hy with rfl | hy
    · exact hz _ (by decide +kernel)
    · exact ih y hy
  | base h ih =>
    intro y hy
    rcases List.mem_cons.mp hy with rfl | hy
    · exact hz _ (by decide +kernel)
    · exact ih y hy
  | level h ih =>
    intro y hy
    rcases List.mem_cons.mp hy with rfl | hy
    · exact hz _ (by decide +kernel)
    · exact ih y hy
  | joined h ih =>
    intro y hy
    rcases List.mem_cons.mp hy with rfl | hy
    · exact hz _ (by decide +kernel)
    · exact ih y hy
  | outside h ih =>
    intro y hy
    rcases List.mem_cons.mp hy with rfl | hy
    · exact hz _ (by decide +kernel)
    · exact ih y hy
def spLeft : Sp := fun vs H Q _ => ∃ p so qs D err c, vs = [.ref p, .ref so, oV err, .bl c] ∧ MAt H p so qs (absS D.stack) D.entered ∧ Wf D.entered D.stack ∧
  ∀ H' qs' t, MAt H' p so qs' (absS (leaveD D err c).1.stack) (leaveD D err c).1.entered → MFr H H' p so qs qs' → H' t = some (.tup (dueV (leaveD D err c).2)) → Q (.ref t) H'
theorem ok_law_left (T : Txt K mg a d) : FnOk P w K mg base CX0 1 a.law_left d.law_left ["_law_stack", "_law_sorts", "_law_error", "_law_goes"] spLeft := by
  refine T.law_left.ok sc_law_left (fun vs H Q E h => ?_) (fun cdv A outer s H vs Q E hr h => ?_)
  · obtain ⟨p, so, qs, D, err, c, rfl, _⟩ := h
    rfl
  · obtain ⟨p, so, qs, D, err, c, rfl, hM, hw, k⟩ := h
    refine ⟨_, (pss_cons (ps_if (pt_cmpR (op_eqD hr.units) (pv 1) (pe_lst pa_nil) (nomark _)) (pss_one (ps_ret (pe_tup (pa_cons pe_str (pa_cons pe_non pa_nil))))) pss_nil)
  (pss_cons (ps_set (i := 4) sc_law_left.nd rfl (Or.inl rfl) (pe_bm0 PySem.F.plainAttrs_list PySem.F.slot_list_pop PySem.F.type_list_pop mt_pop (pv 1)))
  (pss_cons (ps_if (PW.pt (pw_and (pt_cmpR op_eq (pv 4) pe_str (nomark _)) (pw_and (pt_cmpR op_notN (pv 2) pe_non (nomark _)) (pw_and1 (pt_cmpR op_isN (pe_ix ix_list (pe_ix ix_list (pv 0) (pe_un un_neg pe_int) (fun _ _ => rfl)) (pe_un un_neg pe_int) (fun _ _ => rfl)) pe_non (nomark _)))))) (pss_one (ps_asg (pv 2) (pg_sub (pe_ix ix_list (pv 0) (pe_un un_neg pe_int) (fun _ _ => rfl)) (pe_un un_neg pe_int) set_list))) pss_nil)
  (pss_cons (ps_if (pt_cmpR op_eq (pv 4) pe_str (nomark _)) (pss_one (ps_expr (pe_bm0 PySem.F.plainAttrs_list PySem.F.slot_list_pop PySem.F.type_list_pop mt_pop (pv 0)))) pss_nil)
  (pss_cons (ps_if (pt_cmpR op_notIn_seq (pv 4) (pe_lst (pa_cons pe_str (pa_cons pe_str pa_nil))) (by rfl)) (pss_one (ps_ret (pe_tup (pa_cons pe_str (pa_cons pe_non pa_nil))))) pss_nil)
  (pss_cons (ps_set (i := 5) sc_law_left.nd rfl (Or.inl rfl) (pe_bm0 PySem.F.plainAttrs_list PySem.F.slot_list_pop PySem.F.type_list_pop mt_pop (pe_ix ix_list (pv 0) (pe_un un_neg pe_int) (fun _ _ => rfl))))
  (pss_cons (ps_if (pt_cmpR op_eq (pv 4) pe_str (nomark _)) (pss_one (ps_expr (pe_bm0 PySem.F.plainAttrs_list PySem.F.slot_list_pop PySem.F.type_list_pop mt_pop (pv 0)))) pss_nil)
  (pss_cons (ps_if (PW.pt (pw_and (pt_cmpR op_isN (pv 2) pe_non (nomark _)) (pw_and1 (pt_cmpR op_notN (pv 5) pe_non (nomark _))))) (pss_one (ps_ret (pe_tup (pa_cons pe_str (pa_cons (pv 5) pa_nil))))) pss_nil)
  (pss_cons (ps_if (PW.pt (pw_and (pt_cmpR op_eq (pv 4) pe_str (nomark _)) (pw_and (pt_cmpR op_isN (pv 2) pe_non (nomark _)) (pw_and1 (pt_not (pt_val (pv 3))))))) (pss_one (ps_ret (pe_tup (pa_cons pe_str (pa_cons pe_non pa_nil))))) pss_nil)
  (pss_one (ps_ret (pe_tup (pa_cons pe_str (pa_cons pe_non pa_nil)))))))))))))), ?_⟩
    dsimp only [cxOf]
    walk_at "rd"
    intro n1 g1
    have s1 : Same H (upd H n1 (.lst [])) := (Same.refl H).new g1
    have hM1 := hM.same s1
    refine ⟨_, _, .lst (SqL.of hM1.hs) (dp_rvS _), .lst (SqL.of upd_same) .nil, shaped_rvS hw.asc, rfl, ?_⟩
    rw [eqv_rvS]
    have f1 : MFr H _ p so qs qs := .same s1
    generalize upd H n1 (.lst []) = H1 at s1 hM1 f1 ⊢
    obtain ⟨rows, stack, entered, floor, opened⟩ := D
    dsimp only at hM hM1 hw ⊢
    unfold leaveD at k
    cases hw with
    | nil =>
      walk_at "rd"
      intro t ht
      exact k _ qs t (hM1.same ((Same.refl _).new ht)) (f1.new ht) upd_same
    | @plain es st h =>
      have hM2 := hM1.setS es
      have f2 := f1.trans (MFr.set (o := .lst (rv V.str es)) (.inr (.inl rfl)))
      have h0 := hM1.hs
      have e0 := rv_pop (f := V.str) (x := "plain") (l := es)
      rw [← rv_drop (f := V.str) (x := "plain") (l := es)] at hM2 f2
      walk_at "rd"
      generalize upd H1 so (.lst (rv V.str ("plain" :: es)).dropLast) = H2 at hM2 f2 ⊢
      intro n2 g2
      walk_at "rd"
      intro t ht
      exact k _ _ t (hM2.same (((Same.refl _).new g2).new ht)) ((f2.new g2).new ht) upd_same
    | @outside es st x h =>
      have hM2 := hM1.setS es
      have f2 := f1.trans (MFr.set (o := .lst (rv V.str es)) (.inr (.inl rfl)))
      have h0 := hM1.hs
      have e0 := rv_pop (f := V.str) (x := "outside") (l := es)
      rw [← rv_drop (f := V.str) (x := "outside") (l := es)] at hM2 f2
      obtain ⟨q, r, rfl, hq, hp⟩ := MAt.top (y := []) (stk := absS (some x :: st)) hM2
      have e1 := rv_pop (f := V.ref) (x := q) (l := r)
      walk_at "rd"
      generalize upd H1 so (.lst (rv V.str ("outside" :: es)).dropLast) = H2 at hM2 f2 ⊢
      have hM3 := hM2.pop
      have f3 := f2.trans (MFr.pop (o := .lst (rv V.ref r)))
      rw [← rv_drop (f := V.ref) (x := q) (l := r)] at hM3 f3
      walk_at "rd"
      generalize upd H2 p (.lst (rv V.ref (q :: r)).dropLast) = H3 at hM3 f3 ⊢
      intro n2 g2
      walk_at "rd"
      intro t ht
      exact k _ _ t (hM3.same (((Same.refl _).new g2).new ht)) ((f3.new g2).new ht) upd_same
    | @base es st n y h =>
      have hM2 := hM1.setS es
      have f2 := f1.trans (MFr.set (o := .lst (rv V.str es)) (.inr (.inl rfl)))
      have h0 := hM1.hs
      have e0 := rv_pop (f := V.str) (x := "base") (l := es)
      rw [← rv_drop (f := V.str) (x := "base") (l := es)] at hM2 f2
      obtain ⟨q, r, rfl, hq, hp⟩ := MAt.top (y := [y]) (stk := absS st) hM2
      have e1 := rv_at (f := V.ref) (x := q) (l := r)
      have e2 := rv_pop (f := oV) (x := y) (l := [])
      walk_at "rd"
      generalize upd H1 so (.lst (rv V.str ("base" :: es)).dropLast) = H2 at hM2 f2 hq hp ⊢
      intro n2 g2
      have hM3 := hM2.same ((Same.refl _).new (o := .lst [.str "base", .str "level"]) g2)
      have f3 := f2.new (o := .lst [.str "base", .str "level"]) g2
      have hq3 := upd_old (o := .lst [.str "base", .str "level"]) hq g2
      have hp3 := upd_old (o := .lst [.str "base", .str "level"]) hp g2
      walk_at "rd"
      generalize upd H2 n2 (.lst [.str "base", .str "level"]) = H3 at hM3 f3 hq3 hp3 ⊢
      have hM4 := hM3.setQ (y' := [])
      have f4 := f3.trans (MFr.set (o := .lst (rv oV [])) (.inr (.inr List.mem_cons_self)))
      rw [← rv_drop (f := oV) (x := y) (l := [])] at hM4 f4
      have hp4 := hM4.hp
      have hM5 := hM4.pop
      have f5 := f4.trans (MFr.pop (o := .lst (rv V.ref r)))
      have e3 := rv_pop (f := V.ref) (x := q) (l := r)
      rw [← rv_drop (f := V.ref) (x := q) (l := r)] at hM5 f5
      walk_at "rd"
      generalize upd (upd H3 q (.lst (rv oV (y :: [])).dropLast)) p (.lst (rv V.ref (q :: r)).dropLast) = H5 at hM5 f5 ⊢
      cases err with
      | some z =>
        walk_at "rd"
        intro t ht
        exact k _ _ t (hM5.same ((Same.refl _).new ht)) (f5.new ht) upd_same
      | none =>
        cases y with
        | some z =>
          walk_at "rd"
          intro t ht
          exact k _ _ t (hM5.same ((Same.refl _).new ht)) (f5.new ht) upd_same
        | none =>
          cases c with
          | true =>
            walk_at "rd"
            intro t ht
            exact k _ _ t (hM5.same ((Same.refl _).new ht)) (f5.new ht) upd_same
          | false =>
            walk_at "rd"
            intro t ht
            exact k _ _ t (hM5.same ((Same.refl _).new ht)) (f5.new ht) upd_same
    | @level es st n y z rs h =>
      have hM2 := hM1.setS es
      have f2 := f1.trans (MFr.set (o := .lst (rv V.str es)) (.inr (.inl rfl)))
      have h0 := hM1.hs
      have e0 := rv_pop (f := V.str) (x := "level") (l := es)
      rw [← rv_drop (f := V.str) (x := "level") (l := es)] at hM2 f2
      obtain ⟨q, r, rfl, hq, hp⟩ := MAt.top (y := y :: z :: rs) (stk := absS st) hM2
      have e1 := rv_at (f := V.ref) (x := q) (l := r)
      have e2 := rv_pop (f := oV) (x := y) (l := (z :: rs))
      walk_at "rd"
      generalize upd H1 so (.lst (rv V.str ("level" :: es)).dropLast) = H2 at hM2 f2 hq hp ⊢
      intro n2 g2
      have hM3 := hM2.same ((Same.refl _).new (o := .lst [.str "base", .str "level"]) g2)
      have f3 := f2.new (o := .lst [.str "base", .str "level"]) g2
      have hq3 := upd_old (o := .lst [.str "base", .str "level"]) hq g2
      have hp3 := upd_old (o := .lst [.str "base", .str "level"]) hp g2
      walk_at "rd"
      generalize upd H2 n2 (.lst [.str "base", .str "level"]) = H3 at hM3 f3 hq3 hp3 ⊢
      have hM4 := hM3.setQ (y' := (z :: rs))
      have f4 := f3.trans (MFr.set (o := .lst (rv oV (z :: rs))) (.inr (.inr List.mem_cons_self)))
      rw [← rv_drop (f := oV) (x := y) (l := (z :: rs))] at hM4 f4
      have hp4 := hM4.hp
      walk_at "rd"
      generalize upd H3 q (.lst (rv oV (y :: z :: rs)).dropLast) = H4 at hM4 f4 hp4 ⊢
      cases err with
      | some z =>
        walk_at "rd"
        intro t ht
        exact k _ _ t (hM4.same ((Same.refl _).new ht)) (f4.new ht) upd_same
      | none =>
        cases y with
        | some z =>
          walk_at "rd"
          intro t ht
          exact k _ _ t (hM4.same ((Same.refl _).new ht)) (f4.new ht) upd_same
        | none =>
          walk_at "rd"
          intro t ht
          exact k _ _ t (hM4.same ((Same.refl _).new ht)) (f4.new ht) upd_same
    | @joined es st n y rs h =>
      have hM2 := hM1.setS es
      have f2 := f1.trans (MFr.set (o := .lst (rv V.str es)) (.inr (.inl rfl)))
      have h0 := hM1.hs
      have e0 := rv_pop (f := V.str) (x := "joined") (l := es)
      rw [← rv_drop (f := V.str) (x := "joined") (l := es)] at hM2 f2
      obtain ⟨q, r, rfl, hq, hp⟩ := MAt.top (y := y :: rs) (stk := absS st) hM2
      have e1 := rv_at (f := V.ref) (x := q) (l := r)
      have e2 := rv_at (f := oV) (x := y) (l := rs)
      have e3 := rv_ix (f := oV) (x := y) (l := rs)
      walk_at "rd"
      generalize upd H1 so (.lst (rv V.str ("joined" :: es)).dropLast) = H2 at hM2 f2 hq hp ⊢
      cases err with
      | none =>
        walk_at "rd"
        intro n2 g2
        walk_at "rd"
        intro t ht
        exact k _ _ t (hM2.same (((Same.refl _).new g2).new ht)) ((f2.new g2).new ht) upd_same
      | some z =>
        cases y with
        | some y =>
          walk_at "rd"
          intro n2 g2
          walk_at "rd"
          intro t ht
          exact k _ _ t (hM2.same (((Same.refl _).new g2).new ht)) ((f2.new g2).new ht) upd_same
        | none =>
          have hM3 := hM2.setQ (y' := some z :: rs)
          have f3 := f2.trans (MFr.set (o := .lst (rv oV (some z :: rs))) (.inr (.inr List.mem_cons_self)))
          rw [← rv_set (x := none)] at hM3 f3
          walk_at "rd"
          intro n2 g2
          walk_at "rd"
          intro t ht
          exact k _ _ t (hM3.same (((Same.refl _).new g2).new ht)) ((f3.new g2).new ht) upd_same
/-! ### one deed -/
inductive EnterK (D : Db) (m : Str) : Prop
  | err (z : Str) (h1 : sortM m (topR D.stack) = z) (h2 : z = "missing" ∨ z = "present" ∨ z = "doomed") (h3 : nmE (enterD D m).2 = z) (h4 : (enterD D m).1 = D)
  | same (z : Str) (h1 : sortM m (topR D.stack) = z) (h2 : z = "plain" ∨ z = "joined") (h3 : enterD D m = (plainD D z, none)) (h4 : Wf (z :: D.entered) D.stack)
  | level (k : Int) (rs : List (Option Str)) (st : List (Option Tx)) (h1 : sortM m (topR D.stack) = "level") (h2 : D.stack = some ⟨k, none :: rs⟩ :: st) (h3 : enterD D m = (plainD { D with stack := some ⟨k, none :: none :: rs⟩ :: st } "level", none))
  | base (h1 : sortM m (topR D.stack) = "base") (h3 : enterD D m = (beginD D, none))
  | outside (x : Tx) (st : List (Option Tx)) (h1 : sortM m (topR D.stack) = "outside") (h2 : D.stack = some x :: st) (h3 : enterD D m = (plainD { D with stack := none :: D.stack } "outside", none))
theorem sortM_cons (m : Str) (y : Option Str) (rs : List (Option Str)) : sortM m (y :: rs) = (if inV (.str m) [.str "never", .str "alone"] = true then ("present" : Str) else if decide (V.str m = V.str "inner") = true then (match y with | none => ("level" : Str) | some _ => ("doomed" : Str)) else
    if decide (V.str m = V.str "apart") = true then ("base" : Str) else if decide (V.str m = V.str "outside") = true then ("outside" : Str) else ("joined" : Str)) := rfl
theorem Gd.kind {D : Db} {n : Nat} (g : Gd D n) (m : Str) : EnterK D m := by
  obtain ⟨rows, stack, entered, floor, opened⟩ := D
  obtain ⟨g1, g2, g3, g4, g5⟩ := g
  dsimp only at g1 g2 g3 g4 g5
  have ne := g3.ne
  obtain ⟨l1, l2⟩ := g3.len
  cases stack with
  | nil => exact absurd rfl ne
  | cons x st =>
    cases x with
    | none =>
      have e1 : ∀ D : Db, D.stack = none :: st → enterD D m = aloneD D m := fun D h => by unfold enterD; rw [h]
      by_cases b1 : decide (V.str m = V.str "must") = true
      · refine .err "missing" ?_ (.inl rfl) ?_ ?_
        · show (if _ then _ else _) = _
          rw [if_pos b1]
        · rw [e1 _ rfl]; unfold aloneD; rw [if_pos b1]; rfl
        · rw [e1 _ rfl]; unfold aloneD; rw [if_pos b1]
      by_cases b2 : inV (V.str m) [.str "either", .str "never", .str "outside"] = true
      · refine .same "plain" ?_ (.inl rfl) ?_ (.plain g3)
        · show (if _ then _ else if _ then _ else _) = _
          rw [if_neg b1, if_pos b2]
        · rw [e1 _ rfl]; unfold aloneD; rw [if_neg b1, if_pos b2]
      · refine .base ?_ ?_
        · show (if _ then _ else if _ then _ else _) = _
          rw [if_neg b1, if_neg b2]
        · rw [e1 _ rfl]; unfold aloneD; rw [if_neg b1, if_neg b2]
    | some x =>
      obtain ⟨k, rs⟩ := x
      cases rs with
      | nil => exact absurd rfl (l2 _ List.mem_cons_self).2
      | cons y rs =>
        have e1 : ∀ D : Db, D.stack = some ⟨k, y :: rs⟩ :: st → enterD D m = lvlD D m k y rs st := fun D h => by unfold enterD; rw [h]
        have e2 : sortM m (topR (some ⟨k, y :: rs⟩ :: st)) = _ := sortM_cons m y rs
        by_cases b1 : inV (V.str m) [.str "never", .str "alone"] = true
        · refine .err "present" ?_ (.inr (.inl rfl)) ?_ ?_
          · rw [e2, if_pos b1]
          · rw [e1 _ rfl]; unfold lvlD; rw [if_pos b1]; rfl
          · rw [e1 _ rfl]; unfold lvlD; rw [if_pos b1]
        by_cases b2 : decide (V.str m = V.str "inner") = true
        · cases y with
          | some z =>
            refine .err "doomed" ?_ (.inr (.inr rfl)) ?_ ?_
            · rw [e2, if_neg b1, if_pos b2]
            · rw [e1 _ rfl]; unfold lvlD; rw [if_neg b1, if_pos b2]; rfl
            · rw [e1 _ rfl]; unfold lvlD; rw [if_neg b1, if_pos b2]
          | none =>
            refine .level k rs st ?_ rfl ?_
            · rw [e2, if_neg b1, if_pos b2]
            · rw [e1 _ rfl]; unfold lvlD; rw [if_neg b1, if_pos b2]
        by_cases b3 : decide (V.str m = V.str "apart") = true
        · refine .base ?_ ?_
          · rw [e2, if_neg b1, if_neg b2, if_pos b3]
          · rw [e1 _ rfl]; unfold lvlD; rw [if_neg b1, if_neg b2, if_pos b3]
        by_cases b4 : decide (V.str m = V.str "outside") = true
        · refine .outside _ st ?_ rfl ?_
          · rw [e2, if_neg b1, if_neg b2, if_neg b3, if_pos b4]
          · rw [e1 _ rfl]; unfold lvlD; rw [if_neg b1, if_neg b2, if_neg b3, if_pos b4]
        · refine .same "joined" ?_ (.inr rfl) ?_ (.joined g3)
          · rw [e2, if_neg b1, if_neg b2, if_neg b3, if_neg b4]
          · rw [e1 _ rfl]; unfold lvlD; rw [if_neg b1, if_neg b2, if_neg b3, if_neg b4]
theorem Gd.enters {D : Db} {n : Nat} (g : Gd D n) (m : Str) : Gd (enterD D m).1 (n + 1) := by
  cases g.kind m with
  | err z h1 h2 h3 h4 =>
    rw [h4]
    exact ⟨g.rows, g.floor, g.wf, Nat.le_succ_of_le g.e, g.w⟩
  | same z h1 h2 h3 h4 =>
    rw [h3]
    exact ⟨g.rows, g.floor, h4, Nat.succ_le_succ g.e, g.w⟩
  | level k rs st h1 h2 h3 =>
    rw [h3]
    have wf := g.wf
    have w := g.w
    rw [h2] at wf w
    refine ⟨g.rows, g.floor, .level wf, Nat.succ_le_succ g.e, fun x hx z hz => ?_⟩
    rcases List.mem_cons.mp hx with e | e
    · cases e
      rcases List.mem_cons.mp hz with e | e
      · cases e
      · exact w _ List.mem_cons_self z e
    · exact w x (List.mem_cons_of_mem _ e) z hz
  | base h1 h3 =>
    rw [h3]
    refine ⟨g.rows, g.floor, .base g.wf, Nat.succ_le_succ g.e, fun x hx z hz => ?_⟩
    rcases List.mem_cons.mp hx with e | e
    · cases e
      simp at hz
    · exact g.w x e z hz
  | outside x st h1 h2 h3 =>
    rw [h3]
    have wf := g.wf
    rw [h2] at wf
    refine ⟨g.rows, g.floor, ?_, Nat.succ_le_succ g.e, fun y hy z hz => ?_⟩
    · show Wf _ (none :: D.stack)
      rw [h2]
      exact .outside wf
    · rcases List.mem_cons.mp hy with e | e
      · cases e
      · exact g.w y e z hz
theorem Gd.leaves {D : Db} {n : Nat} (g : Gd D n) {err : Option Str} (c : Bool) (he : ∀ z, err = some z → IsWord z) : Gd (leaveD D err c).1 n := by
  obtain ⟨rows, stack, entered, floor, opened⟩ := D
  obtain ⟨g1, g2, g3, g4, g5⟩ := g
  dsimp only at g1 g2 g3 g4 g5
  have gm : ∀ (es : List Str) (st : List (Option Tx)), Wf es st → es.length ≤ n → (∀ x, some x ∈ st → ∀ z, some z ∈ x.rs → IsWord z) → Gd ⟨rows, st, es, floor, opened⟩ n := fun es st a b c => ⟨g1, g2, a, b, c⟩
  cases g3 with
  | nil => exact gm _ _ .nil g4 g5
  | @plain es st h => exact gm _ _ h (Nat.le_of_succ_le g4) g5
  | @base es st k y h => exact gm _ _ h (Nat.le_of_succ_le g4) fun x hx => g5 x (List.mem_cons_of_mem _ hx)
  | @level es st k y z rs h =>
    refine gm _ _ h (Nat.le_of_succ_le g4) fun x hx => ?_
    rcases List.mem_cons.mp hx with e | e
    · cases e
      exact fun u hu => g5 _ List.mem_cons_self u (List.mem_cons_of_mem _ hu)
    · exact g5 x (List.mem_cons_of_mem _ e)
  | @joined es st k y rs h =>
    have g0 := gm es _ h (Nat.le_of_succ_le g4) g5
    cases err with
    | none => exact g0
    | some z => exact (g0.doom (he z rfl)).1
  | @outside es st x h =>
    exact gm _ _ h (Nat.le_of_succ_le g4) fun y hy => g5 y (List.mem_cons_of_mem _ hy)
theorem DbAt.mutTup {aD aT aW : Addr} {H : Hp} {L : Lay} {D : Db} {b : Addr} {xs : List V} (h : DbAt aD aT aW H L D) (e : H b = some (.tup xs)) : ¬ Mut L b := fun m => by
  rcases m with rfl | rfl | rfl | rfl | ⟨t, m, rfl⟩ | ⟨w, m, rfl⟩
  · rw [h.db] at e; cases e
  · rw [h.r] at e; cases e
  · rw [h.s] at e; cases e
  · rw [h.e] at e; cases e
  · obtain ⟨x, _, h2, _⟩ := h.tx m
    rw [h2] at e; cases e
  · obtain ⟨x, h1⟩ := h.row m
    rw [h1] at e; cases e
def dueD : Option EK → PyData
  | none => .tuple [.str "", .none]
  | some (.doomed z) => .tuple [.str "doomed", .str z]
  | some .refused => .tuple [.str "refused", .none]
  | some .noblock => .tuple [.str "noblock", .none]
  | some (.missing _) => .tuple [.str "missing", .none]
  | some (.present _) => .tuple [.str "present", .none]
theorem dp_due {K : PySem.W.Frag} {H : Hp} {t : Addr} {e : Option EK} (h : H t = some (.tup (dueV e))) : Dp K H (.ref t) (dueD e) := by
  cases e with
  | none => exact .tup (SqT.of h) (.cons (.str _) (.cons .non .nil))
  | some e => cases e <;> first | exact .tup (SqT.of h) (.cons (.str _) (.cons .non .nil)) | exact .tup (SqT.of h) (.cons (.str _) (.cons (.str _) .nil))
theorem due_eq {e : Option EK} (h : ∀ z, e = some (.doomed z) → IsWord z) : SeqAt.shaped (dueD e) = true ∧ PyData.eqv (dueD e) (dueD e) = true := by
  have h1 : SeqAt.shaped (dueD e) = true := by
    cases e with
    | none => decide +kernel
    | some e =>
      cases e with
      | doomed z =>
        show ((PyData.strOk "doomed" && (PyData.strOk z && true)) && decide (max 0 (max 0 0) + 1 ≤ 64)) = true
        have e0 : PyData.strOk "doomed" = true := by decide +kernel
        rw [asc_ok (h z rfl).asc, e0]; rfl
      | refused => decide +kernel
      | noblock => decide +kernel
      | missing z => exact (by decide +kernel : SeqAt.shaped (.tuple [.str "missing", .none]) = true)
      | present z => exact (by decide +kernel : SeqAt.shaped (.tuple [.str "present", .none]) = true)
  exact ⟨h1, SeqAt.eqv_refl _ (SeqAt.canLay_of_shaped h1)⟩
theorem Gd.leaveW {D : Db} {n : Nat} (g : Gd D n) (err : Option Str) (c : Bool) : ∀ z, (leaveD D err c).2 = some (.doomed z) → IsWord z := by
  have he : ∀ {err y c z}, endE err y c = some (.doomed z) → y = some z := fun {err y c z} h => by
    unfold endE at h
    split at h <;> first | (cases h; rfl) | cases h
  intro z hz
  obtain ⟨rows, stack, entered, floor, opened⟩ := D
  obtain ⟨g1, g2, g3, g4, g5⟩ := g
  dsimp only at g1 g2 g3 g4 g5
  cases g3 with
  | nil => cases hz
  | @plain es st h => cases hz
  | @base es st k y h =>
    have := he (show endE err y c = some (.doomed z) from hz)
    subst this
    exact g5 _ List.mem_cons_self z List.mem_cons_self
  | @level es st k y z' rs h =>
    have := he (show endE err y true = some (.doomed z) from hz)
    subst this
    exact g5 _ List.mem_cons_self z List.mem_cons_self
  | @joined es st k y rs h => cases hz
  | @outside es st x h => cases hz
theorem bl_doom' (T : Txt K mg a d) : ∃ ds, Vals [V.str "doom"] ds ∧ L2.Binds K d.Database_doom ["self", "first"] ds :=
  T.Database_doom.binds1 (ps := ["self", "first"]) 1 0 (by simp) rfl fun T kV doc pm an cdv ct us its hu hi => match us, hu, its, hi with | [_], _, [_], _ => ⟨_, rfl, rfl⟩
theorem mode_at {r : Int} (h0 : 0 ≤ r) (h1 : r < 8) : ∃ z : Str, atI modesV r = some (.str z) ∧ z ∈ modesS := by
  have hr : r = 0 ∨ r = 1 ∨ r = 2 ∨ r = 3 ∨ r = 4 ∨ r = 5 ∨ r = 6 ∨ r = 7 := by omega
  rcases hr with rfl | rfl | rfl | rfl | rfl | rfl | rfl | rfl
  all_goals exact ⟨_, rfl, by simp⟩
def spStep (a : Ad) : Sp := fun vs H Q _ => ∃ H0 pp x p so L D qs c n, vs = [.ref pp, .ref x, .ref p, .ref so] ∧ KI a H0 pp x p so H L D qs (absS D.stack) D.entered c ∧ Gd D n ∧ n ≤ 800 ∧ c < 2 ^ 30 ∧
  ∀ H' L' D' qs', KI a H0 pp x p so H' L' D' qs' (absS D'.stack) D'.entered (c + 20) → Gd D' (n + 1) → Q (.bl true) H'
theorem shows_end {H0 H : Hp} {pp x p so : Addr} {L : Lay} {D : Db} {qs : List Addr} {c n : Nat} {Q : VK} {E : XK} (I : KI a H0 pp x p so H L D qs (absS D.stack) D.entered c) (g : Gd D n) (hn : n ≤ 900) (k : ∀ H', Same H H' → Q (.bl true) H') :
    spShows a [.ref x, .ref p, .int ((rv V.str D.entered).length : Int)] H Q E := by
  obtain ⟨stk, e, _⟩ := g.abs hn
  have st := I.stkAt
  rw [e] at st
  exact ⟨_, L, D, p, stk, by rw [I.ed, rv_len], I.dat, g.sm hn, st, g.good hn, k⟩
theorem Gd.up {D : Db} {n m : Nat} (g : Gd D n) (h : n ≤ m) : Gd D m := ⟨g.rows, g.floor, g.wf, Nat.le_trans g.e h, g.w⟩
theorem ok_law_step (T : Txt K mg a d) : FnG P w K mg base CX0 8 a.law_step d.law_step ["_law_pool_here", "_law_db", "_law_stack", "_law_sorts"] (spStep a) := by
  have G_law_draw : FnOk P w K mg base CX0 1 a.law_draw d.law_draw ["_law_pool_here", "_law_many"] spDraw := ok_law_draw T
  have G_law_word : FnOk P w K mg base CX0 2 a.law_word d.law_word ["_law_pool_here"] spWord := ok_law_word T
  have G_law_sort : FnOk P w K mg base CX0 1 a.law_sort d.law_sort ["_law_stack", "_law_mode"] spSort := ok_law_sort T
  have G_law_enter : FnOk P w K mg base CX0 6 a.law_enter d.law_enter ["_law_db", "_law_mode"] (spLEnt a) := ok_law_enter T
  have G_law_leave : FnOk P w K mg base CX0 4 a.law_leave d.law_leave ["_law_db", "_law_error", "_law_goes"] (spLLeave a) := ok_law_leave T
  have G_law_left : FnOk P w K mg base CX0 1 a.law_left d.law_left ["_law_stack", "_law_sorts", "_law_error", "_law_goes"] spLeft := ok_law_left T
  have G_Database_doom : FnOk P w K mg base (L2.CX P w) 2 a.Database_doom d.Database_doom ["self", "first"] (spDoom a) := ok_Database_doom T
  have G_law_shows : FnG P w K mg base CX0 3 a.law_shows d.law_shows ["_law_db", "_law_stack", "_law_depth"] (spShows a) := ok_law_shows T
  obtain ⟨ds_doom, vl_doom, bl_doom⟩ := bl_doom' T
  refine okG T.law_step sc_law_step (fun vs H Q E h => ?_) (fun cdv A outer s H vs Q E hr hgd h => ?_)
  · obtain ⟨H0, pp, x, p, so, L, D, qs, c, n, rfl, _⟩ := h
    rfl
  · obtain ⟨H0, pp, x, p, so, L, D, qs, c, n, rfl, I0, g, hn, hc, k⟩ := h
    refine ⟨_, (pss_cons (ps_set (i := 4) sc_law_step.nd rfl (Or.inl rfl) (pe_lst (pa_cons pe_str (pa_cons pe_str (pa_cons pe_str (pa_cons pe_str (pa_cons pe_str (pa_cons pe_str (pa_cons pe_str (pa_cons pe_str pa_nil))))))))))
  (pss_cons (ps_set (i := 5) sc_law_step.nd rfl (Or.inl rfl) (pe_call G_law_draw (hr.mono (by decide)) (by rfl) T.g_law_draw T.law_draw.kp T.b_law_draw .nil pass0 (pa_cons (pv 0) (pa_cons pe_int pa_nil))))
  (pss_cons (ps_if (pt_cmpR op_lt (pv 5) pe_int (nomark _)) (pss_cons (ps_set (i := 6) sc_law_step.nd rfl (Or.inl rfl) (pe_ix ix_list (pv 4) (pe_call G_law_draw (hr.mono (by decide)) (by rfl) T.g_law_draw T.law_draw.kp T.b_law_draw .nil pass0 (pa_cons (pv 0) (pa_cons pe_int pa_nil))) (fun _ _ => rfl)))
  (pss_cons (ps_set (i := 7) sc_law_step.nd rfl (Or.inl rfl) (pe_call G_law_sort (hr.mono (by decide)) (by rfl) T.g_law_sort T.law_sort.kp T.b_law_sort .nil pass0 (pa_cons (pv 2) (pa_cons (pv 6) pa_nil))))
  (pss_cons (ps_set (i := 8) sc_law_step.nd rfl (Or.inl rfl) (pe_cmpR op_in_seq (pv 7) (pe_lst (pa_cons pe_str (pa_cons pe_str (pa_cons pe_str pa_nil)))) (by rfl)))
  (pss_cons (ps_if (pt_cmpR op_ne (pe_call G_law_enter (hr.mono (by decide)) (by rfl) T.g_law_enter T.law_enter.kp T.b_law_enter .nil pass0 (pa_cons (pv 1) (pa_cons (pv 6) pa_nil))) (pe_ifExp (pt_val (pv 8)) (pv 7) pe_str) (nomark _)) (pss_one (ps_ret pe_bl)) pss_nil)
  (pss_cons (ps_if (pt_not (pt_val (pv 8))) (pss_one (ps_expr (pe_bm PySem.F.plainAttrs_list PySem.F.slot_list_append PySem.F.type_list_append mt_append (pv 3) (pa_cons (pv 7) pa_nil)))) pss_nil)
  (pss_cons (ps_if (pt_cmpR op_eq (pv 7) pe_str (nomark _)) (pss_one (ps_expr (pe_bm PySem.F.plainAttrs_list PySem.F.slot_list_append PySem.F.type_list_append mt_append (pe_ix ix_list (pv 2) (pe_un un_neg pe_int) (fun _ _ => rfl)) (pa_cons pe_non pa_nil)))) pss_nil)
  (pss_one (ps_if (pt_cmpR op_in_seq (pv 7) (pe_lst (pa_cons pe_str (pa_cons pe_str pa_nil))) (by rfl)) (pss_one (ps_expr (pe_bm PySem.F.plainAttrs_list PySem.F.slot_list_append PySem.F.type_list_append mt_append (pv 2) (pa_cons (pe_ifExp (pt_cmpR op_eq (pv 7) pe_str (nomark _)) (pe_lst (pa_cons pe_non pa_nil)) (pe_lst pa_nil)) pa_nil)))) pss_nil)))))))) (pss_one (ps_if (pt_cmpR op_lt (pv 5) pe_int (nomark _)) (pss_cons (ps_set (i := 9) sc_law_step.nd rfl (Or.inl rfl) (pe_ifExp (pt_cmpR op_eq (pe_call G_law_draw (hr.mono (by decide)) (by rfl) T.g_law_draw T.law_draw.kp T.b_law_draw .nil pass0 (pa_cons (pv 0) (pa_cons pe_int pa_nil))) pe_int (nomark _)) (pe_call G_law_word (hr.mono (by decide)) (by rfl) T.g_law_word T.law_word.kp T.b_law_word .nil pass0 (pa_cons (pv 0) pa_nil)) pe_non))
  (pss_cons (ps_set (i := 10) sc_law_step.nd rfl (Or.inl rfl) (pe_cmpR op_gt (pe_call G_law_draw (hr.mono (by decide)) (by rfl) T.g_law_draw T.law_draw.kp T.b_law_draw .nil pass0 (pa_cons (pv 0) (pa_cons pe_int pa_nil))) pe_int (nomark _)))
  (pss_cons (ps_set (i := 11) sc_law_step.nd rfl (Or.inl rfl) (pe_call G_law_left (hr.mono (by decide)) (by rfl) T.g_law_left T.law_left.kp T.b_law_left .nil pass0 (pa_cons (pv 2) (pa_cons (pv 3) (pa_cons (pv 9) (pa_cons (pv 10) pa_nil))))))
  (pss_one (ps_if (pt_cmpR (op_neD hr.units) (pe_call G_law_leave (hr.mono (by decide)) (by rfl) T.g_law_leave T.law_leave.kp T.b_law_leave .nil pass0 (pa_cons (pv 1) (pa_cons (pv 9) (pa_cons (pv 10) pa_nil)))) (pv 11) (nomark _)) (pss_one (ps_ret pe_bl)) pss_nil))))) (pss_cons (ps_set (i := 12) sc_law_step.nd rfl (Or.inl rfl) (pe_call G_law_word (hr.mono (by decide)) (by rfl) T.g_law_word T.law_word.kp T.b_law_word .nil pass0 (pa_cons (pv 0) pa_nil)))
  (pss_cons (ps_if (pt_cmpR op_eq (pe_call G_law_draw (hr.mono (by decide)) (by rfl) T.g_law_draw T.law_draw.kp T.b_law_draw .nil pass0 (pa_cons (pv 0) (pa_cons pe_int pa_nil))) pe_int (nomark _)) (pss_cons (ps_set (i := 12) sc_law_step.nd rfl (Or.inl rfl) pe_str)
  (pss_one (ps_expr (pe_meth0 (pv 1) T.k_Database T.m_Database_doom G_Database_doom (hr.mono (by decide)) bl_doom vl_doom passL)))) (pss_one (ps_expr (pe_meth (pv 1) T.k_Database T.m_Database_doom G_Database_doom (hr.mono (by decide)) (bd_doom T) .nil passL (pa_cons (pv 12) pa_nil)))))
  (pss_one (ps_if (PW.pt (pw_and (pt_cmpR (op_neD hr.units) (pe_ix ix_list (pv 2) (pe_un un_neg pe_int) (fun _ _ => rfl)) (pe_lst pa_nil) (nomark _)) (pw_and1 (pt_cmpR op_isN (pe_ix ix_list (pe_ix ix_list (pv 2) (pe_un un_neg pe_int) (fun _ _ => rfl)) (pe_un un_neg pe_int) (fun _ _ => rfl)) pe_non (nomark _))))) (pss_one (ps_asg (pv 12) (pg_sub (pe_ix ix_list (pv 2) (pe_un un_neg pe_int) (fun _ _ => rfl)) (pe_un un_neg pe_int) set_list))) pss_nil)))))))
  (pss_one (ps_ret (pe_callG G_law_shows (hr.mono (by decide)) hgd (by rfl) T.g_law_shows T.law_shows.kp T.b_law_shows .nil pass0 (pa_cons (pv 1) (pa_cons (pv 2) (pa_cons (pe_callB call_len_seq (by rfl) T.n_len PySem.boot_len (pa_cons (pv 3) pa_nil)) pa_nil))))))))), ?_⟩
    dsimp only [cxOf]
    walk_at "rd"
    intro ml hml
    have I1 := I0.keep ((Same.refl H).new (o := .lst modesV) hml)
    have hml1 := upd_same (H := H) (a := ml) (o := .lst modesV)
    have hmp : ml ≠ pp := fun z => by
      obtain ⟨o, h1, _⟩ := I0.pool
      rw [z, h1] at hml; cases hml
    generalize upd H ml (.lst modesV) = H1 at I1 hml1 ⊢
    obtain ⟨o1, hp1, ho1⟩ := I1.pool
    walk_at "rd"
    intro r o2 r0 r1 h2
    have I2 := I1.draw (o' := o2) Kp.refl.set1 upd_same h2
    have hml2 := upd_oth (o := o2) hmp hml1
    have hp2 := upd_same (H := H1) (a := pp) (o := o2)
    generalize upd H1 pp o2 = H2 at I2 hml2 hp2 ⊢
    walk_at "rd"
    refine ite2 (fun c0 => ?_) (fun c0 => ?_)
    · -- a block is entered
      walk_at "rd"
      intro r3 o3 r30 r31 h3
      have I3 := I2.draw (o' := o3) Kp.refl.set1 upd_same h3
      have hml3 := upd_oth (o := o3) hmp hml2
      generalize upd H2 pp o3 = H3 at I3 hml3 ⊢
      obtain ⟨m, hm1, hm2⟩ := mode_at r30 r31
      obtain ⟨stk, eabs, hl⟩ := g.abs (by omega)
      have st3 := I3.stkAt
      rw [eabs] at st3
      have gg := g.good (by omega)
      walk_at "rd"
      intro H4 s4
      have I4 := I3.keep s4
      clear hml3 hml2 hml1
      have g6 := g.enters m
      cases g.kind m with
      | err z h1 h2 h3 h4 =>
        have go : ∀ z : Str, (z = "missing" ∨ z = "present" ∨ z = "doomed") → True := fun _ _ => trivial
        rw [h1]
        rw [h4] at g6
        rcases h2 with rfl | rfl | rfl
        all_goals
          walk_at "rd"
          intro n1 g1
          have I5 := I4.keep ((Same.refl H4).new (o := .lst [.str "missing", .str "present", .str "doomed"]) g1)
          have hn1 := upd_same (H := H4) (a := n1) (o := .lst [.str "missing", .str "present", .str "doomed"])
          generalize upd H4 n1 (.lst [.str "missing", .str "present", .str "doomed"]) = H5 at I5 hn1 ⊢
          have hx5 := I5.dat.db
          rw [I5.ed] at hx5
          walk_at "rd"
          refine ⟨L, D, m, by rw [I5.ed]; rfl, hm2, I5.dat, g.sm (by omega), (by rw [h4]; exact g6.sm (by omega)), fun H6 L6 hD6 f6 => ?_⟩
          have I6 := I5.db hD6 f6
          rw [h4] at I6
          rw [h3]
          walk_at "rd"
          intro n2 g2
          have IX := I6.keep ((Same.refl H6).new (o := .lst [.str "base", .str "outside"]) g2)
          have hsX := IX.mat.hs
          have hn2 := upd_same (H := H6) (a := n2) (o := .lst [.str "base", .str "outside"])
          generalize upd H6 n2 (.lst [.str "base", .str "outside"]) = HX at IX hsX hn2 ⊢
          walk_at "rd"
          exact shows_end (E := E0) IX g6 (by omega) fun H' s' => k H' _ _ _ ((IX.keep s').up (by omega)) g6
      | same z h1 h2 h3 h4 =>
        rw [h1]
        rw [h3] at g6
        rcases h2 with rfl | rfl
        · walk_at "rd"
          intro n1 g1
          have I5 := I4.keep ((Same.refl H4).new (o := .lst [.str "missing", .str "present", .str "doomed"]) g1)
          have hn1 := upd_same (H := H4) (a := n1) (o := .lst [.str "missing", .str "present", .str "doomed"])
          generalize upd H4 n1 (.lst [.str "missing", .str "present", .str "doomed"]) = H5 at I5 hn1 ⊢
          have hx5 := I5.dat.db
          rw [I5.ed] at hx5
          walk_at "rd"
          refine ⟨L, D, m, by rw [I5.ed]; rfl, hm2, I5.dat, g.sm (by omega), (by rw [h3]; exact g6.sm (by omega)), fun H6 L6 hD6 f6 => ?_⟩
          have I6 := I5.db hD6 f6
          rw [h3] at I6
          rw [h3]
          have hs6 := I6.mat.hs
          have l6 : (rv V.str D.entered).length < sizeLine := es_len (g.sm (by omega))
          walk_at "rd"
          have I7 := I6.mdl (I6.mat.setS ("plain" :: D.entered)) (MFr.set (.inr (.inl rfl)))
          rw [show rv V.str ("plain" :: D.entered) = rv V.str D.entered ++ [V.str "plain"] from rv_cons] at I7
          generalize upd H6 so (.lst (rv V.str D.entered ++ [V.str "plain"])) = H7 at I7 ⊢
          intro n2 g2
          have IX := I7.keep ((Same.refl H7).new (o := .lst [.str "base", .str "outside"]) g2)
          have hsX := IX.mat.hs
          have hn2 := upd_same (H := H7) (a := n2) (o := .lst [.str "base", .str "outside"])
          generalize upd H7 n2 (.lst [.str "base", .str "outside"]) = HX at IX hsX hn2 ⊢
          walk_at "rd"
          exact shows_end (E := E0) IX g6 (by omega) fun H' s' => k H' _ _ _ ((IX.keep s').up (by omega)) g6
        · walk_at "rd"
          intro n1 g1
          have I5 := I4.keep ((Same.refl H4).new (o := .lst [.str "missing", .str "present", .str "doomed"]) g1)
          have hn1 := upd_same (H := H4) (a := n1) (o := .lst [.str "missing", .str "present", .str "doomed"])
          generalize upd H4 n1 (.lst [.str "missing", .str "present", .str "doomed"]) = H5 at I5 hn1 ⊢
          have hx5 := I5.dat.db
          rw [I5.ed] at hx5
          walk_at "rd"
          refine ⟨L, D, m, by rw [I5.ed]; rfl, hm2, I5.dat, g.sm (by omega), (by rw [h3]; exact g6.sm (by omega)), fun H6 L6 hD6 f6 => ?_⟩
          have I6 := I5.db hD6 f6
          rw [h3] at I6
          rw [h3]
          have hs6 := I6.mat.hs
          have l6 : (rv V.str D.entered).length < sizeLine := es_len (g.sm (by omega))
          walk_at "rd"
          have I7 := I6.mdl (I6.mat.setS ("joined" :: D.entered)) (MFr.set (.inr (.inl rfl)))
          rw [show rv V.str ("joined" :: D.entered) = rv V.str D.entered ++ [V.str "joined"] from rv_cons] at I7
          generalize upd H6 so (.lst (rv V.str D.entered ++ [V.str "joined"])) = H7 at I7 ⊢
          intro n2 g2
          have IX := I7.keep ((Same.refl H7).new (o := .lst [.str "base", .str "outside"]) g2)
          have hsX := IX.mat.hs
          have hn2 := upd_same (H := H7) (a := n2) (o := .lst [.str "base", .str "outside"])
          generalize upd H7 n2 (.lst [.str "base", .str "outside"]) = HX at IX hsX hn2 ⊢
          walk_at "rd"
          exact shows_end (E := E0) IX g6 (by omega) fun H' s' => k H' _ _ _ ((IX.keep s').up (by omega)) g6
      | level k' rs st h1 h2 h3 =>
        rw [h1]
        rw [h3] at g6
        walk_at "rd"
        intro n1 g1
        have I5 := I4.keep ((Same.refl H4).new (o := .lst [.str "missing", .str "present", .str "doomed"]) g1)
        have hn1 := upd_same (H := H4) (a := n1) (o := .lst [.str "missing", .str "present", .str "doomed"])
        generalize upd H4 n1 (.lst [.str "missing", .str "present", .str "doomed"]) = H5 at I5 hn1 ⊢
        have hx5 := I5.dat.db
        rw [I5.ed] at hx5
        walk_at "rd"
        refine ⟨L, D, m, by rw [I5.ed]; rfl, hm2, I5.dat, g.sm (by omega), (by rw [h3]; exact g6.sm (by omega)), fun H6 L6 hD6 f6 => ?_⟩
        have I6 := I5.db hD6 f6
        rw [h3] at I6
        rw [h3]
        have hs6 := I6.mat.hs
        have l6 : (rv V.str D.entered).length < sizeLine := es_len (g.sm (by omega))
        
        rw [h2] at I6
        obtain ⟨q, r, rfl, hq, hp⟩ := MAt.top (y := none :: rs) (stk := absS st) I6.mat
        have lq : (rv oV (none :: rs)).length < sizeLine := by
          have := (g.sm (by omega)).r ⟨k', none :: rs⟩ (by rw [h2]; exact List.mem_cons_self)
          rw [rv_len, sizeLine_eq]
          exact Nat.lt_of_le_of_lt this (by decide)
        have I7 := I6.mdl (I6.mat.setS ("level" :: D.entered)) (MFr.set (.inr (.inl rfl)))
        have hM8 := MAt.setQ (y := none :: rs) (stk := absS st) (y' := none :: none :: rs) I7.mat
        have I8 : KI a H0 pp x p so _ L6 (plainD { D with stack := some ⟨k', none :: none :: rs⟩ :: st } "level") (q :: r) (absS (plainD { D with stack := some ⟨k', none :: none :: rs⟩ :: st } "level").stack) (plainD { D with stack := some ⟨k', none :: none :: rs⟩ :: st } "level").entered _ := I7.mdl hM8 (MFr.set (.inr (.inr List.mem_cons_self)))
        have hq7 := MAt.top (y := none :: rs) (stk := absS st) I7.mat
        obtain ⟨q', r', e', hq7, hp7⟩ := hq7
        cases e'
        rw [show rv V.str ("level" :: D.entered) = rv V.str D.entered ++ [V.str "level"] from rv_cons] at I8 hq7 hp7
        rw [show rv oV (none :: none :: rs) = rv oV (none :: rs) ++ [V.non] from rv_cons] at I8
        have e1 := rv_at (f := V.ref) (x := q) (l := r)
        walk_at "rd"
        generalize upd (upd H6 so (.lst (rv V.str D.entered ++ [V.str "level"]))) q (.lst (rv oV (none :: rs) ++ [V.non])) = H8 at I8 ⊢
        intro n2 g2
        have IX := I8.keep ((Same.refl H8).new (o := .lst [.str "base", .str "outside"]) g2)
        have hsX := IX.mat.hs
        have hn2 := upd_same (H := H8) (a := n2) (o := .lst [.str "base", .str "outside"])
        generalize upd H8 n2 (.lst [.str "base", .str "outside"]) = HX at IX hsX hn2 ⊢
        walk_at "rd"
        exact shows_end (E := E0) IX g6 (by omega) fun H' s' => k H' _ _ _ ((IX.keep s').up (by omega)) g6
      | base h1 h3 =>
        rw [h1]
        rw [h3] at g6
        walk_at "rd"
        intro n1 g1
        have I5 := I4.keep ((Same.refl H4).new (o := .lst [.str "missing", .str "present", .str "doomed"]) g1)
        have hn1 := upd_same (H := H4) (a := n1) (o := .lst [.str "missing", .str "present", .str "doomed"])
        generalize upd H4 n1 (.lst [.str "missing", .str "present", .str "doomed"]) = H5 at I5 hn1 ⊢
        have hx5 := I5.dat.db
        rw [I5.ed] at hx5
        walk_at "rd"
        refine ⟨L, D, m, by rw [I5.ed]; rfl, hm2, I5.dat, g.sm (by omega), (by rw [h3]; exact g6.sm (by omega)), fun H6 L6 hD6 f6 => ?_⟩
        have I6 := I5.db hD6 f6
        rw [h3] at I6
        rw [h3]
        have hs6 := I6.mat.hs
        have l6 : (rv V.str D.entered).length < sizeLine := es_len (g.sm (by omega))
        
        have l7 : (rv V.ref qs).length < sizeLine := by
          rw [rv_len, I6.mat.hq.len]
          unfold absS
          rw [List.length_map, sizeLine_eq]
          exact Nat.lt_of_le_of_lt (g.sm (by omega)).s (by decide)
        have I7 := I6.mdl (I6.mat.setS ("base" :: D.entered)) (MFr.set (.inr (.inl rfl)))
        rw [show rv V.str ("base" :: D.entered) = rv V.str D.entered ++ [V.str "base"] from rv_cons] at I7
        walk_at "rd"
        generalize upd H6 so (.lst (rv V.str D.entered ++ [V.str "base"])) = H7 at I7 ⊢
        intro n2 g2
        have IX := I7.keep ((Same.refl H7).new (o := .lst [.str "base", .str "outside"]) g2)
        have hsX := IX.mat.hs
        have hn2 := upd_same (H := H7) (a := n2) (o := .lst [.str "base", .str "outside"])
        generalize upd H7 n2 (.lst [.str "base", .str "outside"]) = HX at IX hsX hn2 ⊢
        
        have hpX := IX.mat.hp
        walk_at "rd"
        intro n3 g3
        have hM9 := (IX.mat.same ((Same.refl HX).new (o := .lst (rv oV [none])) g3)).push (q := n3) (y := [none]) upd_same (fun z => by
          obtain ⟨xs, e⟩ := IX.mat.there z
          rw [g3] at e; cases e)
        have I9 : KI a H0 pp x p so _ L6 (beginD D) (n3 :: qs) (absS (beginD D).stack) (beginD D).entered _ := IX.mdl hM9 (MFr.push (.same ((Same.refl HX).new g3)) g3)
        rw [show rv V.ref (n3 :: qs) = rv V.ref qs ++ [V.ref n3] from rv_cons, show rv oV [none] = [V.non] from rfl] at I9
        have hs9 := I9.mat.hs
        walk_at "rd"
        exact shows_end (E := E0) I9 g6 (by omega) fun H' s' => k H' _ _ _ ((I9.keep s').up (by omega)) g6
      | outside x' st h1 h2 h3 =>
        rw [h1]
        rw [h3] at g6
        walk_at "rd"
        intro n1 g1
        have I5 := I4.keep ((Same.refl H4).new (o := .lst [.str "missing", .str "present", .str "doomed"]) g1)
        have hn1 := upd_same (H := H4) (a := n1) (o := .lst [.str "missing", .str "present", .str "doomed"])
        generalize upd H4 n1 (.lst [.str "missing", .str "present", .str "doomed"]) = H5 at I5 hn1 ⊢
        have hx5 := I5.dat.db
        rw [I5.ed] at hx5
        walk_at "rd"
        refine ⟨L, D, m, by rw [I5.ed]; rfl, hm2, I5.dat, g.sm (by omega), (by rw [h3]; exact g6.sm (by omega)), fun H6 L6 hD6 f6 => ?_⟩
        have I6 := I5.db hD6 f6
        rw [h3] at I6
        rw [h3]
        have hs6 := I6.mat.hs
        have l6 : (rv V.str D.entered).length < sizeLine := es_len (g.sm (by omega))
        
        have l7 : (rv V.ref qs).length < sizeLine := by
          rw [rv_len, I6.mat.hq.len]
          unfold absS
          rw [List.length_map, sizeLine_eq]
          exact Nat.lt_of_le_of_lt (g.sm (by omega)).s (by decide)
        have I7 := I6.mdl (I6.mat.setS ("outside" :: D.entered)) (MFr.set (.inr (.inl rfl)))
        rw [show rv V.str ("outside" :: D.entered) = rv V.str D.entered ++ [V.str "outside"] from rv_cons] at I7
        walk_at "rd"
        generalize upd H6 so (.lst (rv V.str D.entered ++ [V.str "outside"])) = H7 at I7 ⊢
        intro n2 g2
        have IX := I7.keep ((Same.refl H7).new (o := .lst [.str "base", .str "outside"]) g2)
        have hsX := IX.mat.hs
        have hn2 := upd_same (H := H7) (a := n2) (o := .lst [.str "base", .str "outside"])
        generalize upd H7 n2 (.lst [.str "base", .str "outside"]) = HX at IX hsX hn2 ⊢
        
        have hpX := IX.mat.hp
        walk_at "rd"
        intro n3 g3
        have hM9 := (IX.mat.same ((Same.refl HX).new (o := .lst (rv oV [])) g3)).push (q := n3) (y := []) upd_same (fun z => by
          obtain ⟨xs, e⟩ := IX.mat.there z
          rw [g3] at e; cases e)
        have I9 : KI a H0 pp x p so _ L6 (plainD { D with stack := none :: D.stack } "outside") (n3 :: qs) (absS (plainD { D with stack := none :: D.stack } "outside").stack) (plainD { D with stack := none :: D.stack } "outside").entered _ := IX.mdl hM9 (MFr.push (.same ((Same.refl HX).new g3)) g3)
        rw [show rv V.ref (n3 :: qs) = rv V.ref qs ++ [V.ref n3] from rv_cons, show rv oV [] = ([] : List V) from rfl] at I9
        have hs9 := I9.mat.hs
        walk_at "rd"
        exact shows_end (E := E0) I9 g6 (by omega) fun H' s' => k H' _ _ _ ((I9.keep s').up (by omega)) g6
    walk_at "rd"
    refine ite2 (fun c1 => ?_) (fun c1 => ?_)
    · -- a block is left
      walk_at "rd"
      intro r3 o3 r30 r31 h3
      have I3 := I2.draw (o' := o3) Kp.refl.set1 upd_same h3
      have hp3 := upd_same (H := H2) (a := pp) (o := o3)
      generalize upd H2 pp o3 = H3 at I3 hp3 ⊢
      walk_at "rd"
      refine ite2 (fun c3 => ?_) (fun c3 => ?_)
      · walk_at "rd"
        intro w4 o4 H4 hw h4 hp4 kp4
        have I4 := I3.draw kp4 hp4 h4
        walk_at "rd"
        intro r5 o5 r50 r51 h5
        have I5 := I4.draw (o' := o5) Kp.refl.set1 upd_same h5
        generalize upd H4 pp o5 = H5 at I5 ⊢
        walk_at "rd"
        refine ⟨D, (some w4), (decide (0 < r5)), rfl, I5.mat, g.wf, fun H6 qs6 t6 hM6 f6 ht6 => ?_⟩
        have I6 := I5.mdl hM6 f6
        have hx6 := I6.dat.db
        rw [I6.ed] at hx6
        walk_at "rd"
        refine ⟨L, D, (some w4), (decide (0 < r5)), by rw [I6.ed]; rfl, (fun z e => Option.some.inj e ▸ hw), I6.dat, g.sm (by omega), g.rows, g.floor, g.wf, fun H7 L7 t7 hD7 f7 ht7 => ?_⟩
        have I7 := I6.db hD7 f7
        have ht8 := f7.kp _ _ ht6 (I6.dat.mutTup ht6)
        have g7 := g.leaves (decide (0 < r5)) (fun z e => Option.some.inj e ▸ hw)
        obtain ⟨sh, eq⟩ := due_eq (g.leaveW (some w4) (decide (0 < r5)))
        have hs7 := I7.mat.hs
        walk_at "rd"
        refine ⟨dueD _, dueD _, dp_due ht7, dp_due ht8, sh, sh, ?_⟩
        rw [eq]
        walk_at "rd"
        exact shows_end (E := E0) I7 g7 (by omega) fun H' s' => k H' _ _ _ ((I7.keep s').up (by omega)) (g7.up (by omega))
      · have I4 := I3
        have hp4 := hp3
        have h4 := h3
        walk_at "rd"
        intro r5 o5 r50 r51 h5
        have I5 := I4.draw (o' := o5) Kp.refl.set1 upd_same h5
        generalize upd H3 pp o5 = H5 at I5 ⊢
        walk_at "rd"
        refine ⟨D, none, (decide (0 < r5)), rfl, I5.mat, g.wf, fun H6 qs6 t6 hM6 f6 ht6 => ?_⟩
        have I6 := I5.mdl hM6 f6
        have hx6 := I6.dat.db
        rw [I6.ed] at hx6
        walk_at "rd"
        refine ⟨L, D, none, (decide (0 < r5)), by rw [I6.ed]; rfl, (fun z e => nomatch e), I6.dat, g.sm (by omega), g.rows, g.floor, g.wf, fun H7 L7 t7 hD7 f7 ht7 => ?_⟩
        have I7 := I6.db hD7 f7
        have ht8 := f7.kp _ _ ht6 (I6.dat.mutTup ht6)
        have g7 := g.leaves (err := none) (decide (0 < r5)) (fun z e => nomatch e)
        obtain ⟨sh, eq⟩ := due_eq (g.leaveW none (decide (0 < r5)))
        have hs7 := I7.mat.hs
        walk_at "rd"
        refine ⟨dueD _, dueD _, dp_due ht7, dp_due ht8, sh, sh, ?_⟩
        rw [eq]
        walk_at "rd"
        exact shows_end (E := E0) I7 g7 (by omega) fun H' s' => k H' _ _ _ ((I7.keep s').up (by omega)) (g7.up (by omega))
    · -- the top level is doomed
      walk_at "rd"
      intro w4 o4 H4 hw h4 hp4 kp4
      have I4 := I2.draw kp4 hp4 h4
      walk_at "rd"
      intro r5 o5 r50 r51 h5
      have I5 := I4.draw (o' := o5) Kp.refl.set1 upd_same h5
      generalize upd H4 pp o5 = H5 at I5 ⊢
      have hdm : IsWord "doom" := wordS_of (by decide +kernel)
      walk_at "rd"
      refine ite2 (fun c3 => ?_) (fun c3 => ?_)
      · walk_at "rd"
        have hx5 := I5.dat.db
        rw [I5.ed] at hx5
        walk_at "rd"
        refine ⟨L, D, "doom", by rw [I5.ed]; rfl, hdm, I5.dat, fun H6 L6 hD6 f6 => ?_⟩
        have I6 := I5.db hD6 f6
        obtain ⟨gdD, _, enD⟩ := g.doom (z := "doom") hdm
        have hs6 := I6.mat.hs
        rw [← enD] at hs6 I6
        obtain ⟨stk, eabs, hl⟩ := g.abs (by omega)
        have hg := g.good (by omega)
        cases hst : D.stack with
        | nil => exact absurd hst g.wf.ne
        | cons t0 st0 =>
          cases t0 with
          | none =>
            have eD : doomD D "doom" = D := by unfold doomD; rw [hst]
            rw [eD] at I6 gdD hs6
            rw [hst] at I6
            obtain ⟨q, r, rfl, hq, hp⟩ := MAt.top (y := []) (stk := absS st0) I6.mat
            have e1 := rv_at (f := V.ref) (x := q) (l := r)
            walk_at "rd"
            intro n1 g1
            refine ⟨.list (rvD []), .list [], .lst (SqL.of (upd_old hq g1)) (dp_rv []), .lst (SqL.of upd_same) .nil, by decide +kernel, rfl, ?_⟩
            rw [eqv_rv]
            have I7 := I6.keep ((Same.refl H6).new (o := .lst []) g1)
            rw [← hst] at I7
            have hs7 := I7.mat.hs
            generalize upd H6 n1 (.lst []) = H7 at I7 hs7 ⊢
            walk_at "rd"
            exact shows_end (E := E0) I7 gdD (by omega) fun H' s' => k H' _ _ _ ((I7.keep s').up (by omega)) (gdD.up (by omega))
          | some x0 =>
            obtain ⟨k0, rs0⟩ := x0
            cases rs0 with
            | nil => exact absurd rfl (g.wf.len.2 ⟨k0, []⟩ (by rw [hst]; exact List.mem_cons_self)).2
            | cons y rs =>
              rw [hst] at I6 hg
              obtain ⟨q, r, rfl, hq, hp⟩ := MAt.top (y := y :: rs) (stk := absS st0) I6.mat
              have e1 := rv_at (f := V.ref) (x := q) (l := r)
              have e2 := rv_at (f := oV) (x := y) (l := rs)
              have e3 := rv_ix (f := oV) (x := y) (l := rs)
              walk_at "rd"
              intro n1 g1
              refine ⟨.list (rvD (y :: rs)), .list [], .lst (SqL.of (upd_old hq g1)) (dp_rv _), .lst (SqL.of upd_same) .nil, shaped_rv hg.2, rfl, ?_⟩
              rw [eqv_rv]
              have I7 := I6.keep ((Same.refl H6).new (o := .lst []) g1)
              have hs7 := I7.mat.hs
              have hq7 := upd_old (o := .lst []) hq g1
              have hp7 := upd_old (o := .lst []) hp g1
              generalize upd H6 n1 (.lst []) = H7 at I7 hs7 hq7 hp7 ⊢
              cases y with
              | some y =>
                have eD : doomD D "doom" = D := by unfold doomD; rw [hst]
                rw [eD] at I7 gdD hs7
                rw [← hst] at I7
                walk_at "rd"
                exact shows_end (E := E0) I7 gdD (by omega) fun H' s' => k H' _ _ _ ((I7.keep s').up (by omega)) (gdD.up (by omega))
              | none =>
                have eD : doomD D "doom" = { D with stack := some ⟨k0, some "doom" :: rs⟩ :: st0 } := by unfold doomD; rw [hst]
                have hM8 := MAt.setQ (y := none :: rs) (stk := absS st0) (y' := some "doom" :: rs) I7.mat
                rw [eD] at I7 gdD hs7 hM8
                have I8 : KI a H0 pp x p so _ L6 { D with stack := some ⟨k0, some "doom" :: rs⟩ :: st0 } (q :: r) (absS ({ D with stack := some ⟨k0, some "doom" :: rs⟩ :: st0 } : Db).stack) ({ D with stack := some ⟨k0, some "doom" :: rs⟩ :: st0 } : Db).entered _ := I7.mdl hM8 (MFr.set (.inr (.inr List.mem_cons_self)))
                rw [← rv_set (f := oV) (x := none), show oV (some ("doom" : Str)) = V.str "doom" from rfl] at I8
                have hs8 := I8.mat.hs
                walk_at "rd"
                exact shows_end (E := E0) I8 gdD (by omega) fun H' s' => k H' _ _ _ ((I8.keep s').up (by omega)) (gdD.up (by omega))
      · walk_at "rd"
        have hx5 := I5.dat.db
        rw [I5.ed] at hx5
        walk_at "rd"
        refine ⟨L, D, w4, by rw [I5.ed]; rfl, hw, I5.dat, fun H6 L6 hD6 f6 => ?_⟩
        have I6 := I5.db hD6 f6
        obtain ⟨gdD, _, enD⟩ := g.doom (z := w4) hw
        have hs6 := I6.mat.hs
        rw [← enD] at hs6 I6
        obtain ⟨stk, eabs, hl⟩ := g.abs (by omega)
        have hg := g.good (by omega)
        cases hst : D.stack with
        | nil => exact absurd hst g.wf.ne
        | cons t0 st0 =>
          cases t0 with
          | none =>
            have eD : doomD D w4 = D := by unfold doomD; rw [hst]
            rw [eD] at I6 gdD hs6
            rw [hst] at I6
            obtain ⟨q, r, rfl, hq, hp⟩ := MAt.top (y := []) (stk := absS st0) I6.mat
            have e1 := rv_at (f := V.ref) (x := q) (l := r)
            walk_at "rd"
            intro n1 g1
            refine ⟨.list (rvD []), .list [], .lst (SqL.of (upd_old hq g1)) (dp_rv []), .lst (SqL.of upd_same) .nil, by decide +kernel, rfl, ?_⟩
            rw [eqv_rv]
            have I7 := I6.keep ((Same.refl H6).new (o := .lst []) g1)
            rw [← hst] at I7
            have hs7 := I7.mat.hs
            generalize upd H6 n1 (.lst []) = H7 at I7 hs7 ⊢
            walk_at "rd"
            exact shows_end (E := E0) I7 gdD (by omega) fun H' s' => k H' _ _ _ ((I7.keep s').up (by omega)) (gdD.up (by omega))
          | some x0 =>
            obtain ⟨k0, rs0⟩ := x0
            cases rs0 with
            | nil => exact absurd rfl (g.wf.len.2 ⟨k0, []⟩ (by rw [hst]; exact List.mem_cons_self)).2
            | cons y rs =>
              rw [hst] at I6 hg
              obtain ⟨q, r, rfl, hq, hp⟩ := MAt.top (y := y :: rs) (stk := absS st0) I6.mat
              have e1 := rv_at (f := V.ref) (x := q) (l := r)
              have e2 := rv_at (f := oV) (x := y) (l := rs)
              have e3 := rv_ix (f := oV) (x := y) (l := rs)
              walk_at "rd"
              intro n1 g1
              refine ⟨.list (rvD (y :: rs)), .list [], .lst (SqL.of (upd_old hq g1)) (dp_rv _), .lst (SqL.of upd_same) .nil, shaped_rv hg.2, rfl, ?_⟩
              rw [eqv_rv]
              have I7 := I6.keep ((Same.refl H6).new (o := .lst []) g1)
              have hs7 := I7.mat.hs
              have hq7 := upd_old (o := .lst []) hq g1
              have hp7 := upd_old (o := .lst []) hp g1
              generalize upd H6 n1 (.lst []) = H7 at I7 hs7 hq7 hp7 ⊢
              cases y with
              | some y =>
                have eD : doomD D w4 = D := by unfold doomD; rw [hst]
                rw [eD] at I7 gdD hs7
                rw [← hst] at I7
                walk_at "rd"
                exact shows_end (E := E0) I7 gdD (by omega) fun H' s' => k H' _ _ _ ((I7.keep s').up (by omega)) (gdD.up (by omega))
              | none =>
                have eD : doomD D w4 = { D with stack := some ⟨k0, some w4 :: rs⟩ :: st0 } := by unfold doomD; rw [hst]
                have hM8 := MAt.setQ (y := none :: rs) (stk := absS st0) (y' := some w4 :: rs) I7.mat
                rw [eD] at I7 gdD hs7 hM8
                have I8 : KI a H0 pp x p so _ L6 { D with stack := some ⟨k0, some w4 :: rs⟩ :: st0 } (q :: r) (absS ({ D with stack := some ⟨k0, some w4 :: rs⟩ :: st0 } : Db).stack) ({ D with stack := some ⟨k0, some w4 :: rs⟩ :: st0 } : Db).entered _ := I7.mdl hM8 (MFr.set (.inr (.inr List.mem_cons_self)))
                rw [← rv_set (f := oV) (x := none), show oV (some w4) = V.str w4 from rfl] at I8
                have hs8 := I8.mat.hs
                walk_at "rd"
                exact shows_end (E := E0) I8 gdD (by omega) fun H' s' => k H' _ _ _ ((I8.keep s').up (by omega)) (gdD.up (by omega))
/-! ### the law -/
def spLaw (K : PySem.W.Frag) : Sp := fun vs H Q _ => ∃ (p : Addr) (ns : List Int), vs = [.ref p] ∧ SqL K H p (ns.map V.int) ∧ ns.length ≤ 63 ∧ ∀ H', Q (.bl true) H'
theorem ok_law (T : Txt K mg a d) : FnG P w K mg base CX0 9 a.law d.law ["_law_script"] (spLaw K) := by
  have G_law_pool : FnOk P w K mg base CX0 1 a.law_pool d.law_pool ["_law_script", "_law_at"] (spPool K) := ok_law_pool T
  have G_DatabaseU_initU : FnOk P w K mg base CX0 1 a.DatabaseU_initU d.DatabaseU_initU ["self"] (spDbI a) := ok_DatabaseU_initU T
  have G_law_step : FnG P w K mg base CX0 8 a.law_step d.law_step ["_law_pool_here", "_law_db", "_law_stack", "_law_sorts"] (spStep a) := ok_law_step T
  refine okG T.law sc_law (fun vs H Q E h => ?_) (fun cdv A outer s H vs Q E hr hgd h => ?_)
  · obtain ⟨p, ns, rfl, _⟩ := h
    rfl
  · obtain ⟨sa, ns, rfl, hS, hl, k⟩ := h
    refine ⟨_, (pss_cons (ps_for PassesOwn.never rfl (pi_range1 (by rfl) T.n_range (pa_cons (pe_callB (call_max2 rfl) (by rfl) T.n_max (by decide +kernel) (pa_cons pe_int (pa_cons (pe_callB (call_min2 rfl) (by rfl) T.n_min (by decide +kernel) (pa_cons pe_int (pa_cons (pe_callB call_len_seq (by rfl) T.n_len PySem.boot_len (pa_cons (pv 0) pa_nil)) pa_nil))) pa_nil))) pa_nil)) (pg_name (i := 1) sc_law.nd rfl (Or.inl rfl))
  (pss_cons (ps_set (i := 2) sc_law.nd rfl (Or.inl rfl) (pe_call G_law_pool (hr.mono (by decide)) (by rfl) T.g_law_pool T.law_pool.kp T.b_law_pool .nil pass0 (pa_cons (pv 0) (pa_cons (pv 1) pa_nil))))
  (pss_cons (ps_par3 (i := 3) (j := 4) (l := 5) rfl sc_law.nd rfl rfl rfl (by decide) (by decide) (by decide) rfl rfl rfl (pa_cons (pe_make0 T.mk_Database G_DatabaseU_initU (hr.mono (by decide)) (by rfl) T.g_Database T.b_DatabaseU_initU .nil pass0) (pa_cons (pe_lst (pa_cons (pe_lst pa_nil) pa_nil)) (pa_cons (pe_lst pa_nil) pa_nil))) (by rfl))
  (pss_one (ps_for PassesOwn.never rfl (pi_range1 (by rfl) T.n_range (pa_cons pe_int pa_nil)) (pg_name (i := 6) sc_law.nd rfl (Or.inl rfl))
  (pss_one (ps_if (pt_not (pt_val (pe_callG G_law_step (hr.mono (by decide)) hgd (by rfl) T.g_law_step T.law_step.kp T.b_law_step .nil pass0 (pa_cons (pv 2) (pa_cons (pv 3) (pa_cons (pv 4) (pa_cons (pv 5) pa_nil))))))) (pss_one (ps_ret pe_bl)) pss_nil)))))))
  (pss_one (ps_ret pe_bl))), ?_⟩
    dsimp only [cxOf]
    walk_at "rd"
    refine for_range (fun i σ H1 => i ≤ 63 ∧ Same H H1 ∧ ∃ v1 v2 v3 v4 v5 v6, σ = [some (.ref sa), v1, v2, v3, v4, v5, v6]) ?_ ?_ ?_
    · exact ⟨by omega, Same.refl H, _, _, _, _, _, _, rfl⟩
    · rintro i σ H1 hi ⟨h12, s1, v1, v2, v3, v4, v5, v6, rfl⟩
      have hi12 : i < 63 := by revert hi; split <;> split <;> omega
      refine ⟨_, rfl, _, rfl, sa, ns, i, ?_, s1.seq hS, by omega, fun p o hp ho => ?_⟩
      · rw [Int.zero_add]; rfl
      walk_at "rd"
      intro x dx hx hdx nxd
      refine ⟨x, dx, rfl, upd_same, fun H2 L hD el kp mt => ⟨rfl, ?_⟩⟩
      obtain ⟨nxp, hx1⟩ := none_upd hx
      have s2 : Same (upd H1 p o) H2 := fun b u e => kp b u (upd_oth (ne_of_none e hx) (upd_oth (ne_of_none e hdx) e)) (ne_of_none e hx)
      have s12 : Same H H2 := (s1.new hp).trans s2
      have hp2 : H2 p = some o := s2 _ _ upd_same
      have mt0 : ∀ b, Mut L b → H b = none ∧ b ≠ p := fun b hb => by
        rcases mt b hb with rfl | z
        · exact ⟨s1.free hx1, nxp⟩
        · obtain ⟨z1, z⟩ := none_upd z
          obtain ⟨z2, z⟩ := none_upd z
          exact ⟨(s1.new hp).free z, (none_upd z).1⟩
      walk_at "rd"
      intro n1 g1
      walk_at "rd"
      intro n2 g2
      walk_at "rd"
      intro n3 g3
      walk_at "rd"
      have q12 := ne_of_none (upd_same (H := H2) (a := n1) (o := .lst [])) g2
      obtain ⟨q13, g3'⟩ := none_upd g3
      obtain ⟨q23, g3''⟩ := none_upd g3'
      have I0 : KI a H p x n2 n3 (upd (upd (upd H2 n1 (.lst [])) n2 (.lst [.ref n1])) n3 (.lst [])) L ⟨[], [none], [], 0, 0⟩ [n1] (absS [none]) [] 0 := by
        refine ⟨((s12.new (o := .lst []) g1).new (o := .lst [.ref n1]) g2).new (o := .lst []) g3, ⟨o, upd_old (upd_old (upd_old hp2 g1) g2) g3, ho⟩, ((hD.new g1).new g2).new g3, el,
          ⟨upd_old upd_same g3, .cons (upd_old (upd_old upd_same g2) g3) .nil, upd_same, ?_, ?_, by simp⟩, ?_, ?_, fun z => (mt0 p z).2 rfl⟩
        · exact ne_of_none upd_same g3
        · intro q hq
          rcases List.mem_singleton.mp hq with rfl
          exact ⟨q12, ne_of_none (upd_old upd_same g2) g3⟩
        · intro b hb
          rcases hb with rfl | hb | rfl | rfl | hb
          · exact s1.free hp
          · exact (mt0 b hb).1
          · exact s12.free (none_upd g2).2
          · exact s12.free g3''
          · rcases List.mem_singleton.mp hb with rfl
            exact s12.free g1
        · intro b hb
          rcases hb with rfl | rfl | hb
          · exact ⟨hD.fresh (none_upd g2).2, fun e => by rw [e, upd_old hp2 g1] at g2; cases g2⟩
          · exact ⟨hD.fresh g3'', fun e => by rw [e, hp2] at g3''; cases g3''⟩
          · rcases List.mem_singleton.mp hb with rfl
            exact ⟨hD.fresh g1, fun e => by rw [e, hp2] at g1; cases g1⟩
      generalize upd (upd (upd H2 n1 (.lst [])) n2 (.lst [.ref n1])) n3 (.lst []) = H3 at I0 ⊢
      refine for_range (fun j σ H' => j ≤ 30 ∧ ∃ L D qs v6, KI a H p x n2 n3 H' L D qs (absS D.stack) D.entered (20 * j) ∧ Gd D j ∧ σ = [some (.ref sa), some (.int (0 + (i : Int))), some (.ref p), some (.ref x), some (.ref n2), some (.ref n3), v6]) ?_ ?_ ?_
      · exact ⟨by omega, L, _, _, _, I0, gd_new, rfl⟩
      · rintro j σ H5 hj ⟨_, L, D, qs, v6, I, gd, rfl⟩
        have hj13 : j < 30 := hj
        walk_at "rd"
        refine ⟨H, p, x, n2, n3, L, D, qs, 20 * j, j, rfl, I, gd, by omega, by omega, fun H' L' D' qs' I' g' => ?_⟩
        walk_at "rd"
        exact ⟨L', D', qs', _, I'.up (by omega), g', rfl⟩
      · rintro σ H5 ⟨hj, L, D, qs, v6, I, gd, rfl⟩
        exact ⟨by omega, I.same, _, _, _, _, _, _, rfl⟩
    · rintro σ H1 ⟨_, s1, v1, v2, v3, v4, v5, v6, rfl⟩
      exact k H1
end
theorem all_mk {w : World} {K : PySem.W.Frag} {h : Heap} {mg : Str → Option Value} {fa : Addr} (X : K.In h) (G : h.Ns mainGlobals mg) (hfa : mg "law" = some (.ref fa))
    {C1 : Addr}
    {t6 : Tok}
    {t8 : Tok}
    {t10 : Tok}
    {t12 : Tok}
    {t14 : Tok}
    {t16 : Tok}
    {t18 : Tok}
    {t20 : Tok}
    {t24 t25 t26 t27 t28 t29 t30 t31 : Tok} {p22 : Addr} {dd32 : Option Addr} {nn33 : Nat} {sl34 : Array (Option Value)}
    {f35 p36 : Addr} {rs39 : List Value}
    {od40 an40 : Option Addr} {sl40 : Array (Option Value)} {oc40 kV40 dc40 pm40 cd40 ct40 : Value}
    {f41 : Addr}
    {od43 an43 : Option Addr} {sl43 : Array (Option Value)} {oc43 kV43 dc43 pm43 cd43 ct43 : Value}
    {C45 : Addr}
    {f47 : Addr} {nm48 qn48 : Str} {N48 : Addr} {bs48 bm48 : List Value} {sn48 : List Str} {sub48 : List Value} {ab48 : Bool} {col48 : Option Bool} {dd48 : Option Addr} {k048 k148 k248 k348 k548 : Option Value}
    {oc48 : Value} {od48 : Option Addr} {doc48 pm48 : Value} {an48 : Option Addr} {cda48 cc48 : Addr} {ct48 : Value} {osl48 : Array (Option Value)} {ccl48 : Value} {cdd48 : Option Addr} {vs48 : Array Value} {ccs48 : Array (Option Value)} {tf48 : Tok} {cl48 : Value} {cld48 : Option Addr} {csl48 : Array (Option Value)}
    {C71 : Addr}
    {f73 : Addr} {nm74 qn74 : Str} {N74 : Addr} {bs74 bm74 : List Value} {sn74 : List Str} {sub74 : List Value} {ab74 : Bool} {col74 : Option Bool} {dd74 : Option Addr} {k074 k174 k274 k374 k574 : Option Value}
    {oc74 : Value} {od74 : Option Addr} {doc74 pm74 : Value} {an74 : Option Addr} {cda74 cc74 : Addr} {ct74 : Value} {osl74 : Array (Option Value)} {ccl74 : Value} {cdd74 : Option Addr} {vs74 : Array Value} {ccs74 : Array (Option Value)} {tf74 : Tok} {cl74 : Value} {cld74 : Option Addr} {csl74 : Array (Option Value)}
    {C97 : Addr}
    {f99 : Addr} {nm100 qn100 : Str} {N100 : Addr} {bs100 bm100 : List Value} {sn100 : List Str} {sub100 : List Value} {ab100 : Bool} {col100 : Option Bool} {dd100 : Option Addr} {k0100 k1100 k2100 k3100 k5100 : Option Value}
    {oc100 : Value} {od100 : Option Addr} {doc100 pm100 : Value} {an100 : Option Addr} {cda100 cc100 : Addr} {ct100 : Value} {osl100 : Array (Option Value)} {ccl100 : Value} {cdd100 : Option Addr} {vs100 : Array Value} {ccs100 : Array (Option Value)} {tf100 : Tok} {cl100 : Value} {cld100 : Option Addr} {csl100 : Array (Option Value)}
    {C123 : Addr}
    {f125 : Addr} {nm126 qn126 : Str} {N126 : Addr} {bs126 bm126 : List Value} {sn126 : List Str} {sub126 : List Value} {ab126 : Bool} {col126 : Option Bool} {dd126 : Option Addr} {k0126 k1126 k2126 k3126 k5126 : Option Value}
    {oc126 : Value} {od126 : Option Addr} {doc126 pm126 : Value} {an126 : Option Addr} {cda126 cc126 : Addr} {ct126 : Value} {osl126 : Array (Option Value)} {ccl126 : Value} {cdd126 : Option Addr} {vs126 : Array Value} {ccs126 : Array (Option Value)} {tf126 : Tok} {cl126 : Value} {cld126 : Option Addr} {csl126 : Array (Option Value)}
    {C148 : Addr}
    {f150 : Addr} {nm151 qn151 : Str} {N151 : Addr} {bs151 bm151 : List Value} {sn151 : List Str} {sub151 : List Value} {ab151 : Bool} {col151 : Option Bool} {dd151 : Option Addr} {k0151 k1151 k2151 k3151 k5151 : Option Value}
    {oc151 : Value} {od151 : Option Addr} {doc151 pm151 : Value} {an151 : Option Addr} {cda151 cc151 : Addr} {ct151 : Value} {osl151 : Array (Option Value)} {ccl151 : Value} {cdd151 : Option Addr} {vs151 : Array Value} {ccs151 : Array (Option Value)} {tf151 : Tok} {cl151 : Value} {cld151 : Option Addr} {csl151 : Array (Option Value)}
    {C178 : Addr}
    {C180 : Addr}
    {f188 : Addr}
    {od193 an193 : Option Addr} {sl193 : Array (Option Value)} {oc193 kV193 dc193 pm193 cd193 ct193 : Value}
    {C194 : Addr}
    {f205 : Addr}
    {od210 an210 : Option Addr} {sl210 : Array (Option Value)} {oc210 kV210 dc210 pm210 cd210 ct210 : Value}
    {f211 : Addr}
    {od214 an214 : Option Addr} {sl214 : Array (Option Value)} {oc214 kV214 dc214 pm214 cd214 ct214 : Value}
    {f215 : Addr}
    {od218 an218 : Option Addr} {sl218 : Array (Option Value)} {oc218 kV218 dc218 pm218 cd218 ct218 : Value}
    {f219 : Addr}
    {od222 an222 : Option Addr} {sl222 : Array (Option Value)} {oc222 kV222 dc222 pm222 cd222 ct222 : Value}
    {f223 : Addr}
    {od226 an226 : Option Addr} {sl226 : Array (Option Value)} {oc226 kV226 dc226 pm226 cd226 ct226 : Value}
    {f227 : Addr}
    {od230 an230 : Option Addr} {sl230 : Array (Option Value)} {oc230 kV230 dc230 pm230 cd230 ct230 : Value}
    {f231 : Addr}
    {od234 an234 : Option Addr} {sl234 : Array (Option Value)} {oc234 kV234 dc234 pm234 cd234 ct234 : Value}
    {f235 : Addr}
    {od238 an238 : Option Addr} {sl238 : Array (Option Value)} {oc238 dc238 pm238 cd238 ct238 : Value}
    {T239 : Addr} {oc240 : Value} {od241 : Option Addr} {on242 : Nat} {os243 : Array (Option Value)}
    {D246 : Addr}
    {f249 : Addr}
    {od252 an252 : Option Addr} {sl252 : Array (Option Value)} {oc252 dc252 pm252 cd252 ct252 : Value}
    {T253 : Addr} {oc254 : Value} {od255 : Option Addr} {on256 : Nat} {os257 : Array (Option Value)}
    {t258 : Tok}
    {kV252 : Value}
    {f260 p261 : Addr} {rs262 : List Value}
    {od267 an267 : Option Addr} {sl267 : Array (Option Value)} {oc267 kV267 dc267 pm267 cd267 ct267 : Value}
    {f268 p269 : Addr} {rs270 : List Value}
    {od275 an275 : Option Addr} {sl275 : Array (Option Value)} {oc275 kV275 dc275 pm275 cd275 ct275 : Value}
    {f276 p277 : Addr} {rs278 : List Value}
    {od283 an283 : Option Addr} {sl283 : Array (Option Value)} {oc283 kV283 dc283 pm283 cd283 ct283 : Value}
    {f284 p285 : Addr} {rs286 : List Value}
    {od291 an291 : Option Addr} {sl291 : Array (Option Value)} {oc291 kV291 dc291 pm291 cd291 ct291 : Value}
    {f292 p293 : Addr} {rs294 : List Value}
    {od299 an299 : Option Addr} {sl299 : Array (Option Value)} {oc299 kV299 dc299 pm299 cd299 ct299 : Value}
    {f300 : Addr}
    {od302 an302 : Option Addr} {sl302 : Array (Option Value)} {oc302 kV302 dc302 pm302 cd302 ct302 : Value}
    {f303 : Addr}
    {od305 an305 : Option Addr} {sl305 : Array (Option Value)} {oc305 kV305 dc305 pm305 cd305 ct305 : Value}
    {f306 : Addr}
    {od308 an308 : Option Addr} {sl308 : Array (Option Value)} {oc308 kV308 dc308 pm308 cd308 ct308 : Value}
    {f309 : Addr}
    {od311 an311 : Option Addr} {sl311 : Array (Option Value)} {oc311 kV311 dc311 pm311 cd311 ct311 : Value}
    {f312 : Addr}
    {od314 an314 : Option Addr} {sl314 : Array (Option Value)} {oc314 kV314 dc314 pm314 cd314 ct314 : Value}
    {f315 : Addr}
    {od317 an317 : Option Addr} {sl317 : Array (Option Value)} {oc317 kV317 dc317 pm317 cd317 ct317 : Value}
    {f318 : Addr}
    {od320 an320 : Option Addr} {sl320 : Array (Option Value)} {oc320 kV320 dc320 pm320 cd320 ct320 : Value}
    {f321 : Addr}
    {od323 an323 : Option Addr} {sl323 : Array (Option Value)} {oc323 kV323 dc323 pm323 cd323 ct323 : Value}
    {f324 : Addr}
    {od326 an326 : Option Addr} {sl326 : Array (Option Value)} {oc326 kV326 dc326 pm326 cd326 ct326 : Value}
    {od327 an327 : Option Addr} {sl327 : Array (Option Value)} {oc327 kV327 dc327 pm327 cd327 ct327 : Value}
    (a2 : PySem.W.nsIn K mainGlobals "Mode" = some (some (.ref C1)))
    (r3 : PySem.W.readsIn K C1 (.type "type") = true)
    (s4 : PySem.W.specialIn K (.ref C1) "__getattribute__" = some (some (.builtin "type.__getattribute__")))
    (z5 : PySem.W.findCls K (.ref C1) (.type "type") "JOIN" = some (.val (.str "join" t6)))
    (z7 : PySem.W.findCls K (.ref C1) (.type "type") "INNER" = some (.val (.str "inner" t8)))
    (z9 : PySem.W.findCls K (.ref C1) (.type "type") "APART" = some (.val (.str "apart" t10)))
    (z11 : PySem.W.findCls K (.ref C1) (.type "type") "MUST" = some (.val (.str "must" t12)))
    (z13 : PySem.W.findCls K (.ref C1) (.type "type") "EITHER" = some (.val (.str "either" t14)))
    (z15 : PySem.W.findCls K (.ref C1) (.type "type") "NEVER" = some (.val (.str "never" t16)))
    (z17 : PySem.W.findCls K (.ref C1) (.type "type") "OUTSIDE" = some (.val (.str "outside" t18)))
    (z19 : PySem.W.findCls K (.ref C1) (.type "type") "ALONE" = some (.val (.str "alone" t20)))
    (z21 : PySem.W.findCls K (.ref C1) (.type "type") "ALL" = some (.val (.ref p22)))
    (l23 : K.lookup p22 = some ⟨.type "tuple", dd32, .seq #[.str "join" t24, .str "inner" t25, .str "apart" t26, .str "must" t27, .str "either" t28, .str "never" t29, .str "outside" t30, .str "alone" t31] nn33, sl34⟩)
    (z37 : PySem.W.findCls K (.ref C1) (.type "type") "is_mode" = some (.get (.builtin "staticmethod.__get__") (.ref p36) .none (.ref C1)))
    (r38 : PySem.W.recIn K p36 "staticmethod" = some (.ref f35 :: rs39))
    (l40 : K.lookup f35 = some ⟨oc40, od40, .func (PySem.W.fnOf "is_mode" "Mode.is_mode" (defArgs s_Mode_is_mode) (defBody s_Mode_is_mode) (defScope s_Mode_is_mode) .none kV40 dc40 pm40 an40 cd40 ct40), sl40⟩)
    (c40 : PySem.W.codeIn K cd40 "Mode.is_mode" = true)
    (k40 : PySem.W.keepIn K (.ref f35) = true)
    (a42 : PySem.W.nsIn K mainGlobals "is_word" = some (some (.ref f41)))
    (l43 : K.lookup f41 = some ⟨oc43, od43, .func (PySem.W.fnOf "is_word" "is_word" (defArgs s_is_word) (defBody s_is_word) (defScope s_is_word) .none kV43 dc43 pm43 an43 cd43 ct43), sl43⟩)
    (c43 : PySem.W.codeIn K cd43 "is_word" = true)
    (k43 : PySem.W.keepIn K (.ref f41) = true)
    (z44 : PySem.W.nsIn K cStatics "thirdparty.any" = some none)
    (a46 : PySem.W.nsIn K mainGlobals "Missing" = some (some (.ref C45)))
    (e49 : K.lookup C45 = some (excClassObj nm48 qn48 C45 N48 bs48 bm48 true sn48 sub48 ab48 col48 dd48 k048 k148 k248 k348 k548 "ValueError.__new__"))
    (e50 : PySem.HandSPX.refsVE bm48 = true)
    (e51 : PySem.W.findIn K (.ref C45) "__setattr__" = some (some (.builtin "object.__setattr__")))
    (e52 : PySem.W.findIn K (.ref C45) "__getattribute__" = some (some (.builtin "BaseException.__getattribute__")))
    (e53 : PySem.W.findIn K (.ref C45) "__getattr__" = some none)
    (e54 : PySem.W.findIn K (.ref C45) "__init__" = some (some (.ref f47)))
    (e55 : PySem.W.typeIn K (.ref f47) = some (.type "function"))
    (e56 : PySem.W.keepIn K (.ref C45) = true)
    (e57 : PySem.W.subIn K (.ref C45) (.type "BaseException") = some true)
    (e58 : PySem.W.subIn K (.ref C45) (.type "ValueError") = some true)
    (e59 : PySem.W.typeIn K (.ref C45) = some (.type "type"))
    (e60 : PySem.W.hasDictIn K C45 = true)
    (e61 : PySem.W.ks_superIn K C45 C45 "__init__" = some (some (.builtin "ValueError.__init__")))
    (e62 : PySem.W.mroIn K C45 (.ref C45) = some true)
    (e63 : PySem.W.exmOne K (.ref C45) (.ref C45) = some true)
    (e64 : K.lookup f47 = some ⟨oc48, od48, .func (PySem.W.ksFn "__init__" "Missing.__init__" (defArgs s_MissingU_initU) (defBody s_MissingU_initU) (defScope s_MissingU_initU) .none .none doc48 pm48 an48 (.ref cda48) ct48 cc48), osl48⟩)
    (e65 : PySem.W.codeIn K (.ref cda48) "Missing.__init__" = true)
    (e66 : K.lookup cda48 = some ⟨ccl48, cdd48, .fields vs48, ccs48⟩)
    (e67 : vs48[2]? = some (.str P.main.file tf48))
    (e68 : K.lookup cc48 = some ⟨cl48, cld48, .cell (some (.ref C45)), csl48⟩)
    (e69 : PySem.W.findIn K (.ref C45) "word" = some none)
    (e70 : PySem.W.findIn K (.ref C45) "mode" = some none)
    (a72 : PySem.W.nsIn K mainGlobals "Present" = some (some (.ref C71)))
    (e75 : K.lookup C71 = some (excClassObj nm74 qn74 C71 N74 bs74 bm74 true sn74 sub74 ab74 col74 dd74 k074 k174 k274 k374 k574 "ValueError.__new__"))
    (e76 : PySem.HandSPX.refsVE bm74 = true)
    (e77 : PySem.W.findIn K (.ref C71) "__setattr__" = some (some (.builtin "object.__setattr__")))
    (e78 : PySem.W.findIn K (.ref C71) "__getattribute__" = some (some (.builtin "BaseException.__getattribute__")))
    (e79 : PySem.W.findIn K (.ref C71) "__getattr__" = some none)
    (e80 : PySem.W.findIn K (.ref C71) "__init__" = some (some (.ref f73)))
    (e81 : PySem.W.typeIn K (.ref f73) = some (.type "function"))
    (e82 : PySem.W.keepIn K (.ref C71) = true)
    (e83 : PySem.W.subIn K (.ref C71) (.type "BaseException") = some true)
    (e84 : PySem.W.subIn K (.ref C71) (.type "ValueError") = some true)
    (e85 : PySem.W.typeIn K (.ref C71) = some (.type "type"))
    (e86 : PySem.W.hasDictIn K C71 = true)
    (e87 : PySem.W.ks_superIn K C71 C71 "__init__" = some (some (.builtin "ValueError.__init__")))
    (e88 : PySem.W.mroIn K C71 (.ref C71) = some true)
    (e89 : PySem.W.exmOne K (.ref C71) (.ref C71) = some true)
    (e90 : K.lookup f73 = some ⟨oc74, od74, .func (PySem.W.ksFn "__init__" "Present.__init__" (defArgs s_PresentU_initU) (defBody s_PresentU_initU) (defScope s_PresentU_initU) .none .none doc74 pm74 an74 (.ref cda74) ct74 cc74), osl74⟩)
    (e91 : PySem.W.codeIn K (.ref cda74) "Present.__init__" = true)
    (e92 : K.lookup cda74 = some ⟨ccl74, cdd74, .fields vs74, ccs74⟩)
    (e93 : vs74[2]? = some (.str P.main.file tf74))
    (e94 : K.lookup cc74 = some ⟨cl74, cld74, .cell (some (.ref C71)), csl74⟩)
    (e95 : PySem.W.findIn K (.ref C71) "word" = some none)
    (e96 : PySem.W.findIn K (.ref C71) "mode" = some none)
    (a98 : PySem.W.nsIn K mainGlobals "Doomed" = some (some (.ref C97)))
    (e101 : K.lookup C97 = some (excClassObj nm100 qn100 C97 N100 bs100 bm100 true sn100 sub100 ab100 col100 dd100 k0100 k1100 k2100 k3100 k5100 "ValueError.__new__"))
    (e102 : PySem.HandSPX.refsVE bm100 = true)
    (e103 : PySem.W.findIn K (.ref C97) "__setattr__" = some (some (.builtin "object.__setattr__")))
    (e104 : PySem.W.findIn K (.ref C97) "__getattribute__" = some (some (.builtin "BaseException.__getattribute__")))
    (e105 : PySem.W.findIn K (.ref C97) "__getattr__" = some none)
    (e106 : PySem.W.findIn K (.ref C97) "__init__" = some (some (.ref f99)))
    (e107 : PySem.W.typeIn K (.ref f99) = some (.type "function"))
    (e108 : PySem.W.keepIn K (.ref C97) = true)
    (e109 : PySem.W.subIn K (.ref C97) (.type "BaseException") = some true)
    (e110 : PySem.W.subIn K (.ref C97) (.type "ValueError") = some true)
    (e111 : PySem.W.typeIn K (.ref C97) = some (.type "type"))
    (e112 : PySem.W.hasDictIn K C97 = true)
    (e113 : PySem.W.ks_superIn K C97 C97 "__init__" = some (some (.builtin "ValueError.__init__")))
    (e114 : PySem.W.mroIn K C97 (.ref C97) = some true)
    (e115 : PySem.W.exmOne K (.ref C97) (.ref C97) = some true)
    (e116 : K.lookup f99 = some ⟨oc100, od100, .func (PySem.W.ksFn "__init__" "Doomed.__init__" (defArgs s_DoomedU_initU) (defBody s_DoomedU_initU) (defScope s_DoomedU_initU) .none .none doc100 pm100 an100 (.ref cda100) ct100 cc100), osl100⟩)
    (e117 : PySem.W.codeIn K (.ref cda100) "Doomed.__init__" = true)
    (e118 : K.lookup cda100 = some ⟨ccl100, cdd100, .fields vs100, ccs100⟩)
    (e119 : vs100[2]? = some (.str P.main.file tf100))
    (e120 : K.lookup cc100 = some ⟨cl100, cld100, .cell (some (.ref C97)), csl100⟩)
    (e121 : PySem.W.findIn K (.ref C97) "word" = some none)
    (e122 : PySem.W.findIn K (.ref C97) "first" = some none)
    (a124 : PySem.W.nsIn K mainGlobals "Refused" = some (some (.ref C123)))
    (e127 : K.lookup C123 = some (excClassObj nm126 qn126 C123 N126 bs126 bm126 true sn126 sub126 ab126 col126 dd126 k0126 k1126 k2126 k3126 k5126 "ValueError.__new__"))
    (e128 : PySem.HandSPX.refsVE bm126 = true)
    (e129 : PySem.W.findIn K (.ref C123) "__setattr__" = some (some (.builtin "object.__setattr__")))
    (e130 : PySem.W.findIn K (.ref C123) "__getattribute__" = some (some (.builtin "BaseException.__getattribute__")))
    (e131 : PySem.W.findIn K (.ref C123) "__getattr__" = some none)
    (e132 : PySem.W.findIn K (.ref C123) "__init__" = some (some (.ref f125)))
    (e133 : PySem.W.typeIn K (.ref f125) = some (.type "function"))
    (e134 : PySem.W.keepIn K (.ref C123) = true)
    (e135 : PySem.W.subIn K (.ref C123) (.type "BaseException") = some true)
    (e136 : PySem.W.subIn K (.ref C123) (.type "ValueError") = some true)
    (e137 : PySem.W.typeIn K (.ref C123) = some (.type "type"))
    (e138 : PySem.W.hasDictIn K C123 = true)
    (e139 : PySem.W.ks_superIn K C123 C123 "__init__" = some (some (.builtin "ValueError.__init__")))
    (e140 : PySem.W.mroIn K C123 (.ref C123) = some true)
    (e141 : PySem.W.exmOne K (.ref C123) (.ref C123) = some true)
    (e142 : K.lookup f125 = some ⟨oc126, od126, .func (PySem.W.ksFn "__init__" "Refused.__init__" (defArgs s_RefusedU_initU) (defBody s_RefusedU_initU) (defScope s_RefusedU_initU) .none .none doc126 pm126 an126 (.ref cda126) ct126 cc126), osl126⟩)
    (e143 : PySem.W.codeIn K (.ref cda126) "Refused.__init__" = true)
    (e144 : K.lookup cda126 = some ⟨ccl126, cdd126, .fields vs126, ccs126⟩)
    (e145 : vs126[2]? = some (.str P.main.file tf126))
    (e146 : K.lookup cc126 = some ⟨cl126, cld126, .cell (some (.ref C123)), csl126⟩)
    (e147 : PySem.W.findIn K (.ref C123) "word" = some none)
    (a149 : PySem.W.nsIn K mainGlobals "NoBlock" = some (some (.ref C148)))
    (e152 : K.lookup C148 = some (excClassObj nm151 qn151 C148 N151 bs151 bm151 true sn151 sub151 ab151 col151 dd151 k0151 k1151 k2151 k3151 k5151 "ValueError.__new__"))
    (e153 : PySem.HandSPX.refsVE bm151 = true)
    (e154 : PySem.W.findIn K (.ref C148) "__setattr__" = some (some (.builtin "object.__setattr__")))
    (e155 : PySem.W.findIn K (.ref C148) "__getattribute__" = some (some (.builtin "BaseException.__getattribute__")))
    (e156 : PySem.W.findIn K (.ref C148) "__getattr__" = some none)
    (e157 : PySem.W.findIn K (.ref C148) "__init__" = some (some (.ref f150)))
    (e158 : PySem.W.typeIn K (.ref f150) = some (.type "function"))
    (e159 : PySem.W.keepIn K (.ref C148) = true)
    (e160 : PySem.W.subIn K (.ref C148) (.type "BaseException") = some true)
    (e161 : PySem.W.subIn K (.ref C148) (.type "ValueError") = some true)
    (e162 : PySem.W.typeIn K (.ref C148) = some (.type "type"))
    (e163 : PySem.W.hasDictIn K C148 = true)
    (e164 : PySem.W.ks_superIn K C148 C148 "__init__" = some (some (.builtin "ValueError.__init__")))
    (e165 : PySem.W.mroIn K C148 (.ref C148) = some true)
    (e166 : PySem.W.exmOne K (.ref C148) (.ref C148) = some true)
    (e167 : K.lookup f150 = some ⟨oc151, od151, .func (PySem.W.ksFn "__init__" "NoBlock.__init__" (defArgs s_NoBlockU_initU) (defBody s_NoBlockU_initU) (defScope s_NoBlockU_initU) .none .none doc151 pm151 an151 (.ref cda151) ct151 cc151), osl151⟩)
    (e168 : PySem.W.codeIn K (.ref cda151) "NoBlock.__init__" = true)
    (e169 : K.lookup cda151 = some ⟨ccl151, cdd151, .fields vs151, ccs151⟩)
    (e170 : vs151[2]? = some (.str P.main.file tf151))
    (e171 : K.lookup cc151 = some ⟨cl151, cld151, .cell (some (.ref C148)), csl151⟩)
    (z172 : PySem.W.exmOne K (.ref C71) (.ref C45) = some false)
    (z173 : PySem.W.exmOne K (.ref C97) (.ref C45) = some false)
    (z174 : PySem.W.exmOne K (.ref C97) (.ref C71) = some false)
    (z175 : PySem.W.exmOne K (.ref C123) (.ref C97) = some false)
    (z176 : PySem.W.exmOne K (.ref C148) (.ref C97) = some false)
    (z177 : PySem.W.exmOne K (.ref C148) (.ref C123) = some false)
    (a179 : PySem.W.nsIn K mainGlobals "Write" = some (some (.ref C178)))
    (a181 : PySem.W.nsIn K mainGlobals "Transaction" = some (some (.ref C180)))
    (q182 : PySem.W.plainGet K C180 Str.empty = true)
    (q183 : PySem.W.hasDictIn K C180 = true)
    (q184 : PySem.W.plainOver K C180 = true)
    (q185 : PySem.W.findIn K (.ref C180) "__setattr__" = some (some (.builtin "object.__setattr__")))
    (z186 : PySem.W.findIn K (.ref C180) "number" = some none)
    (z187 : PySem.W.findIn K (.ref C180) "reasons" = some none)
    (q189 : PySem.W.makesIn K C180 = true)
    (q190 : PySem.W.findIn K (.ref C180) "__init__" = some (some (.ref f188)))
    (q191 : PySem.W.isFn K (.ref f188) = true)
    (q192 : PySem.W.keepIn K (.ref C180) = true)
    (l193 : K.lookup f188 = some ⟨oc193, od193, .func (PySem.W.fnOf "__init__" "Transaction.__init__" (defArgs s_TransactionU_initU) (defBody s_TransactionU_initU) (defScope s_TransactionU_initU) .none kV193 dc193 pm193 an193 cd193 ct193), sl193⟩)
    (c193 : PySem.W.codeIn K cd193 "Transaction.__init__" = true)
    (k193 : PySem.W.keepIn K (.ref f188) = true)
    (a195 : PySem.W.nsIn K mainGlobals "Database" = some (some (.ref C194)))
    (q196 : PySem.W.plainGet K C194 Str.empty = true)
    (q197 : PySem.W.hasDictIn K C194 = true)
    (q198 : PySem.W.plainOver K C194 = true)
    (q199 : PySem.W.findIn K (.ref C194) "__setattr__" = some (some (.builtin "object.__setattr__")))
    (z200 : PySem.W.findIn K (.ref C194) "rows" = some none)
    (z201 : PySem.W.findIn K (.ref C194) "stack" = some none)
    (z202 : PySem.W.findIn K (.ref C194) "entered" = some none)
    (z203 : PySem.W.findIn K (.ref C194) "floor" = some none)
    (z204 : PySem.W.findIn K (.ref C194) "opened" = some none)
    (q206 : PySem.W.makesIn K C194 = true)
    (q207 : PySem.W.findIn K (.ref C194) "__init__" = some (some (.ref f205)))
    (q208 : PySem.W.isFn K (.ref f205) = true)
    (q209 : PySem.W.keepIn K (.ref C194) = true)
    (l210 : K.lookup f205 = some ⟨oc210, od210, .func (PySem.W.fnOf "__init__" "Database.__init__" (defArgs s_DatabaseU_initU) (defBody s_DatabaseU_initU) (defScope s_DatabaseU_initU) .none kV210 dc210 pm210 an210 cd210 ct210), sl210⟩)
    (c210 : PySem.W.codeIn K cd210 "Database.__init__" = true)
    (k210 : PySem.W.keepIn K (.ref f205) = true)
    (q212 : PySem.W.findIn K (.ref C194) "begin" = some (some (.ref f211)))
    (q213 : PySem.W.isFn K (.ref f211) = true)
    (l214 : K.lookup f211 = some ⟨oc214, od214, .func (PySem.W.fnOf "begin" "Database.begin" (defArgs s_Database_begin) (defBody s_Database_begin) (defScope s_Database_begin) .none kV214 dc214 pm214 an214 cd214 ct214), sl214⟩)
    (c214 : PySem.W.codeIn K cd214 "Database.begin" = true)
    (k214 : PySem.W.keepIn K (.ref f211) = true)
    (q216 : PySem.W.findIn K (.ref C194) "enter_alone" = some (some (.ref f215)))
    (q217 : PySem.W.isFn K (.ref f215) = true)
    (l218 : K.lookup f215 = some ⟨oc218, od218, .func (PySem.W.fnOf "enter_alone" "Database.enter_alone" (defArgs s_Database_enter_alone) (defBody s_Database_enter_alone) (defScope s_Database_enter_alone) .none kV218 dc218 pm218 an218 cd218 ct218), sl218⟩)
    (c218 : PySem.W.codeIn K cd218 "Database.enter_alone" = true)
    (k218 : PySem.W.keepIn K (.ref f215) = true)
    (q220 : PySem.W.findIn K (.ref C194) "enter_inside" = some (some (.ref f219)))
    (q221 : PySem.W.isFn K (.ref f219) = true)
    (l222 : K.lookup f219 = some ⟨oc222, od222, .func (PySem.W.fnOf "enter_inside" "Database.enter_inside" (defArgs s_Database_enter_inside) (defBody s_Database_enter_inside) (defScope s_Database_enter_inside) .none kV222 dc222 pm222 an222 cd222 ct222), sl222⟩)
    (c222 : PySem.W.codeIn K cd222 "Database.enter_inside" = true)
    (k222 : PySem.W.keepIn K (.ref f219) = true)
    (q224 : PySem.W.findIn K (.ref C194) "enter" = some (some (.ref f223)))
    (q225 : PySem.W.isFn K (.ref f223) = true)
    (l226 : K.lookup f223 = some ⟨oc226, od226, .func (PySem.W.fnOf "enter" "Database.enter" (defArgs s_Database_enter) (defBody s_Database_enter) (defScope s_Database_enter) .none kV226 dc226 pm226 an226 cd226 ct226), sl226⟩)
    (c226 : PySem.W.codeIn K cd226 "Database.enter" = true)
    (k226 : PySem.W.keepIn K (.ref f223) = true)
    (q228 : PySem.W.findIn K (.ref C194) "end_level" = some (some (.ref f227)))
    (q229 : PySem.W.isFn K (.ref f227) = true)
    (l230 : K.lookup f227 = some ⟨oc230, od230, .func (PySem.W.fnOf "end_level" "Database.end_level" (defArgs s_Database_end_level) (defBody s_Database_end_level) (defScope s_Database_end_level) .none kV230 dc230 pm230 an230 cd230 ct230), sl230⟩)
    (c230 : PySem.W.codeIn K cd230 "Database.end_level" = true)
    (k230 : PySem.W.keepIn K (.ref f227) = true)
    (q232 : PySem.W.findIn K (.ref C194) "end_transaction" = some (some (.ref f231)))
    (q233 : PySem.W.isFn K (.ref f231) = true)
    (l234 : K.lookup f231 = some ⟨oc234, od234, .func (PySem.W.fnOf "end_transaction" "Database.end_transaction" (defArgs s_Database_end_transaction) (defBody s_Database_end_transaction) (defScope s_Database_end_transaction) .none kV234 dc234 pm234 an234 cd234 ct234), sl234⟩)
    (c234 : PySem.W.codeIn K cd234 "Database.end_transaction" = true)
    (k234 : PySem.W.keepIn K (.ref f231) = true)
    (q236 : PySem.W.findIn K (.ref C194) "leave" = some (some (.ref f235)))
    (q237 : PySem.W.isFn K (.ref f235) = true)
    (l238 : K.lookup f235 = some ⟨oc238, od238, .func (PySem.W.fnOf "leave" "Database.leave" (defArgs s_Database_leave) (defBody s_Database_leave) (defScope s_Database_leave) (.ref T239) (.ref D246) dc238 pm238 an238 cd238 ct238), sl238⟩)
    (c238 : PySem.W.codeIn K cd238 "Database.leave" = true)
    (k238 : PySem.W.keepIn K (.ref f235) = true)
    (lT245 : K.lookup T239 = some ⟨oc240, od241, .seq #[.none] on242, os243⟩)
    (z248 : PySem.W.nsIn K D246 "commits" = some (some (.bool true)))
    (q250 : PySem.W.findIn K (.ref C194) "doom" = some (some (.ref f249)))
    (q251 : PySem.W.isFn K (.ref f249) = true)
    (l252 : K.lookup f249 = some ⟨oc252, od252, .func (PySem.W.fnOf "doom" "Database.doom" (defArgs s_Database_doom) (defBody s_Database_doom) (defScope s_Database_doom) (.ref T253) kV252 dc252 pm252 an252 cd252 ct252), sl252⟩)
    (c252 : PySem.W.codeIn K cd252 "Database.doom" = true)
    (k252 : PySem.W.keepIn K (.ref f249) = true)
    (lT259 : K.lookup T253 = some ⟨oc254, od255, .seq #[.str "doom" t258] on256, os257⟩)
    (q263 : PySem.W.findIn K (.ref C194) "is_open" = some (some (.ref p261)))
    (q264 : PySem.W.specialIn K (.ref p261) "__get__" = some (some (.builtin "property.__get__")))
    (q265 : PySem.W.takesIn K (.ref p261) = some true)
    (q266 : PySem.W.recIn K p261 "property" = some (.ref f260 :: rs262))
    (l267 : K.lookup f260 = some ⟨oc267, od267, .func (PySem.W.fnOf "is_open" "Database.is_open" (defArgs s_Database_is_open) (defBody s_Database_is_open) (defScope s_Database_is_open) .none kV267 dc267 pm267 an267 cd267 ct267), sl267⟩)
    (c267 : PySem.W.codeIn K cd267 "Database.is_open" = true)
    (k267 : PySem.W.keepIn K (.ref f260) = true)
    (q271 : PySem.W.findIn K (.ref C194) "is_doomed" = some (some (.ref p269)))
    (q272 : PySem.W.specialIn K (.ref p269) "__get__" = some (some (.builtin "property.__get__")))
    (q273 : PySem.W.takesIn K (.ref p269) = some true)
    (q274 : PySem.W.recIn K p269 "property" = some (.ref f268 :: rs270))
    (l275 : K.lookup f268 = some ⟨oc275, od275, .func (PySem.W.fnOf "is_doomed" "Database.is_doomed" (defArgs s_Database_is_doomed) (defBody s_Database_is_doomed) (defScope s_Database_is_doomed) .none kV275 dc275 pm275 an275 cd275 ct275), sl275⟩)
    (c275 : PySem.W.codeIn K cd275 "Database.is_doomed" = true)
    (k275 : PySem.W.keepIn K (.ref f268) = true)
    (q279 : PySem.W.findIn K (.ref C194) "reason" = some (some (.ref p277)))
    (q280 : PySem.W.specialIn K (.ref p277) "__get__" = some (some (.builtin "property.__get__")))
    (q281 : PySem.W.takesIn K (.ref p277) = some true)
    (q282 : PySem.W.recIn K p277 "property" = some (.ref f276 :: rs278))
    (l283 : K.lookup f276 = some ⟨oc283, od283, .func (PySem.W.fnOf "reason" "Database.reason" (defArgs s_Database_reason) (defBody s_Database_reason) (defScope s_Database_reason) .none kV283 dc283 pm283 an283 cd283 ct283), sl283⟩)
    (c283 : PySem.W.codeIn K cd283 "Database.reason" = true)
    (k283 : PySem.W.keepIn K (.ref f276) = true)
    (q287 : PySem.W.findIn K (.ref C194) "levels" = some (some (.ref p285)))
    (q288 : PySem.W.specialIn K (.ref p285) "__get__" = some (some (.builtin "property.__get__")))
    (q289 : PySem.W.takesIn K (.ref p285) = some true)
    (q290 : PySem.W.recIn K p285 "property" = some (.ref f284 :: rs286))
    (l291 : K.lookup f284 = some ⟨oc291, od291, .func (PySem.W.fnOf "levels" "Database.levels" (defArgs s_Database_levels) (defBody s_Database_levels) (defScope s_Database_levels) .none kV291 dc291 pm291 an291 cd291 ct291), sl291⟩)
    (c291 : PySem.W.codeIn K cd291 "Database.levels" = true)
    (k291 : PySem.W.keepIn K (.ref f284) = true)
    (q295 : PySem.W.findIn K (.ref C194) "depth" = some (some (.ref p293)))
    (q296 : PySem.W.specialIn K (.ref p293) "__get__" = some (some (.builtin "property.__get__")))
    (q297 : PySem.W.takesIn K (.ref p293) = some true)
    (q298 : PySem.W.recIn K p293 "property" = some (.ref f292 :: rs294))
    (l299 : K.lookup f292 = some ⟨oc299, od299, .func (PySem.W.fnOf "depth" "Database.depth" (defArgs s_Database_depth) (defBody s_Database_depth) (defScope s_Database_depth) .none kV299 dc299 pm299 an299 cd299 ct299), sl299⟩)
    (c299 : PySem.W.codeIn K cd299 "Database.depth" = true)
    (k299 : PySem.W.keepIn K (.ref f292) = true)
    (a301 : PySem.W.nsIn K mainGlobals "_law_pool" = some (some (.ref f300)))
    (l302 : K.lookup f300 = some ⟨oc302, od302, .func (PySem.W.fnOf "_law_pool" "_law_pool" (defArgs s_law_pool) (defBody s_law_pool) (defScope s_law_pool) .none kV302 dc302 pm302 an302 cd302 ct302), sl302⟩)
    (c302 : PySem.W.codeIn K cd302 "_law_pool" = true)
    (k302 : PySem.W.keepIn K (.ref f300) = true)
    (a304 : PySem.W.nsIn K mainGlobals "_law_draw" = some (some (.ref f303)))
    (l305 : K.lookup f303 = some ⟨oc305, od305, .func (PySem.W.fnOf "_law_draw" "_law_draw" (defArgs s_law_draw) (defBody s_law_draw) (defScope s_law_draw) .none kV305 dc305 pm305 an305 cd305 ct305), sl305⟩)
    (c305 : PySem.W.codeIn K cd305 "_law_draw" = true)
    (k305 : PySem.W.keepIn K (.ref f303) = true)
    (a307 : PySem.W.nsIn K mainGlobals "_law_word" = some (some (.ref f306)))
    (l308 : K.lookup f306 = some ⟨oc308, od308, .func (PySem.W.fnOf "_law_word" "_law_word" (defArgs s_law_word) (defBody s_law_word) (defScope s_law_word) .none kV308 dc308 pm308 an308 cd308 ct308), sl308⟩)
    (c308 : PySem.W.codeIn K cd308 "_law_word" = true)
    (k308 : PySem.W.keepIn K (.ref f306) = true)
    (a310 : PySem.W.nsIn K mainGlobals "_law_sort" = some (some (.ref f309)))
    (l311 : K.lookup f309 = some ⟨oc311, od311, .func (PySem.W.fnOf "_law_sort" "_law_sort" (defArgs s_law_sort) (defBody s_law_sort) (defScope s_law_sort) .none kV311 dc311 pm311 an311 cd311 ct311), sl311⟩)
    (c311 : PySem.W.codeIn K cd311 "_law_sort" = true)
    (k311 : PySem.W.keepIn K (.ref f309) = true)
    (a313 : PySem.W.nsIn K mainGlobals "_law_enter" = some (some (.ref f312)))
    (l314 : K.lookup f312 = some ⟨oc314, od314, .func (PySem.W.fnOf "_law_enter" "_law_enter" (defArgs s_law_enter) (defBody s_law_enter) (defScope s_law_enter) .none kV314 dc314 pm314 an314 cd314 ct314), sl314⟩)
    (c314 : PySem.W.codeIn K cd314 "_law_enter" = true)
    (k314 : PySem.W.keepIn K (.ref f312) = true)
    (a316 : PySem.W.nsIn K mainGlobals "_law_leave" = some (some (.ref f315)))
    (l317 : K.lookup f315 = some ⟨oc317, od317, .func (PySem.W.fnOf "_law_leave" "_law_leave" (defArgs s_law_leave) (defBody s_law_leave) (defScope s_law_leave) .none kV317 dc317 pm317 an317 cd317 ct317), sl317⟩)
    (c317 : PySem.W.codeIn K cd317 "_law_leave" = true)
    (k317 : PySem.W.keepIn K (.ref f315) = true)
    (a319 : PySem.W.nsIn K mainGlobals "_law_left" = some (some (.ref f318)))
    (l320 : K.lookup f318 = some ⟨oc320, od320, .func (PySem.W.fnOf "_law_left" "_law_left" (defArgs s_law_left) (defBody s_law_left) (defScope s_law_left) .none kV320 dc320 pm320 an320 cd320 ct320), sl320⟩)
    (c320 : PySem.W.codeIn K cd320 "_law_left" = true)
    (k320 : PySem.W.keepIn K (.ref f318) = true)
    (a322 : PySem.W.nsIn K mainGlobals "_law_shows" = some (some (.ref f321)))
    (l323 : K.lookup f321 = some ⟨oc323, od323, .func (PySem.W.fnOf "_law_shows" "_law_shows" (defArgs s_law_shows) (defBody s_law_shows) (defScope s_law_shows) .none kV323 dc323 pm323 an323 cd323 ct323), sl323⟩)
    (c323 : PySem.W.codeIn K cd323 "_law_shows" = true)
    (k323 : PySem.W.keepIn K (.ref f321) = true)
    (a325 : PySem.W.nsIn K mainGlobals "_law_step" = some (some (.ref f324)))
    (l326 : K.lookup f324 = some ⟨oc326, od326, .func (PySem.W.fnOf "_law_step" "_law_step" (defArgs s_law_step) (defBody s_law_step) (defScope s_law_step) .none kV326 dc326 pm326 an326 cd326 ct326), sl326⟩)
    (c326 : PySem.W.codeIn K cd326 "_law_step" = true)
    (k326 : PySem.W.keepIn K (.ref f324) = true)
    (l327 : K.lookup fa = some ⟨oc327, od327, .func (PySem.W.fnOf "law" "law" (defArgs s_law) (defBody s_law) (defScope s_law) .none kV327 dc327 pm327 an327 cd327 ct327), sl327⟩)
    (c327 : PySem.W.codeIn K cd327 "law" = true)
    (k327 : PySem.W.keepIn K (.ref fa) = true)
    (z328 : PySem.W.nsIn K mainGlobals "isinstance" = some none)
    (z329 : PySem.W.nsIn K mainGlobals "str" = some none)
    (z330 : PySem.W.nsIn K mainGlobals "len" = some none)
    (z331 : PySem.W.nsIn K mainGlobals "super" = some none)
    (z332 : PySem.W.nsIn K mainGlobals "abs" = some none)
    (z333 : PySem.W.nsIn K mainGlobals "int" = some none)
    (z334 : PySem.W.nsIn K mainGlobals "range" = some none)
    (z335 : PySem.W.nsIn K mainGlobals "repr" = some none)
    (z336 : PySem.W.nsIn K mainGlobals "max" = some none)
    (z337 : PySem.W.nsIn K mainGlobals "min" = some none)
    : ∃ fd : FuncData, (∀ (s : Shared) (v : Value), BindsTo s fd ⟨[v], []⟩ [("_law_script", v)]) ∧ ∀ base : Heap, K.In base → base.Ns mainGlobals mg → FnG P w K mg base CX0 9 fa fd ["_law_script"] (spLaw K) := by
  have F40 := fun_mk (st := s_Mode_is_mode) l40 c40 k40
  have b40 := F40.binds (ps := ["thing"]) fun _ _ _ _ _ _ us hl => match us, hl with | [_], _ => rfl
  have F43 := fun_mk (st := s_is_word) l43 c43 k43
  have b43 := F43.binds (ps := ["thing"]) fun _ _ _ _ _ _ us hl => match us, hl with | [_], _ => rfl
  have F193 := fun_mk (st := s_TransactionU_initU) l193 c193 k193
  have b193 := F193.binds (ps := ["self", "number"]) fun _ _ _ _ _ _ us hl => match us, hl with | [_, _], _ => rfl
  have F210 := fun_mk (st := s_DatabaseU_initU) l210 c210 k210
  have b210 := F210.binds (ps := ["self"]) fun _ _ _ _ _ _ us hl => match us, hl with | [_], _ => rfl
  have F214 := fun_mk (st := s_Database_begin) l214 c214 k214
  have b214 := F214.binds (ps := ["self"]) fun _ _ _ _ _ _ us hl => match us, hl with | [_], _ => rfl
  have F218 := fun_mk (st := s_Database_enter_alone) l218 c218 k218
  have b218 := F218.binds (ps := ["self", "mode"]) fun _ _ _ _ _ _ us hl => match us, hl with | [_, _], _ => rfl
  have F222 := fun_mk (st := s_Database_enter_inside) l222 c222 k222
  have b222 := F222.binds (ps := ["self", "mode", "present"]) fun _ _ _ _ _ _ us hl => match us, hl with | [_, _, _], _ => rfl
  have F226 := fun_mk (st := s_Database_enter) l226 c226 k226
  have b226 := F226.binds (ps := ["self", "mode"]) fun _ _ _ _ _ _ us hl => match us, hl with | [_, _], _ => rfl
  have F230 := fun_mk (st := s_Database_end_level) l230 c230 k230
  have b230 := F230.binds (ps := ["self", "error"]) fun _ _ _ _ _ _ us hl => match us, hl with | [_, _], _ => rfl
  have F234 := fun_mk (st := s_Database_end_transaction) l234 c234 k234
  have b234 := F234.binds (ps := ["self", "error", "commits"]) fun _ _ _ _ _ _ us hl => match us, hl with | [_, _, _], _ => rfl
  have F238 : FunD K "leave" "Database.leave" (defArgs s_Database_leave) (defBody s_Database_leave) (defScope s_Database_leave) [.non] [("commits", .bl true)]  f235 (PySem.W.fnOf "leave" "Database.leave" (defArgs s_Database_leave) (defBody s_Database_leave) (defScope s_Database_leave) (.ref T239) (.ref D246) dc238 pm238 an238 cd238 ct238) := ⟨⟨_, _, _, _, _, _, _, _, _, _, rfl, l238, c238, .inr ⟨by decide, _, _, _, _, rfl, lT245, rfl, (.cons rfl .nil)⟩, .inr ⟨_, rfl, fun q hq => by
      rcases List.mem_cons.mp hq with rfl | hq
      · exact ⟨_, z248, rfl⟩
      · exact absurd hq (by simp)⟩⟩, k238⟩
  have F252 : FunD K "doom" "Database.doom" (defArgs s_Database_doom) (defBody s_Database_doom) (defScope s_Database_doom) [.str "doom"] []  f249 (PySem.W.fnOf "doom" "Database.doom" (defArgs s_Database_doom) (defBody s_Database_doom) (defScope s_Database_doom) (.ref T253) kV252 dc252 pm252 an252 cd252 ct252) := ⟨⟨_, _, _, _, _, _, _, _, _, _, rfl, l252, c252, .inr ⟨by decide, _, _, _, _, rfl, lT259, rfl, (.cons ⟨_, rfl⟩ .nil)⟩, .inl rfl⟩, k252⟩
  have F267 := fun_mk (st := s_Database_is_open) l267 c267 k267
  have b267 := F267.binds (ps := ["self"]) fun _ _ _ _ _ _ us hl => match us, hl with | [_], _ => rfl
  have F275 := fun_mk (st := s_Database_is_doomed) l275 c275 k275
  have b275 := F275.binds (ps := ["self"]) fun _ _ _ _ _ _ us hl => match us, hl with | [_], _ => rfl
  have F283 := fun_mk (st := s_Database_reason) l283 c283 k283
  have b283 := F283.binds (ps := ["self"]) fun _ _ _ _ _ _ us hl => match us, hl with | [_], _ => rfl
  have F291 := fun_mk (st := s_Database_levels) l291 c291 k291
  have b291 := F291.binds (ps := ["self"]) fun _ _ _ _ _ _ us hl => match us, hl with | [_], _ => rfl
  have F299 := fun_mk (st := s_Database_depth) l299 c299 k299
  have b299 := F299.binds (ps := ["self"]) fun _ _ _ _ _ _ us hl => match us, hl with | [_], _ => rfl
  have F302 := fun_mk (st := s_law_pool) l302 c302 k302
  have b302 := F302.binds (ps := ["_law_script", "_law_at"]) fun _ _ _ _ _ _ us hl => match us, hl with | [_, _], _ => rfl
  have F305 := fun_mk (st := s_law_draw) l305 c305 k305
  have b305 := F305.binds (ps := ["_law_pool_here", "_law_many"]) fun _ _ _ _ _ _ us hl => match us, hl with | [_, _], _ => rfl
  have F308 := fun_mk (st := s_law_word) l308 c308 k308
  have b308 := F308.binds (ps := ["_law_pool_here"]) fun _ _ _ _ _ _ us hl => match us, hl with | [_], _ => rfl
  have F311 := fun_mk (st := s_law_sort) l311 c311 k311
  have b311 := F311.binds (ps := ["_law_stack", "_law_mode"]) fun _ _ _ _ _ _ us hl => match us, hl with | [_, _], _ => rfl
  have F314 := fun_mk (st := s_law_enter) l314 c314 k314
  have b314 := F314.binds (ps := ["_law_db", "_law_mode"]) fun _ _ _ _ _ _ us hl => match us, hl with | [_, _], _ => rfl
  have F317 := fun_mk (st := s_law_leave) l317 c317 k317
  have b317 := F317.binds (ps := ["_law_db", "_law_error", "_law_goes"]) fun _ _ _ _ _ _ us hl => match us, hl with | [_, _, _], _ => rfl
  have F320 := fun_mk (st := s_law_left) l320 c320 k320
  have b320 := F320.binds (ps := ["_law_stack", "_law_sorts", "_law_error", "_law_goes"]) fun _ _ _ _ _ _ us hl => match us, hl with | [_, _, _, _], _ => rfl
  have F323 := fun_mk (st := s_law_shows) l323 c323 k323
  have b323 := F323.binds (ps := ["_law_db", "_law_stack", "_law_depth"]) fun _ _ _ _ _ _ us hl => match us, hl with | [_, _, _], _ => rfl
  have F326 := fun_mk (st := s_law_step) l326 c326 k326
  have b326 := F326.binds (ps := ["_law_pool_here", "_law_db", "_law_stack", "_law_sorts"]) fun _ _ _ _ _ _ us hl => match us, hl with | [_, _, _, _], _ => rfl
  have F327 := fun_mk (st := s_law) l327 c327 k327
  have b327 := F327.binds (ps := ["_law_script"]) fun _ _ _ _ _ _ us hl => match us, hl with | [_], _ => rfl
  have T : Txt K mg ⟨C1, p22, f35, p36, f41, C45, f47, C71, f73, C97, f99, C123, f125, C148, f150, C178, C180, f188, C194, f205, f211, f215, f219, f223, f227, f231, f235, f249, f260, p261, f268, p269, f276, p277, f284, p285, f292, p293, f300, f303, f306, f309, f312, f315, f318, f321, f324, fa⟩ ⟨PySem.W.fnOf "is_mode" "Mode.is_mode" (defArgs s_Mode_is_mode) (defBody s_Mode_is_mode) (defScope s_Mode_is_mode) .none kV40 dc40 pm40 an40 cd40 ct40, PySem.W.fnOf "is_word" "is_word" (defArgs s_is_word) (defBody s_is_word) (defScope s_is_word) .none kV43 dc43 pm43 an43 cd43 ct43, PySem.W.fnOf "__init__" "Transaction.__init__" (defArgs s_TransactionU_initU) (defBody s_TransactionU_initU) (defScope s_TransactionU_initU) .none kV193 dc193 pm193 an193 cd193 ct193, PySem.W.fnOf "__init__" "Database.__init__" (defArgs s_DatabaseU_initU) (defBody s_DatabaseU_initU) (defScope s_DatabaseU_initU) .none kV210 dc210 pm210 an210 cd210 ct210, PySem.W.fnOf "begin" "Database.begin" (defArgs s_Database_begin) (defBody s_Database_begin) (defScope s_Database_begin) .none kV214 dc214 pm214 an214 cd214 ct214, PySem.W.fnOf "enter_alone" "Database.enter_alone" (defArgs s_Database_enter_alone) (defBody s_Database_enter_alone) (defScope s_Database_enter_alone) .none kV218 dc218 pm218 an218 cd218 ct218, PySem.W.fnOf "enter_inside" "Database.enter_inside" (defArgs s_Database_enter_inside) (defBody s_Database_enter_inside) (defScope s_Database_enter_inside) .none kV222 dc222 pm222 an222 cd222 ct222, PySem.W.fnOf "enter" "Database.enter" (defArgs s_Database_enter) (defBody s_Database_enter) (defScope s_Database_enter) .none kV226 dc226 pm226 an226 cd226 ct226, PySem.W.fnOf "end_level" "Database.end_level" (defArgs s_Database_end_level) (defBody s_Database_end_level) (defScope s_Database_end_level) .none kV230 dc230 pm230 an230 cd230 ct230, PySem.W.fnOf "end_transaction" "Database.end_transaction" (defArgs s_Database_end_transaction) (defBody s_Database_end_transaction) (defScope s_Database_end_transaction) .none kV234 dc234 pm234 an234 cd234 ct234, PySem.W.fnOf "leave" "Database.leave" (defArgs s_Database_leave) (defBody s_Database_leave) (defScope s_Database_leave) (.ref T239) (.ref D246) dc238 pm238 an238 cd238 ct238, PySem.W.fnOf "doom" "Database.doom" (defArgs s_Database_doom) (defBody s_Database_doom) (defScope s_Database_doom) (.ref T253) kV252 dc252 pm252 an252 cd252 ct252, PySem.W.fnOf "is_open" "Database.is_open" (defArgs s_Database_is_open) (defBody s_Database_is_open) (defScope s_Database_is_open) .none kV267 dc267 pm267 an267 cd267 ct267, PySem.W.fnOf "is_doomed" "Database.is_doomed" (defArgs s_Database_is_doomed) (defBody s_Database_is_doomed) (defScope s_Database_is_doomed) .none kV275 dc275 pm275 an275 cd275 ct275, PySem.W.fnOf "reason" "Database.reason" (defArgs s_Database_reason) (defBody s_Database_reason) (defScope s_Database_reason) .none kV283 dc283 pm283 an283 cd283 ct283, PySem.W.fnOf "levels" "Database.levels" (defArgs s_Database_levels) (defBody s_Database_levels) (defScope s_Database_levels) .none kV291 dc291 pm291 an291 cd291 ct291, PySem.W.fnOf "depth" "Database.depth" (defArgs s_Database_depth) (defBody s_Database_depth) (defScope s_Database_depth) .none kV299 dc299 pm299 an299 cd299 ct299, PySem.W.fnOf "_law_pool" "_law_pool" (defArgs s_law_pool) (defBody s_law_pool) (defScope s_law_pool) .none kV302 dc302 pm302 an302 cd302 ct302, PySem.W.fnOf "_law_draw" "_law_draw" (defArgs s_law_draw) (defBody s_law_draw) (defScope s_law_draw) .none kV305 dc305 pm305 an305 cd305 ct305, PySem.W.fnOf "_law_word" "_law_word" (defArgs s_law_word) (defBody s_law_word) (defScope s_law_word) .none kV308 dc308 pm308 an308 cd308 ct308, PySem.W.fnOf "_law_sort" "_law_sort" (defArgs s_law_sort) (defBody s_law_sort) (defScope s_law_sort) .none kV311 dc311 pm311 an311 cd311 ct311, PySem.W.fnOf "_law_enter" "_law_enter" (defArgs s_law_enter) (defBody s_law_enter) (defScope s_law_enter) .none kV314 dc314 pm314 an314 cd314 ct314, PySem.W.fnOf "_law_leave" "_law_leave" (defArgs s_law_leave) (defBody s_law_leave) (defScope s_law_leave) .none kV317 dc317 pm317 an317 cd317 ct317, PySem.W.fnOf "_law_left" "_law_left" (defArgs s_law_left) (defBody s_law_left) (defScope s_law_left) .none kV320 dc320 pm320 an320 cd320 ct320, PySem.W.fnOf "_law_shows" "_law_shows" (defArgs s_law_shows) (defBody s_law_shows) (defScope s_law_shows) .none kV323 dc323 pm323 an323 cd323 ct323, PySem.W.fnOf "_law_step" "_law_step" (defArgs s_law_step) (defBody s_law_step) (defScope s_law_step) .none kV326 dc326 pm326 an326 cd326 ct326, PySem.W.fnOf "law" "law" (defArgs s_law) (defBody s_law) (defScope s_law) .none kV327 dc327 pm327 an327 cd327 ct327⟩ := ⟨PySem.W.mg_of X G a2, ⟨r3, s4⟩, ⟨_, z5, ⟨_, rfl⟩⟩, ⟨_, z7, ⟨_, rfl⟩⟩, ⟨_, z9, ⟨_, rfl⟩⟩, ⟨_, z11, ⟨_, rfl⟩⟩, ⟨_, z13, ⟨_, rfl⟩⟩, ⟨_, z15, ⟨_, rfl⟩⟩, ⟨_, z17, ⟨_, rfl⟩⟩, ⟨_, z19, ⟨_, rfl⟩⟩, ⟨_, z21, rfl⟩, fun H => .inr ⟨_, _, _, l23, rfl, rfl, sz_le rfl, (.cons ⟨_, rfl⟩ (.cons ⟨_, rfl⟩ (.cons ⟨_, rfl⟩ (.cons ⟨_, rfl⟩ (.cons ⟨_, rfl⟩ (.cons ⟨_, rfl⟩ (.cons ⟨_, rfl⟩ (.cons ⟨_, rfl⟩ .nil))))))))⟩, ⟨_, l23, rfl⟩, F40, b40, ⟨z37, _, r38⟩, F43, b43, PySem.W.mg_of X G a42, PySem.W.mg_of X G a46, ec_Missing e49 e50 e51 e52 e53 e54 e55 e56 e57 e58 e59 e60 e61 e62 e63 z44 e64 e65 e66 e67 e68 e69 e70, PySem.W.mg_of X G a72, ec_Present e75 e76 e77 e78 e79 e80 e81 e82 e83 e84 e85 e86 e87 e88 e89 z44 e90 e91 e92 e93 e94 e95 e96, PySem.W.mg_of X G a98, ec_Doomed e101 e102 e103 e104 e105 e106 e107 e108 e109 e110 e111 e112 e113 e114 e115 z44 e116 e117 e118 e119 e120 e121 e122, PySem.W.mg_of X G a124, ec_Refused e127 e128 e129 e130 e131 e132 e133 e134 e135 e136 e137 e138 e139 e140 e141 z44 e142 e143 e144 e145 e146 e147, PySem.W.mg_of X G a149, ec_NoBlock e152 e153 e154 e155 e156 e157 e158 e159 e160 e161 e162 e163 e164 e165 e166 z44 e167 e168 e169 e170 e171 , z172, z173, z174, z175, z176, z177, PySem.W.mg_of X G a179, PySem.W.mg_of X G a181, ⟨q182, q183, q184, q185⟩, z186, z187, F193, b193, ⟨q189, q190, q191, q192⟩, PySem.W.mg_of X G a195, ⟨q196, q197, q198, q199⟩, z200, z201, z202, z203, z204, F210, b210, ⟨q206, q207, q208, q209⟩, F214, b214, ⟨q212, q213, k214⟩, F218, b218, ⟨q216, q217, k218⟩, F222, b222, ⟨q220, q221, k222⟩, F226, b226, ⟨q224, q225, k226⟩, F230, b230, ⟨q228, q229, k230⟩, F234, b234, ⟨q232, q233, k234⟩, F238, ⟨q236, q237, k238⟩, F252, ⟨q250, q251, k252⟩, F267, b267, ⟨q263, q264, q265, _, q266⟩, F275, b275, ⟨q271, q272, q273, _, q274⟩, F283, b283, ⟨q279, q280, q281, _, q282⟩, F291, b291, ⟨q287, q288, q289, _, q290⟩, F299, b299, ⟨q295, q296, q297, _, q298⟩, F302, b302, PySem.W.mg_of X G a301, F305, b305, PySem.W.mg_of X G a304, F308, b308, PySem.W.mg_of X G a307, F311, b311, PySem.W.mg_of X G a310, F314, b314, PySem.W.mg_of X G a313, F317, b317, PySem.W.mg_of X G a316, F320, b320, PySem.W.mg_of X G a319, F323, b323, PySem.W.mg_of X G a322, F326, b326, PySem.W.mg_of X G a325, F327, b327, hfa, PySem.W.mg_none_of X G z328, PySem.W.mg_none_of X G z329, PySem.W.mg_none_of X G z330, PySem.W.mg_none_of X G z331, PySem.W.mg_none_of X G z332, PySem.W.mg_none_of X G z333, PySem.W.mg_none_of X G z334, PySem.W.mg_none_of X G z335, PySem.W.mg_none_of X G z336, PySem.W.mg_none_of X G z337⟩
  exact ⟨_, fun s v => .of_eq rfl, fun base _ _ => ok_law T⟩
theorem all_mk' {w : World} {K : PySem.W.Frag} {h : Heap} {mg : Str → Option Value} {fa f0 : Addr} (X : K.In h) (G : h.Ns mainGlobals mg) (hfa0 : mg "law" = some (.ref fa))
    {C1 : Addr}
    {t6 : Tok}
    {t8 : Tok}
    {t10 : Tok}
    {t12 : Tok}
    {t14 : Tok}
    {t16 : Tok}
    {t18 : Tok}
    {t20 : Tok}
    {t24 t25 t26 t27 t28 t29 t30 t31 : Tok} {p22 : Addr} {dd32 : Option Addr} {nn33 : Nat} {sl34 : Array (Option Value)}
    {f35 p36 : Addr} {rs39 : List Value}
    {od40 an40 : Option Addr} {sl40 : Array (Option Value)} {oc40 kV40 dc40 pm40 cd40 ct40 : Value}
    {f41 : Addr}
    {od43 an43 : Option Addr} {sl43 : Array (Option Value)} {oc43 kV43 dc43 pm43 cd43 ct43 : Value}
    {C45 : Addr}
    {f47 : Addr} {nm48 qn48 : Str} {N48 : Addr} {bs48 bm48 : List Value} {sn48 : List Str} {sub48 : List Value} {ab48 : Bool} {col48 : Option Bool} {dd48 : Option Addr} {k048 k148 k248 k348 k548 : Option Value}
    {oc48 : Value} {od48 : Option Addr} {doc48 pm48 : Value} {an48 : Option Addr} {cda48 cc48 : Addr} {ct48 : Value} {osl48 : Array (Option Value)} {ccl48 : Value} {cdd48 : Option Addr} {vs48 : Array Value} {ccs48 : Array (Option Value)} {tf48 : Tok} {cl48 : Value} {cld48 : Option Addr} {csl48 : Array (Option Value)}
    {C71 : Addr}
    {f73 : Addr} {nm74 qn74 : Str} {N74 : Addr} {bs74 bm74 : List Value} {sn74 : List Str} {sub74 : List Value} {ab74 : Bool} {col74 : Option Bool} {dd74 : Option Addr} {k074 k174 k274 k374 k574 : Option Value}
    {oc74 : Value} {od74 : Option Addr} {doc74 pm74 : Value} {an74 : Option Addr} {cda74 cc74 : Addr} {ct74 : Value} {osl74 : Array (Option Value)} {ccl74 : Value} {cdd74 : Option Addr} {vs74 : Array Value} {ccs74 : Array (Option Value)} {tf74 : Tok} {cl74 : Value} {cld74 : Option Addr} {csl74 : Array (Option Value)}
    {C97 : Addr}
    {f99 : Addr} {nm100 qn100 : Str} {N100 : Addr} {bs100 bm100 : List Value} {sn100 : List Str} {sub100 : List Value} {ab100 : Bool} {col100 : Option Bool} {dd100 : Option Addr} {k0100 k1100 k2100 k3100 k5100 : Option Value}
    {oc100 : Value} {od100 : Option Addr} {doc100 pm100 : Value} {an100 : Option Addr} {cda100 cc100 : Addr} {ct100 : Value} {osl100 : Array (Option Value)} {ccl100 : Value} {cdd100 : Option Addr} {vs100 : Array Value} {ccs100 : Array (Option Value)} {tf100 : Tok} {cl100 : Value} {cld100 : Option Addr} {csl100 : Array (Option Value)}
    {C123 : Addr}
    {f125 : Addr} {nm126 qn126 : Str} {N126 : Addr} {bs126 bm126 : List Value} {sn126 : List Str} {sub126 : List Value} {ab126 : Bool} {col126 : Option Bool} {dd126 : Option Addr} {k0126 k1126 k2126 k3126 k5126 : Option Value}
    {oc126 : Value} {od126 : Option Addr} {doc126 pm126 : Value} {an126 : Option Addr} {cda126 cc126 : Addr} {ct126 : Value} {osl126 : Array (Option Value)} {ccl126 : Value} {cdd126 : Option Addr} {vs126 : Array Value} {ccs126 : Array (Option Value)} {tf126 : Tok} {cl126 : Value} {cld126 : Option Addr} {csl126 : Array (Option Value)}
    {C148 : Addr}
    {f150 : Addr} {nm151 qn151 : Str} {N151 : Addr} {bs151 bm151 : List Value} {sn151 : List Str} {sub151 : List Value} {ab151 : Bool} {col151 : Option Bool} {dd151 : Option Addr} {k0151 k1151 k2151 k3151 k5151 : Option Value}
    {oc151 : Value} {od151 : Option Addr} {doc151 pm151 : Value} {an151 : Option Addr} {cda151 cc151 : Addr} {ct151 : Value} {osl151 : Array (Option Value)} {ccl151 : Value} {cdd151 : Option Addr} {vs151 : Array Value} {ccs151 : Array (Option Value)} {tf151 : Tok} {cl151 : Value} {cld151 : Option Addr} {csl151 : Array (Option Value)}
    {C178 : Addr}
    {C180 : Addr}
    {f188 : Addr}
    {od193 an193 : Option Addr} {sl193 : Array (Option Value)} {oc193 kV193 dc193 pm193 cd193 ct193 : Value}
    {C194 : Addr}
    {f205 : Addr}
    {od210 an210 : Option Addr} {sl210 : Array (Option Value)} {oc210 kV210 dc210 pm210 cd210 ct210 : Value}
    {f211 : Addr}
    {od214 an214 : Option Addr} {sl214 : Array (Option Value)} {oc214 kV214 dc214 pm214 cd214 ct214 : Value}
    {f215 : Addr}
    {od218 an218 : Option Addr} {sl218 : Array (Option Value)} {oc218 kV218 dc218 pm218 cd218 ct218 : Value}
    {f219 : Addr}
    {od222 an222 : Option Addr} {sl222 : Array (Option Value)} {oc222 kV222 dc222 pm222 cd222 ct222 : Value}
    {f223 : Addr}
    {od226 an226 : Option Addr} {sl226 : Array (Option Value)} {oc226 kV226 dc226 pm226 cd226 ct226 : Value}
    {f227 : Addr}
    {od230 an230 : Option Addr} {sl230 : Array (Option Value)} {oc230 kV230 dc230 pm230 cd230 ct230 : Value}
    {f231 : Addr}
    {od234 an234 : Option Addr} {sl234 : Array (Option Value)} {oc234 kV234 dc234 pm234 cd234 ct234 : Value}
    {f235 : Addr}
    {od238 an238 : Option Addr} {sl238 : Array (Option Value)} {oc238 dc238 pm238 cd238 ct238 : Value}
    {T239 : Addr} {oc240 : Value} {od241 : Option Addr} {on242 : Nat} {os243 : Array (Option Value)}
    {D246 : Addr}
    {f249 : Addr}
    {od252 an252 : Option Addr} {sl252 : Array (Option Value)} {oc252 dc252 pm252 cd252 ct252 : Value}
    {T253 : Addr} {oc254 : Value} {od255 : Option Addr} {on256 : Nat} {os257 : Array (Option Value)}
    {t258 : Tok}
    {kV252 : Value}
    {f260 p261 : Addr} {rs262 : List Value}
    {od267 an267 : Option Addr} {sl267 : Array (Option Value)} {oc267 kV267 dc267 pm267 cd267 ct267 : Value}
    {f268 p269 : Addr} {rs270 : List Value}
    {od275 an275 : Option Addr} {sl275 : Array (Option Value)} {oc275 kV275 dc275 pm275 cd275 ct275 : Value}
    {f276 p277 : Addr} {rs278 : List Value}
    {od283 an283 : Option Addr} {sl283 : Array (Option Value)} {oc283 kV283 dc283 pm283 cd283 ct283 : Value}
    {f284 p285 : Addr} {rs286 : List Value}
    {od291 an291 : Option Addr} {sl291 : Array (Option Value)} {oc291 kV291 dc291 pm291 cd291 ct291 : Value}
    {f292 p293 : Addr} {rs294 : List Value}
    {od299 an299 : Option Addr} {sl299 : Array (Option Value)} {oc299 kV299 dc299 pm299 cd299 ct299 : Value}
    {f300 : Addr}
    {od302 an302 : Option Addr} {sl302 : Array (Option Value)} {oc302 kV302 dc302 pm302 cd302 ct302 : Value}
    {f303 : Addr}
    {od305 an305 : Option Addr} {sl305 : Array (Option Value)} {oc305 kV305 dc305 pm305 cd305 ct305 : Value}
    {f306 : Addr}
    {od308 an308 : Option Addr} {sl308 : Array (Option Value)} {oc308 kV308 dc308 pm308 cd308 ct308 : Value}
    {f309 : Addr}
    {od311 an311 : Option Addr} {sl311 : Array (Option Value)} {oc311 kV311 dc311 pm311 cd311 ct311 : Value}
    {f312 : Addr}
    {od314 an314 : Option Addr} {sl314 : Array (Option Value)} {oc314 kV314 dc314 pm314 cd314 ct314 : Value}
    {f315 : Addr}
    {od317 an317 : Option Addr} {sl317 : Array (Option Value)} {oc317 kV317 dc317 pm317 cd317 ct317 : Value}
    {f318 : Addr}
    {od320 an320 : Option Addr} {sl320 : Array (Option Value)} {oc320 kV320 dc320 pm320 cd320 ct320 : Value}
    {f321 : Addr}
    {od323 an323 : Option Addr} {sl323 : Array (Option Value)} {oc323 kV323 dc323 pm323 cd323 ct323 : Value}
    {f324 : Addr}
    {od326 an326 : Option Addr} {sl326 : Array (Option Value)} {oc326 kV326 dc326 pm326 cd326 ct326 : Value}
    {od327 an327 : Option Addr} {sl327 : Array (Option Value)} {oc327 kV327 dc327 pm327 cd327 ct327 : Value}
    (a0 : PySem.W.nsIn K mainGlobals "law" = some (some (.ref f0)))
    (a2 : PySem.W.nsIn K mainGlobals "Mode" = some (some (.ref C1)))
    (r3 : PySem.W.readsIn K C1 (.type "type") = true)
    (s4 : PySem.W.specialIn K (.ref C1) "__getattribute__" = some (some (.builtin "type.__getattribute__")))
    (z5 : PySem.W.findCls K (.ref C1) (.type "type") "JOIN" = some (.val (.str "join" t6)))
    (z7 : PySem.W.findCls K (.ref C1) (.type "type") "INNER" = some (.val (.str "inner" t8)))
    (z9 : PySem.W.findCls K (.ref C1) (.type "type") "APART" = some (.val (.str "apart" t10)))
    (z11 : PySem.W.findCls K (.ref C1) (.type "type") "MUST" = some (.val (.str "must" t12)))
    (z13 : PySem.W.findCls K (.ref C1) (.type "type") "EITHER" = some (.val (.str "either" t14)))
    (z15 : PySem.W.findCls K (.ref C1) (.type "type") "NEVER" = some (.val (.str "never" t16)))
    (z17 : PySem.W.findCls K (.ref C1) (.type "type") "OUTSIDE" = some (.val (.str "outside" t18)))
    (z19 : PySem.W.findCls K (.ref C1) (.type "type") "ALONE" = some (.val (.str "alone" t20)))
    (z21 : PySem.W.findCls K (.ref C1) (.type "type") "ALL" = some (.val (.ref p22)))
    (l23 : K.lookup p22 = some ⟨.type "tuple", dd32, .seq #[.str "join" t24, .str "inner" t25, .str "apart" t26, .str "must" t27, .str "either" t28, .str "never" t29, .str "outside" t30, .str "alone" t31] nn33, sl34⟩)
    (z37 : PySem.W.findCls K (.ref C1) (.type "type") "is_mode" = some (.get (.builtin "staticmethod.__get__") (.ref p36) .none (.ref C1)))
    (r38 : PySem.W.recIn K p36 "staticmethod" = some (.ref f35 :: rs39))
    (l40 : K.lookup f35 = some ⟨oc40, od40, .func (PySem.W.fnOf "is_mode" "Mode.is_mode" (defArgs s_Mode_is_mode) (defBody s_Mode_is_mode) (defScope s_Mode_is_mode) .none kV40 dc40 pm40 an40 cd40 ct40), sl40⟩)
    (c40 : PySem.W.codeIn K cd40 "Mode.is_mode" = true)
    (k40 : PySem.W.keepIn K (.ref f35) = true)
    (a42 : PySem.W.nsIn K mainGlobals "is_word" = some (some (.ref f41)))
    (l43 : K.lookup f41 = some ⟨oc43, od43, .func (PySem.W.fnOf "is_word" "is_word" (defArgs s_is_word) (defBody s_is_word) (defScope s_is_word) .none kV43 dc43 pm43 an43 cd43 ct43), sl43⟩)
    (c43 : PySem.W.codeIn K cd43 "is_word" = true)
    (k43 : PySem.W.keepIn K (.ref f41) = true)
    (z44 : PySem.W.nsIn K cStatics "thirdparty.any" = some none)
    (a46 : PySem.W.nsIn K mainGlobals "Missing" = some (some (.ref C45)))
    (e49 : K.lookup C45 = some (excClassObj nm48 qn48 C45 N48 bs48 bm48 true sn48 sub48 ab48 col48 dd48 k048 k148 k248 k348 k548 "ValueError.__new__"))
    (e50 : PySem.HandSPX.refsVE bm48 = true)
    (e51 : PySem.W.findIn K (.ref C45) "__setattr__" = some (some (.builtin "object.__setattr__")))
    (e52 : PySem.W.findIn K (.ref C45) "__getattribute__" = some (some (.builtin "BaseException.__getattribute__")))
    (e53 : PySem.W.findIn K (.ref C45) "__getattr__" = some none)
    (e54 : PySem.W.findIn K (.ref C45) "__init__" = some (some (.ref f47)))
    (e55 : PySem.W.typeIn K (.ref f47) = some (.type "function"))
    (e56 : PySem.W.keepIn K (.ref C45) = true)
    (e57 : PySem.W.subIn K (.ref C45) (.type "BaseException") = some true)
    (e58 : PySem.W.subIn K (.ref C45) (.type "ValueError") = some true)
    (e59 : PySem.W.typeIn K (.ref C45) = some (.type "type"))
    (e60 : PySem.W.hasDictIn K C45 = true)
    (e61 : PySem.W.ks_superIn K C45 C45 "__init__" = some (some (.builtin "ValueError.__init__")))
    (e62 : PySem.W.mroIn K C45 (.ref C45) = some true)
    (e63 : PySem.W.exmOne K (.ref C45) (.ref C45) = some true)
    (e64 : K.lookup f47 = some ⟨oc48, od48, .func (PySem.W.ksFn "__init__" "Missing.__init__" (defArgs s_MissingU_initU) (defBody s_MissingU_initU) (defScope s_MissingU_initU) .none .none doc48 pm48 an48 (.ref cda48) ct48 cc48), osl48⟩)
    (e65 : PySem.W.codeIn K (.ref cda48) "Missing.__init__" = true)
    (e66 : K.lookup cda48 = some ⟨ccl48, cdd48, .fields vs48, ccs48⟩)
    (e67 : vs48[2]? = some (.str P.main.file tf48))
    (e68 : K.lookup cc48 = some ⟨cl48, cld48, .cell (some (.ref C45)), csl48⟩)
    (e69 : PySem.W.findIn K (.ref C45) "word" = some none)
    (e70 : PySem.W.findIn K (.ref C45) "mode" = some none)
    (a72 : PySem.W.nsIn K mainGlobals "Present" = some (some (.ref C71)))
    (e75 : K.lookup C71 = some (excClassObj nm74 qn74 C71 N74 bs74 bm74 true sn74 sub74 ab74 col74 dd74 k074 k174 k274 k374 k574 "ValueError.__new__"))
    (e76 : PySem.HandSPX.refsVE bm74 = true)
    (e77 : PySem.W.findIn K (.ref C71) "__setattr__" = some (some (.builtin "object.__setattr__")))
    (e78 : PySem.W.findIn K (.ref C71) "__getattribute__" = some (some (.builtin "BaseException.__getattribute__")))
    (e79 : PySem.W.findIn K (.ref C71) "__getattr__" = some none)
    (e80 : PySem.W.findIn K (.ref C71) "__init__" = some (some (.ref f73)))
    (e81 : PySem.W.typeIn K (.ref f73) = some (.type "function"))
    (e82 : PySem.W.keepIn K (.ref C71) = true)
    (e83 : PySem.W.subIn K (.ref C71) (.type "BaseException") = some true)
    (e84 : PySem.W.subIn K (.ref C71) (.type "ValueError") = some true)
    (e85 : PySem.W.typeIn K (.ref C71) = some (.type "type"))
    (e86 : PySem.W.hasDictIn K C71 = true)
    (e87 : PySem.W.ks_superIn K C71 C71 "__init__" = some (some (.builtin "ValueError.__init__")))
    (e88 : PySem.W.mroIn K C71 (.ref C71) = some true)
    (e89 : PySem.W.exmOne K (.ref C71) (.ref C71) = some true)
    (e90 : K.lookup f73 = some ⟨oc74, od74, .func (PySem.W.ksFn "__init__" "Present.__init__" (defArgs s_PresentU_initU) (defBody s_PresentU_initU) (defScope s_PresentU_initU) .none .none doc74 pm74 an74 (.ref cda74) ct74 cc74), osl74⟩)
    (e91 : PySem.W.codeIn K (.ref cda74) "Present.__init__" = true)
    (e92 : K.lookup cda74 = some ⟨ccl74, cdd74, .fields vs74, ccs74⟩)
    (e93 : vs74[2]? = some (.str P.main.file tf74))
    (e94 : K.lookup cc74 = some ⟨cl74, cld74, .cell (some (.ref C71)), csl74⟩)
    (e95 : PySem.W.findIn K (.ref C71) "word" = some none)
    (e96 : PySem.W.findIn K (.ref C71) "mode" = some none)
    (a98 : PySem.W.nsIn K mainGlobals "Doomed" = some (some (.ref C97)))
    (e101 : K.lookup C97 = some (excClassObj nm100 qn100 C97 N100 bs100 bm100 true sn100 sub100 ab100 col100 dd100 k0100 k1100 k2100 k3100 k5100 "ValueError.__new__"))
    (e102 : PySem.HandSPX.refsVE bm100 = true)
    (e103 : PySem.W.findIn K (.ref C97) "__setattr__" = some (some (.builtin "object.__setattr__")))
    (e104 : PySem.W.findIn K (.ref C97) "__getattribute__" = some (some (.builtin "BaseException.__getattribute__")))
    (e105 : PySem.W.findIn K (.ref C97) "__getattr__" = some none)
    (e106 : PySem.W.findIn K (.ref C97) "__init__" = some (some (.ref f99)))
    (e107 : PySem.W.typeIn K (.ref f99) = some (.type "function"))
    (e108 : PySem.W.keepIn K (.ref C97) = true)
    (e109 : PySem.W.subIn K (.ref C97) (.type "BaseException") = some true)
    (e110 : PySem.W.subIn K (.ref C97) (.type "ValueError") = some true)
    (e111 : PySem.W.typeIn K (.ref C97) = some (.type "type"))
    (e112 : PySem.W.hasDictIn K C97 = true)
    (e113 : PySem.W.ks_superIn K C97 C97 "__init__" = some (some (.builtin "ValueError.__init__")))
    (e114 : PySem.W.mroIn K C97 (.ref C97) = some true)
    (e115 : PySem.W.exmOne K (.ref C97) (.ref C97) = some true)
    (e116 : K.lookup f99 = some ⟨oc100, od100, .func (PySem.W.ksFn "__init__" "Doomed.__init__" (defArgs s_DoomedU_initU) (defBody s_DoomedU_initU) (defScope s_DoomedU_initU) .none .none doc100 pm100 an100 (.ref cda100) ct100 cc100), osl100⟩)
    (e117 : PySem.W.codeIn K (.ref cda100) "Doomed.__init__" = true)
    (e118 : K.lookup cda100 = some ⟨ccl100, cdd100, .fields vs100, ccs100⟩)
    (e119 : vs100[2]? = some (.str P.main.file tf100))
    (e120 : K.lookup cc100 = some ⟨cl100, cld100, .cell (some (.ref C97)), csl100⟩)
    (e121 : PySem.W.findIn K (.ref C97) "word" = some none)
    (e122 : PySem.W.findIn K (.ref C97) "first" = some none)
    (a124 : PySem.W.nsIn K mainGlobals "Refused" = some (some (.ref C123)))
    (e127 : K.lookup C123 = some (excClassObj nm126 qn126 C123 N126 bs126 bm126 true sn126 sub126 ab126 col126 dd126 k0126 k1126 k2126 k3126 k5126 "ValueError.__new__"))
    (e128 : PySem.HandSPX.refsVE bm126 = true)
    (e129 : PySem.W.findIn K (.ref C123) "__setattr__" = some (some (.builtin "object.__setattr__")))
    (e130 : PySem.W.findIn K (.ref C123) "__getattribute__" = some (some (.builtin "BaseException.__getattribute__")))
    (e131 : PySem.W.findIn K (.ref C123) "__getattr__" = some none)
    (e132 : PySem.W.findIn K (.ref C123) "__init__" = some (some (.ref f125)))
    (e133 : PySem.W.typeIn K (.ref f125) = some (.type "function"))
    (e134 : PySem.W.keepIn K (.ref C123) = true)
    (e135 : PySem.W.subIn K (.ref C123) (.type "BaseException") = some true)
    (e136 : PySem.W.subIn K (.ref C123) (.type "ValueError") = some true)
    (e137 : PySem.W.typeIn K (.ref C123) = some (.type "type"))
    (e138 : PySem.W.hasDictIn K C123 = true)
    (e139 : PySem.W.ks_superIn K C123 C123 "__init__" = some (some (.builtin "ValueError.__init__")))
    (e140 : PySem.W.mroIn K C123 (.ref C123) = some true)
    (e141 : PySem.W.exmOne K (.ref C123) (.ref C123) = some true)
    (e142 : K.lookup f125 = some ⟨oc126, od126, .func (PySem.W.ksFn "__init__" "Refused.__init__" (defArgs s_RefusedU_initU) (defBody s_RefusedU_initU) (defScope s_RefusedU_initU) .none .none doc126 pm126 an126 (.ref cda126) ct126 cc126), osl126⟩)
    (e143 : PySem.W.codeIn K (.ref cda126) "Refused.__init__" = true)
    (e144 : K.lookup cda126 = some ⟨ccl126, cdd126, .fields vs126, ccs126⟩)
    (e145 : vs126[2]? = some (.str P.main.file tf126))
    (e146 : K.lookup cc126 = some ⟨cl126, cld126, .cell (some (.ref C123)), csl126⟩)
    (e147 : PySem.W.findIn K (.ref C123) "word" = some none)
    (a149 : PySem.W.nsIn K mainGlobals "NoBlock" = some (some (.ref C148)))
    (e152 : K.lookup C148 = some (excClassObj nm151 qn151 C148 N151 bs151 bm151 true sn151 sub151 ab151 col151 dd151 k0151 k1151 k2151 k3151 k5151 "ValueError.__new__"))
    (e153 : PySem.HandSPX.refsVE bm151 = true)
    (e154 : PySem.W.findIn K (.ref C148) "__setattr__" = some (some (.builtin "object.__setattr__")))
    (e155 : PySem.W.findIn K (.ref C148) "__getattribute__" = some (some (.builtin "BaseException.__getattribute__")))
    (e156 : PySem.W.findIn K (.ref C148) "__getattr__" = some none)
    (e157 : PySem.W.findIn K (.ref C148) "__init__" = some (some (.ref f150)))
    (e158 : PySem.W.typeIn K (.ref f150) = some (.type "function"))
    (e159 : PySem.W.keepIn K (.ref C148) = true)
    (e160 : PySem.W.subIn K (.ref C148) (.type "BaseException") = some true)
    (e161 : PySem.W.subIn K (.ref C148) (.type "ValueError") = some true)
    (e162 : PySem.W.typeIn K (.ref C148) = some (.type "type"))
    (e163 : PySem.W.hasDictIn K C148 = true)
    (e164 : PySem.W.ks_superIn K C148 C148 "__init__" = some (some (.builtin "ValueError.__init__")))
    (e165 : PySem.W.mroIn K C148 (.ref C148) = some true)
    (e166 : PySem.W.exmOne K (.ref C148) (.ref C148) = some true)
    (e167 : K.lookup f150 = some ⟨oc151, od151, .func (PySem.W.ksFn "__init__" "NoBlock.__init__" (defArgs s_NoBlockU_initU) (defBody s_NoBlockU_initU) (defScope s_NoBlockU_initU) .none .none doc151 pm151 an151 (.ref cda151) ct151 cc151), osl151⟩)
    (e168 : PySem.W.codeIn K (.ref cda151) "NoBlock.__init__" = true)
    (e169 : K.lookup cda151 = some ⟨ccl151, cdd151, .fields vs151, ccs151⟩)
    (e170 : vs151[2]? = some (.str P.main.file tf151))
    (e171 : K.lookup cc151 = some ⟨cl151, cld151, .cell (some (.ref C148)), csl151⟩)
    (z172 : PySem.W.exmOne K (.ref C71) (.ref C45) = some false)
    (z173 : PySem.W.exmOne K (.ref C97) (.ref C45) = some false)
    (z174 : PySem.W.exmOne K (.ref C97) (.ref C71) = some false)
    (z175 : PySem.W.exmOne K (.ref C123) (.ref C97) = some false)
    (z176 : PySem.W.exmOne K (.ref C148) (.ref C97) = some false)
    (z177 : PySem.W.exmOne K (.ref C148) (.ref C123) = some false)
    (a179 : PySem.W.nsIn K mainGlobals "Write" = some (some (.ref C178)))
    (a181 : PySem.W.nsIn K mainGlobals "Transaction" = some (some (.ref C180)))
    (q182 : PySem.W.plainGet K C180 Str.empty = true)
    (q183 : PySem.W.hasDictIn K C180 = true)
    (q184 : PySem.W.plainOver K C180 = true)
    (q185 : PySem.W.findIn K (.ref C180) "__setattr__" = some (some (.builtin "object.__setattr__")))
    (z186 : PySem.W.findIn K (.ref C180) "number" = some none)
    (z187 : PySem.W.findIn K (.ref C180) "reasons" = some none)
    (q189 : PySem.W.makesIn K C180 = true)
    (q190 : PySem.W.findIn K (.ref C180) "__init__" = some (some (.ref f188)))
    (q191 : PySem.W.isFn K (.ref f188) = true)
    (q192 : PySem.W.keepIn K (.ref C180) = true)
    (l193 : K.lookup f188 = some ⟨oc193, od193, .func (PySem.W.fnOf "__init__" "Transaction.__init__" (defArgs s_TransactionU_initU) (defBody s_TransactionU_initU) (defScope s_TransactionU_initU) .none kV193 dc193 pm193 an193 cd193 ct193), sl193⟩)
    (c193 : PySem.W.codeIn K cd193 "Transaction.__init__" = true)
    (k193 : PySem.W.keepIn K (.ref f188) = true)
    (a195 : PySem.W.nsIn K mainGlobals "Database" = some (some (.ref C194)))
    (q196 : PySem.W.plainGet K C194 Str.empty = true)
    (q197 : PySem.W.hasDictIn K C194 = true)
    (q198 : PySem.W.plainOver K C194 = true)
    (q199 : PySem.W.findIn K (.ref C194) "__setattr__" = some (some (.builtin "object.__setattr__")))
    (z200 : PySem.W.findIn K (.ref C194) "rows" = some none)
    (z201 : PySem.W.findIn K (.ref C194) "stack" = some none)
    (z202 : PySem.W.findIn K (.ref C194) "entered" = some none)
    (z203 : PySem.W.findIn K (.ref C194) "floor" = some none)
    (z204 : PySem.W.findIn K (.ref C194) "opened" = some none)
    (q206 : PySem.W.makesIn K C194 = true)
    (q207 : PySem.W.findIn K (.ref C194) "__init__" = some (some (.ref f205)))
    (q208 : PySem.W.isFn K (.ref f205) = true)
    (q209 : PySem.W.keepIn K (.ref C194) = true)
    (l210 : K.lookup f205 = some ⟨oc210, od210, .func (PySem.W.fnOf "__init__" "Database.__init__" (defArgs s_DatabaseU_initU) (defBody s_DatabaseU_initU) (defScope s_DatabaseU_initU) .none kV210 dc210 pm210 an210 cd210 ct210), sl210⟩)
    (c210 : PySem.W.codeIn K cd210 "Database.__init__" = true)
    (k210 : PySem.W.keepIn K (.ref f205) = true)
    (q212 : PySem.W.findIn K (.ref C194) "begin" = some (some (.ref f211)))
    (q213 : PySem.W.isFn K (.ref f211) = true)
    (l214 : K.lookup f211 = some ⟨oc214, od214, .func (PySem.W.fnOf "begin" "Database.begin" (defArgs s_Database_begin) (defBody s_Database_begin) (defScope s_Database_begin) .none kV214 dc214 pm214 an214 cd214 ct214), sl214⟩)
    (c214 : PySem.W.codeIn K cd214 "Database.begin" = true)
    (k214 : PySem.W.keepIn K (.ref f211) = true)
    (q216 : PySem.W.findIn K (.ref C194) "enter_alone" = some (some (.ref f215)))
    (q217 : PySem.W.isFn K (.ref f215) = true)
    (l218 : K.lookup f215 = some ⟨oc218, od218, .func (PySem.W.fnOf "enter_alone" "Database.enter_alone" (defArgs s_Database_enter_alone) (defBody s_Database_enter_alone) (defScope s_Database_enter_alone) .none kV218 dc218 pm218 an218 cd218 ct218), sl218⟩)
    (c218 : PySem.W.codeIn K cd218 "Database.enter_alone" = true)
    (k218 : PySem.W.keepIn K (.ref f215) = true)
    (q220 : PySem.W.findIn K (.ref C194) "enter_inside" = some (some (.ref f219)))
    (q221 : PySem.W.isFn K (.ref f219) = true)
    (l222 : K.lookup f219 = some ⟨oc222, od222, .func (PySem.W.fnOf "enter_inside" "Database.enter_inside" (defArgs s_Database_enter_inside) (defBody s_Database_enter_inside) (defScope s_Database_enter_inside) .none kV222 dc222 pm222 an222 cd222 ct222), sl222⟩)
    (c222 : PySem.W.codeIn K cd222 "Database.enter_inside" = true)
    (k222 : PySem.W.keepIn K (.ref f219) = true)
    (q224 : PySem.W.findIn K (.ref C194) "enter" = some (some (.ref f223)))
    (q225 : PySem.W.isFn K (.ref f223) = true)
    (l226 : K.lookup f223 = some ⟨oc226, od226, .func (PySem.W.fnOf "enter" "Database.enter" (defArgs s_Database_enter) (defBody s_Database_enter) (defScope s_Database_enter) .none kV226 dc226 pm226 an226 cd226 ct226), sl226⟩)
    (c226 : PySem.W.codeIn K cd226 "Database.enter" = true)
    (k226 : PySem.W.keepIn K (.ref f223) = true)
    (q228 : PySem.W.findIn K (.ref C194) "end_level" = some (some (.ref f227)))
    (q229 : PySem.W.isFn K (.ref f227) = true)
    (l230 : K.lookup f227 = some ⟨oc230, od230, .func (PySem.W.fnOf "end_level" "Database.end_level" (defArgs s_Database_end_level) (defBody s_Database_end_level) (defScope s_Database_end_level) .none kV230 dc230 pm230 an230 cd230 ct230), sl230⟩)
    (c230 : PySem.W.codeIn K cd230 "Database.end_level" = true)
    (k230 : PySem.W.keepIn K (.ref f227) = true)
    (q232 : PySem.W.findIn K (.ref C194) "end_transaction" = some (some (.ref f231)))
    (q233 : PySem.W.isFn K (.ref f231) = true)
    (l234 : K.lookup f231 = some ⟨oc234, od234, .func (PySem.W.fnOf "end_transaction" "Database.end_transaction" (defArgs s_Database_end_transaction) (defBody s_Database_end_transaction) (defScope s_Database_end_transaction) .none kV234 dc234 pm234 an234 cd234 ct234), sl234⟩)
    (c234 : PySem.W.codeIn K cd234 "Database.end_transaction" = true)
    (k234 : PySem.W.keepIn K (.ref f231) = true)
    (q236 : PySem.W.findIn K (.ref C194) "leave" = some (some (.ref f235)))
    (q237 : PySem.W.isFn K (.ref f235) = true)
    (l238 : K.lookup f235 = some ⟨oc238, od238, .func (PySem.W.fnOf "leave" "Database.leave" (defArgs s_Database_leave) (defBody s_Database_leave) (defScope s_Database_leave) (.ref T239) (.ref D246) dc238 pm238 an238 cd238 ct238), sl238⟩)
    (c238 : PySem.W.codeIn K cd238 "Database.leave" = true)
    (k238 : PySem.W.keepIn K (.ref f235) = true)
    (lT245 : K.lookup T239 = some ⟨oc240, od241, .seq #[.none] on242, os243⟩)
    (z248 : PySem.W.nsIn K D246 "commits" = some (some (.bool true)))
    (q250 : PySem.W.findIn K (.ref C194) "doom" = some (some (.ref f249)))
    (q251 : PySem.W.isFn K (.ref f249) = true)
    (l252 : K.lookup f249 = some ⟨oc252, od252, .func (PySem.W.fnOf "doom" "Database.doom" (defArgs s_Database_doom) (defBody s_Database_doom) (defScope s_Database_doom) (.ref T253) kV252 dc252 pm252 an252 cd252 ct252), sl252⟩)
    (c252 : PySem.W.codeIn K cd252 "Database.doom" = true)
    (k252 : PySem.W.keepIn K (.ref f249) = true)
    (lT259 : K.lookup T253 = some ⟨oc254, od255, .seq #[.str "doom" t258] on256, os257⟩)
    (q263 : PySem.W.findIn K (.ref C194) "is_open" = some (some (.ref p261)))
    (q264 : PySem.W.specialIn K (.ref p261) "__get__" = some (some (.builtin "property.__get__")))
    (q265 : PySem.W.takesIn K (.ref p261) = some true)
    (q266 : PySem.W.recIn K p261 "property" = some (.ref f260 :: rs262))
    (l267 : K.lookup f260 = some ⟨oc267, od267, .func (PySem.W.fnOf "is_open" "Database.is_open" (defArgs s_Database_is_open) (defBody s_Database_is_open) (defScope s_Database_is_open) .none kV267 dc267 pm267 an267 cd267 ct267), sl267⟩)
    (c267 : PySem.W.codeIn K cd267 "Database.is_open" = true)
    (k267 : PySem.W.keepIn K (.ref f260) = true)
    (q271 : PySem.W.findIn K (.ref C194) "is_doomed" = some (some (.ref p269)))
    (q272 : PySem.W.specialIn K (.ref p269) "__get__" = some (some (.builtin "property.__get__")))
    (q273 : PySem.W.takesIn K (.ref p269) = some true)
    (q274 : PySem.W.recIn K p269 "property" = some (.ref f268 :: rs270))
    (l275 : K.lookup f268 = some ⟨oc275, od275, .func (PySem.W.fnOf "is_doomed" "Database.is_doomed" (defArgs s_Database_is_doomed) (defBody s_Database_is_doomed) (defScope s_Database_is_doomed) .none kV275 dc275 pm275 an275 cd275 ct275), sl275⟩)
    (c275 : PySem.W.codeIn K cd275 "Database.is_doomed" = true)
    (k275 : PySem.W.keepIn K (.ref f268) = true)
    (q279 : PySem.W.findIn K (.ref C194) "reason" = some (some (.ref p277)))
    (q280 : PySem.W.specialIn K (.ref p277) "__get__" = some (some (.builtin "property.__get__")))
    (q281 : PySem.W.takesIn K (.ref p277) = some true)
    (q282 : PySem.W.recIn K p277 "property" = some (.ref f276 :: rs278))
    (l283 : K.lookup f276 = some ⟨oc283, od283, .func (PySem.W.fnOf "reason" "Database.reason" (defArgs s_Database_reason) (defBody s_Database_reason) (defScope s_Database_reason) .none kV283 dc283 pm283 an283 cd283 ct283), sl283⟩)
    (c283 : PySem.W.codeIn K cd283 "Database.reason" = true)
    (k283 : PySem.W.keepIn K (.ref f276) = true)
    (q287 : PySem.W.findIn K (.ref C194) "levels" = some (some (.ref p285)))
    (q288 : PySem.W.specialIn K (.ref p285) "__get__" = some (some (.builtin "property.__get__")))
    (q289 : PySem.W.takesIn K (.ref p285) = some true)
    (q290 : PySem.W.recIn K p285 "property" = some (.ref f284 :: rs286))
    (l291 : K.lookup f284 = some ⟨oc291, od291, .func (PySem.W.fnOf "levels" "Database.levels" (defArgs s_Database_levels) (defBody s_Database_levels) (defScope s_Database_levels) .none kV291 dc291 pm291 an291 cd291 ct291), sl291⟩)
    (c291 : PySem.W.codeIn K cd291 "Database.levels" = true)
    (k291 : PySem.W.keepIn K (.ref f284) = true)
    (q295 : PySem.W.findIn K (.ref C194) "depth" = some (some (.ref p293)))
    (q296 : PySem.W.specialIn K (.ref p293) "__get__" = some (some (.builtin "property.__get__")))
    (q297 : PySem.W.takesIn K (.ref p293) = some true)
    (q298 : PySem.W.recIn K p293 "property" = some (.ref f292 :: rs294))
    (l299 : K.lookup f292 = some ⟨oc299, od299, .func (PySem.W.fnOf "depth" "Database.depth" (defArgs s_Database_depth) (defBody s_Database_depth) (defScope s_Database_depth) .none kV299 dc299 pm299 an299 cd299 ct299), sl299⟩)
    (c299 : PySem.W.codeIn K cd299 "Database.depth" = true)
    (k299 : PySem.W.keepIn K (.ref f292) = true)
    (a301 : PySem.W.nsIn K mainGlobals "_law_pool" = some (some (.ref f300)))
    (l302 : K.lookup f300 = some ⟨oc302, od302, .func (PySem.W.fnOf "_law_pool" "_law_pool" (defArgs s_law_pool) (defBody s_law_pool) (defScope s_law_pool) .none kV302 dc302 pm302 an302 cd302 ct302), sl302⟩)
    (c302 : PySem.W.codeIn K cd302 "_law_pool" = true)
    (k302 : PySem.W.keepIn K (.ref f300) = true)
    (a304 : PySem.W.nsIn K mainGlobals "_law_draw" = some (some (.ref f303)))
    (l305 : K.lookup f303 = some ⟨oc305, od305, .func (PySem.W.fnOf "_law_draw" "_law_draw" (defArgs s_law_draw) (defBody s_law_draw) (defScope s_law_draw) .none kV305 dc305 pm305 an305 cd305 ct305), sl305⟩)
    (c305 : PySem.W.codeIn K cd305 "_law_draw" = true)
    (k305 : PySem.W.keepIn K (.ref f303) = true)
    (a307 : PySem.W.nsIn K mainGlobals "_law_word" = some (some (.ref f306)))
    (l308 : K.lookup f306 = some ⟨oc308, od308, .func (PySem.W.fnOf "_law_word" "_law_word" (defArgs s_law_word) (defBody s_law_word) (defScope s_law_word) .none kV308 dc308 pm308 an308 cd308 ct308), sl308⟩)
    (c308 : PySem.W.codeIn K cd308 "_law_word" = true)
    (k308 : PySem.W.keepIn K (.ref f306) = true)
    (a310 : PySem.W.nsIn K mainGlobals "_law_sort" = some (some (.ref f309)))
    (l311 : K.lookup f309 = some ⟨oc311, od311, .func (PySem.W.fnOf "_law_sort" "_law_sort" (defArgs s_law_sort) (defBody s_law_sort) (defScope s_law_sort) .none kV311 dc311 pm311 an311 cd311 ct311), sl311⟩)
    (c311 : PySem.W.codeIn K cd311 "_law_sort" = true)
    (k311 : PySem.W.keepIn K (.ref f309) = true)
    (a313 : PySem.W.nsIn K mainGlobals "_law_enter" = some (some (.ref f312)))
    (l314 : K.lookup f312 = some ⟨oc314, od314, .func (PySem.W.fnOf "_law_enter" "_law_enter" (defArgs s_law_enter) (defBody s_law_enter) (defScope s_law_enter) .none kV314 dc314 pm314 an314 cd314 ct314), sl314⟩)
    (c314 : PySem.W.codeIn K cd314 "_law_enter" = true)
    (k314 : PySem.W.keepIn K (.ref f312) = true)
    (a316 : PySem.W.nsIn K mainGlobals "_law_leave" = some (some (.ref f315)))
    (l317 : K.lookup f315 = some ⟨oc317, od317, .func (PySem.W.fnOf "_law_leave" "_law_leave" (defArgs s_law_leave) (defBody s_law_leave) (defScope s_law_leave) .none kV317 dc317 pm317 an317 cd317 ct317), sl317⟩)
    (c317 : PySem.W.codeIn K cd317 "_law_leave" = true)
    (k317 : PySem.W.keepIn K (.ref f315) = true)
    (a319 : PySem.W.nsIn K mainGlobals "_law_left" = some (some (.ref f318)))
    (l320 : K.lookup f318 = some ⟨oc320, od320, .func (PySem.W.fnOf "_law_left" "_law_left" (defArgs s_law_left) (defBody s_law_left) (defScope s_law_left) .none kV320 dc320 pm320 an320 cd320 ct320), sl320⟩)
    (c320 : PySem.W.codeIn K cd320 "_law_left" = true)
    (k320 : PySem.W.keepIn K (.ref f318) = true)
    (a322 : PySem.W.nsIn K mainGlobals "_law_shows" = some (some (.ref f321)))
    (l323 : K.lookup f321 = some ⟨oc323, od323, .func (PySem.W.fnOf "_law_shows" "_law_shows" (defArgs s_law_shows) (defBody s_law_shows) (defScope s_law_shows) .none kV323 dc323 pm323 an323 cd323 ct323), sl323⟩)
    (c323 : PySem.W.codeIn K cd323 "_law_shows" = true)
    (k323 : PySem.W.keepIn K (.ref f321) = true)
    (a325 : PySem.W.nsIn K mainGlobals "_law_step" = some (some (.ref f324)))
    (l326 : K.lookup f324 = some ⟨oc326, od326, .func (PySem.W.fnOf "_law_step" "_law_step" (defArgs s_law_step) (defBody s_law_step) (defScope s_law_step) .none kV326 dc326 pm326 an326 cd326 ct326), sl326⟩)
    (c326 : PySem.W.codeIn K cd326 "_law_step" = true)
    (k326 : PySem.W.keepIn K (.ref f324) = true)
    (l327 : K.lookup f0 = some ⟨oc327, od327, .func (PySem.W.fnOf "law" "law" (defArgs s_law) (defBody s_law) (defScope s_law) .none kV327 dc327 pm327 an327 cd327 ct327), sl327⟩)
    (c327 : PySem.W.codeIn K cd327 "law" = true)
    (k327 : PySem.W.keepIn K (.ref f0) = true)
    (z328 : PySem.W.nsIn K mainGlobals "isinstance" = some none)
    (z329 : PySem.W.nsIn K mainGlobals "str" = some none)
    (z330 : PySem.W.nsIn K mainGlobals "len" = some none)
    (z331 : PySem.W.nsIn K mainGlobals "super" = some none)
    (z332 : PySem.W.nsIn K mainGlobals "abs" = some none)
    (z333 : PySem.W.nsIn K mainGlobals "int" = some none)
    (z334 : PySem.W.nsIn K mainGlobals "range" = some none)
    (z335 : PySem.W.nsIn K mainGlobals "repr" = some none)
    (z336 : PySem.W.nsIn K mainGlobals "max" = some none)
    (z337 : PySem.W.nsIn K mainGlobals "min" = some none)
    : ∃ fd : FuncData, (∀ (s : Shared) (v : Value), BindsTo s fd ⟨[v], []⟩ [("_law_script", v)]) ∧ ∀ base : Heap, K.In base → base.Ns mainGlobals mg → FnG P w K mg base CX0 9 fa fd ["_law_script"] (spLaw K) := by
  have e := hfa0.symm.trans (PySem.W.mg_of X G a0)
  cases e
  exact all_mk X G hfa0 a2 r3 s4 z5 z7 z9 z11 z13 z15 z17 z19 z21 l23 z37 r38 l40 c40 k40 a42 l43 c43 k43 z44 a46 e49 e50 e51 e52 e53 e54 e55 e56 e57 e58 e59 e60 e61 e62 e63 e64 e65 e66 e67 e68 e69 e70 a72 e75 e76 e77 e78 e79 e80 e81 e82 e83 e84 e85 e86 e87 e88 e89 e90 e91 e92 e93 e94 e95 e96 a98 e101 e102 e103 e104 e105 e106 e107 e108 e109 e110 e111 e112 e113 e114 e115 e116 e117 e118 e119 e120 e121 e122 a124 e127 e128 e129 e130 e131 e132 e133 e134 e135 e136 e137 e138 e139 e140 e141 e142 e143 e144 e145 e146 e147 a149 e152 e153 e154 e155 e156 e157 e158 e159 e160 e161 e162 e163 e164 e165 e166 e167 e168 e169 e170 e171 z172 z173 z174 z175 z176 z177 a179 a181 q182 q183 q184 q185 z186 z187 q189 q190 q191 q192 l193 c193 k193 a195 q196 q197 q198 q199 z200 z201 z202 z203 z204 q206 q207 q208 q209 l210 c210 k210 q212 q213 l214 c214 k214 q216 q217 l218 c218 k218 q220 q221 l222 c222 k222 q224 q225 l226 c226 k226 q228 q229 l230 c230 k230 q232 q233 l234 c234 k234 q236 q237 l238 c238 k238 lT245 z248 q250 q251 l252 c252 k252 lT259 q263 q264 q265 q266 l267 c267 k267 q271 q272 q273 q274 l275 c275 k275 q279 q280 q281 q282 l283 c283 k283 q287 q288 q289 q290 l291 c291 k291 q295 q296 q297 q298 l299 c299 k299 a301 l302 c302 k302 a304 l305 c305 k305 a307 l308 c308 k308 a310 l311 c311 k311 a313 l314 c314 k314 a316 l317 c317 k317 a319 l320 c320 k320 a322 l323 c323 k323 a325 l326 c326 k326 l327 c327 k327 z328 z329 z330 z331 z332 z333 z334 z335 z336 z337
end Ic
open PySem PySem.W PyProof.Rows
set_option maxRecDepth 100000 in
set_option maxHeartbeats 0 in
theorem PySem.Challenge.cw_innercommits_k05_leaving_blocks_holds : PySem.Challenge.rw_innercommits_k05_leaving_blocks.Holds := by
  w_on; o_law; k_head; (case hw => w_witness2)
  k_fill
  refine Ic.walk_ofBG (l := PySem.Challenge.rw_innercommits_k05_leaving_blocks) (n := 63) (k := 9) (x := "_law_script") (CX := fun _ => L2.CX0) (sp := fun w => Ic.spLaw _) rfl (by decide) rfl ⟨rfl, by decide, by decide⟩ (fun w h Y => PySem.W.kIn_of Y) ?F (fun _ _ a ns hl _ _ hS => ⟨a, ns, rfl, hS, hl, fun _ => rfl⟩) (fun _ _ _ _ _ h => h)
  case F =>
    intro w mg fa h KX G hmg
    refine' Ic.all_mk' KX G hmg ?a0 ?a2 ?r3 ?s4 ?z5 ?z7 ?z9 ?z11 ?z13 ?z15 ?z17 ?z19 ?z21 ?l23 ?z37 ?r38 ?l40 ?c40 ?k40 ?a42 ?l43 ?c43 ?k43 ?z44 ?a46 ?e49 ?e50 ?e51 ?e52 ?e53 ?e54 ?e55 ?e56 ?e57 ?e58 ?e59 ?e60 ?e61 ?e62 ?e63 ?e64 ?e65 ?e66 ?e67 ?e68 ?e69 ?e70 ?a72 ?e75 ?e76 ?e77 ?e78 ?e79 ?e80 ?e81 ?e82 ?e83 ?e84 ?e85 ?e86 ?e87 ?e88 ?e89 ?e90 ?e91 ?e92 ?e93 ?e94 ?e95 ?e96 ?a98 ?e101 ?e102 ?e103 ?e104 ?e105 ?e106 ?e107 ?e108 ?e109 ?e110 ?e111 ?e112 ?e113 ?e114 ?e115 ?e116 ?e117 ?e118 ?e119 ?e120 ?e121 ?e122 ?a124 ?e127 ?e128 ?e129 ?e130 ?e131 ?e132 ?e133 ?e134 ?e135 ?e136 ?e137 ?e138 ?e139 ?e140 ?e141 ?e142 ?e143 ?e144 ?e145 ?e146 ?e147 ?a149 ?e152 ?e153 ?e154 ?e155 ?e156 ?e157 ?e158 ?e159 ?e160 ?e161 ?e162 ?e163 ?e164 ?e165 ?e166 ?e167 ?e168 ?e169 ?e170 ?e171 ?z172 ?z173 ?z174 ?z175 ?z176 ?z177 ?a179 ?a181 ?q182 ?q183 ?q184 ?q185 ?z186 ?z187 ?q189 ?q190 ?q191 ?q192 ?l193 ?c193 ?k193 ?a195 ?q196 ?q197 ?q198 ?q199 ?z200 ?z201 ?z202 ?z203 ?z204 ?q206 ?q207 ?q208 ?q209 ?l210 ?c210 ?k210 ?q212 ?q213 ?l214 ?c214 ?k214 ?q216 ?q217 ?l218 ?c218 ?k218 ?q220 ?q221 ?l222 ?c222 ?k222 ?q224 ?q225 ?l226 ?c226 ?k226 ?q228 ?q229 ?l230 ?c230 ?k230 ?q232 ?q233 ?l234 ?c234 ?k234 ?q236 ?q237 ?l238 ?c238 ?k238 ?lT245 ?z248 ?q250 ?q251 ?l252 ?c252 ?k252 ?lT259 ?q263 ?q264 ?q265 ?q266 ?l267 ?c267 ?k267 ?q271 ?q272 ?q273 ?q274 ?l275 ?c275 ?k275 ?q279 ?q280 ?q281 ?q282 ?l283 ?c283 ?k283 ?q287 ?q288 ?q289 ?q290 ?l291 ?c291 ?k291 ?q295 ?q296 ?q297 ?q298 ?l299 ?c299 ?k299 ?a301 ?l302 ?c302 ?k302 ?a304 ?l305 ?c305 ?k305 ?a307 ?l308 ?c308 ?k308 ?a310 ?l311 ?c311 ?k311 ?a313 ?l314 ?c314 ?k314 ?a316 ?l317 ?c317 ?k317 ?a319 ?l320 ?c320 ?k320 ?a322 ?l323 ?c323 ?k323 ?a325 ?l326 ?c326 ?k326 ?l327 ?c327 ?k327 ?z328 ?z329 ?z330 ?z331 ?z332 ?z333 ?z334 ?z335 ?z336 ?z337
    (case a0 => k_is)
    (case a2 => k_is)
    (case r3 => k_is)
    (case s4 => k_is)
    (case z5 => k_is)
    (case z7 => k_is)
    (case z9 => k_is)
    (case z11 => k_is)
    (case z13 => k_is)
    (case z15 => k_is)
    (case z17 => k_is)
    (case z19 => k_is)
    (case z21 => k_is)
    (case l23 => k_is)
    (case z37 => k_is)
    (case r38 => k_is)
    (case l40 => k_is)
    (case c40 => k_is)
    (case k40 => k_is)
    (case a42 => k_is)
    (case l43 => k_is)
    (case c43 => k_is)
    (case k43 => k_is)
    (case z44 => k_is)
    (case a46 => k_is)
    (case e49 => k_is)
    (case e50 => kernel_rfl)
    (case e51 => k_is)
    (case e52 => k_is)
    (case e53 => k_is)
    (case e54 => k_is)
    (case e55 => k_is)
    (case e56 => k_is)
    (case e57 => k_is)
    (case e58 => k_is)
    (case e59 => k_is)
    (case e60 => k_is)
    (case e61 => kernel_rfl)
    (case e62 => k_is)
    (case e63 => kernel_rfl)
    (case e64 => k_is)
    (case e65 => k_is)
    (case e66 => k_is)
    (case e67 => exact rfl)
    (case e68 => k_is)
    (case e69 => k_is)
    (case e70 => k_is)
    (case a72 => k_is)
    (case e75 => k_is)
    (case e76 => kernel_rfl)
    (case e77 => k_is)
    (case e78 => k_is)
    (case e79 => k_is)
    (case e80 => k_is)
    (case e81 => k_is)
    (case e82 => k_is)
    (case e83 => k_is)
    (case e84 => k_is)
    (case e85 => k_is)
    (case e86 => k_is)
    (case e87 => kernel_rfl)
    (case e88 => k_is)
    (case e89 => kernel_rfl)
    (case e90 => k_is)
    (case e91 => k_is)
    (case e92 => k_is)
    (case e93 => exact rfl)
    (case e94 => k_is)
    (case e95 => k_is)
    (case e96 => k_is)
    (case a98 => k_is)
    (case e101 => k_is)
    (case e102 => kernel_rfl)
    (case e103 => k_is)
    (case e104 => k_is)
    (case e105 => k_is)
    (case e106 => k_is)
    (case e107 => k_is)
    (case e108 => k_is)
    (case e109 => k_is)
    (case e110 => k_is)
    (case e111 => k_is)
    (case e112 => k_is)
    (case e113 => kernel_rfl)
    (case e114 => k_is)
    (case e115 => kernel_rfl)
    (case e116 => k_is)
    (case e117 => k_is)
    (case e118 => k_is)
    (case e119 => exact rfl)
    (case e120 => k_is)
    (case e121 => k_is)
    (case e122 => k_is)
    (case a124 => k_is)
    (case e127 => k_is)
    (case e128 => kernel_rfl)
    (case e129 => k_is)
    (case e130 => k_is)
    (case e131 => k_is)
    (case e132 => k_is)
    (case e133 => k_is)
    (case e134 => k_is)
    (case e135 => k_is)
    (case e136 => k_is)
    (case e137 => k_is)
    (case e138 => k_is)
    (case e139 => kernel_rfl)
    (case e140 => k_is)
    (case e141 => kernel_rfl)
    (case e142 => k_is)
    (case e143 => k_is)
    (case e144 => k_is)
    (case e145 => exact rfl)
    (case e146 => k_is)
    (case e147 => k_is)
    (case a149 => k_is)
    (case e152 => k_is)
    (case e153 => kernel_rfl)
    (case e154 => k_is)
    (case e155 => k_is)
    (case e156 => k_is)
    (case e157 => k_is)
    (case e158 => k_is)
    (case e159 => k_is)
    (case e160 => k_is)
    (case e161 => k_is)
    (case e162 => k_is)
    (case e163 => k_is)
    (case e164 => kernel_rfl)
    (case e165 => k_is)
    (case e166 => kernel_rfl)
    (case e167 => k_is)
    (case e168 => k_is)
    (case e169 => k_is)
    (case e170 => exact rfl)
    (case e171 => k_is)
    (case z172 => kernel_rfl)
    (case z173 => kernel_rfl)
    (case z174 => kernel_rfl)
    (case z175 => kernel_rfl)
    (case z176 => kernel_rfl)
    (case z177 => kernel_rfl)
    (case a179 => k_is)
    (case a181 => k_is)
    (case q182 => k_is)
    (case q183 => k_is)
    (case q184 => k_is)
    (case q185 => k_is)
    (case z186 => k_is)
    (case z187 => k_is)
    (case q189 => k_is)
    (case q190 => k_is)
    (case q191 => k_is)
    (case q192 => k_is)
    (case l193 => k_is)
    (case c193 => k_is)
    (case k193 => k_is)
    (case a195 => k_is)
    (case q196 => k_is)
    (case q197 => k_is)
    (case q198 => k_is)
    (case q199 => k_is)
    (case z200 => k_is)
    (case z201 => k_is)
    (case z202 => k_is)
    (case z203 => k_is)
    (case z204 => k_is)
    (case q206 => k_is)
    (case q207 => k_is)
    (case q208 => k_is)
    (case q209 => k_is)
    (case l210 => k_is)
    (case c210 => k_is)
    (case k210 => k_is)
    (case q212 => k_is)
    (case q213 => k_is)
    (case l214 => k_is)
    (case c214 => k_is)
    (case k214 => k_is)
    (case q216 => k_is)
    (case q217 => k_is)
    (case l218 => k_is)
    (case c218 => k_is)
    (case k218 => k_is)
    (case q220 => k_is)
    (case q221 => k_is)
    (case l222 => k_is)
    (case c222 => k_is)
    (case k222 => k_is)
    (case q224 => k_is)
    (case q225 => k_is)
    (case l226 => k_is)
    (case c226 => k_is)
    (case k226 => k_is)
    (case q228 => k_is)
    (case q229 => k_is)
    (case l230 => k_is)
    (case c230 => k_is)
    (case k230 => k_is)
    (case q232 => k_is)
    (case q233 => k_is)
    (case l234 => k_is)
    (case c234 => k_is)
    (case k234 => k_is)
    (case q236 => k_is)
    (case q237 => k_is)
    (case l238 => k_is)
    (case c238 => k_is)
    (case k238 => k_is)
    (case lT245 => k_is)
    (case z248 => k_is)
    (case q250 => k_is)
    (case q251 => k_is)
    (case l252 => k_is)
    (case c252 => k_is)
    (case k252 => k_is)
    (case lT259 => k_is)
    (case q263 => k_is)
    (case q264 => k_is)
    (case q265 => k_is)
    (case q266 => k_is)
    (case l267 => k_is)
    (case c267 => k_is)
    (case k267 => k_is)
    (case q271 => k_is)
    (case q272 => k_is)
    (case q273 => k_is)
    (case q274 => k_is)
    (case l275 => k_is)
    (case c275 => k_is)
    (case k275 => k_is)
    (case q279 => k_is)
    (case q280 => k_is)
    (case q281 => k_is)
    (case q282 => k_is)
    (case l283 => k_is)
    (case c283 => k_is)
    (case k283 => k_is)
    (case q287 => k_is)
    (case q288 => k_is)
    (case q289 => k_is)
    (case q290 => k_is)
    (case l291 => k_is)
    (case c291 => k_is)
    (case k291 => k_is)
    (case q295 => k_is)
    (case q296 => k_is)
    (case q297 => k_is)
    (case q298 => k_is)
    (case l299 => k_is)
    (case c299 => k_is)
    (case k299 => k_is)
    (case a301 => k_is)
    (case l302 => k_is)
    (case c302 => k_is)
    (case k302 => k_is)
    (case a304 => k_is)
    (case l305 => k_is)
    (case c305 => k_is)
    (case k305 => k_is)
    (case a307 => k_is)
    (case l308 => k_is)
    (case c308 => k_is)
    (case k308 => k_is)
    (case a310 => k_is)
    (case l311 => k_is)
    (case c311 => k_is)
    (case k311 => k_is)
    (case a313 => k_is)
    (case l314 => k_is)
    (case c314 => k_is)
    (case k314 => k_is)
    (case a316 => k_is)
    (case l317 => k_is)
    (case c317 => k_is)
    (case k317 => k_is)
    (case a319 => k_is)
    (case l320 => k_is)
    (case c320 => k_is)
    (case k320 => k_is)
    (case a322 => k_is)
    (case l323 => k_is)
    (case c323 => k_is)
    (case k323 => k_is)
    (case a325 => k_is)
    (case l326 => k_is)
    (case c326 => k_is)
    (case k326 => k_is)
    (case l327 => k_is)
    (case c327 => k_is)
    (case k327 => k_is)
    (case z328 => k_is)
    (case z329 => k_is)
    (case z330 => k_is)
    (case z331 => k_is)
    (case z332 => k_is)
    (case z333 => k_is)
    (case z334 => k_is)
    (case z335 => k_is)
    (case z336 => k_is)
    (case z337 => k_is)
#print axioms PySem.Challenge.cw_innercommits_k05_leaving_blocks_holds
