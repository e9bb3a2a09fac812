import PyProof.Rows.All
import Wide.All
import OpenK.AllK
import Wide.FinOn
import HandS.ForMost
import HandS.ForExc
import HandS.Defaults
import HandS.Flow
import HandS.Style
import HandS.IntHex
import HandS.RaiseMore
import HandS.SetKeys
import HandS.IsInst
import HandS.ExcInit
import HandS.StrMore
import HandS.ClsMeth
import HandS.Codes
import HandS.OwnEq
import HandS.More
import KE.SortData
import KE.KSortedAny
import PySem.Challenge.RW_keptpages_k74_whole_one_page_one_form
import KE.GoesMore
import HandS.WordsExc
import HandS.ExcOwn
import HandS.ExcField
import KE.KCallOwn
import HandS.Walk
set_option Elab.async false
set_option linter.all false
set_option maxRecDepth 100000
set_option maxHeartbeats 4000000
namespace Kp
open PySem PySem.Spec PyProof.Rows L2
/-! the text by places -/
def top (i : Nat) : Stmt := PySem.Challenge.pw_keptpages_k74_whole_one_page_one_form.main.body.getD i (.Pass ⟨0, 0, 0, 0⟩)
/-- a def of the text as the top has written it -/
structure DefAt (K : PySem.W.Frag) (mg : Str → Option Value) (x : Str) (st : Stmt) : Prop where
  ex : ∃ f fd, mg x = some (.ref f) ∧ Fun K x x st f fd
/-- a def that keeps its promise, as its callers see it -/
structure FnAt (P : Program) (w : World) (K : PySem.W.Frag) (mg : Str → Option Value) (base : Heap) (CX : CXT) (x : Str) (ps : List Str) (dvs : List V) (k : Nat) (sp : Sp) : Prop where
  ex : ∃ f fd ds, mg x = some (.ref f) ∧ PySem.W.keepIn K (.ref f) = true ∧ Binds K fd ps ds ∧ Vals dvs ds ∧ FnOk P w K mg base CX k f fd ps sp
section
variable {X : Cx} {CX : CXT} {k : Nat} {ps : List Str} {sp : Sp} {dvs : List V} {E : XK} {x : Str} {p pos : Pos} {e : Expr} {es : List Expr} {t : TA}
theorem pe_cf (F : FnAt X.prog X.w X.K X.mg X.base CX x ps dvs k sp) (hr : Room k X.A) (hx : Passes CX X E) (ha : PA X (e :: es) t) (hg : Gl X x := by rfl) (hdb : (x == ("__debug__" : Str)) = false := by decide)
    (he : starEach (e :: es) X.env = (false, eval e X.env) :: starEach es X.env := by rfl) (hpl : (backTo pos (starEach es X.env)).any (·.1) = false := by rfl) :
    PE X (.Call (.Name x p) (e :: es) [] pos) (tCall sp dvs E t) := by
  obtain ⟨f, fd, ds, hm, hk, hb, hd, F⟩ := F.ex
  exact pe_call F hr hg hm hk hb hd hx ha hdb he hpl
theorem pe_cf0 (F : FnAt X.prog X.w X.K X.mg X.base CX x ps dvs k sp) (hr : Room k X.A) (hx : Passes CX X E) (hg : Gl X x := by rfl) (hdb : (x == ("__debug__" : Str)) = false := by decide) :
    PE X (.Call (.Name x p) [] [] pos) (tCall sp dvs E tNil) := by
  obtain ⟨f, fd, ds, hm, hk, hb, hd, F⟩ := F.ex
  exact pe_call0 F hr hg hm hk hb hd hx hdb
end
section
variable {P : Program} {w : World} {K : PySem.W.Frag} {mg : Str → Option Value} {base : Heap} {x : Str} {st : Stmt} {N ps : List Str} {k : Nat} {sp : Sp}
theorem DefAt.ok (D : DefAt K mg x st) (S : FnScope N ps (defScope st))
    (hb : ∀ (kV doc pm : Value) (an : Option Addr) (cdv ct : Value) (us : List Value), us.length = ps.length → bindArgs (PySem.W.fnOf x x (defArgs st) (defBody st) (defScope st) .none kV doc pm an cdv ct) ⟨us, []⟩ = pure (ps.zip us))
    (len : ∀ vs H Q E, sp vs H Q E → vs.length = ps.length)
    (hbody : ∀ (f : Addr) (cdv : Value) (A : Around) (outer : List Env) (s : Shared) (H : Hp) (vs : List V) (Q : VK) (E : XK), Room k (A.deeper (envOfC x (defScope st) s.heap.objs.size f cdv)) → sp vs H Q E →
      ∃ t, PSs (cxOf CX0 P w K mg base N x (defScope st) f cdv A outer s H E).nox (defBody st) t ∧ t { nx := fun _ H' => Q .non H', rt := Q } (start N vs) H) : FnAt P w K mg base CX0 x ps [] (k + 1) sp := by
  obtain ⟨f, fd, hm, F⟩ := D.ex
  exact ⟨f, fd, [], hm, F.kp, F.binds hb, .nil, F.ok S len (hbody f)⟩
end
/-! heaps: all that was tracked stands, but what is at B -/
def Kept (B : List Addr) (H H' : Hp) : Prop := ∀ b o, b ∉ B → H b = some o → H' b = some o
theorem Kept.refl {B : List Addr} {H : Hp} : Kept B H H := fun _ _ _ h => h
theorem Kept.trans {B : List Addr} {H H1 H2 : Hp} (a : Kept B H H1) (b : Kept B H1 H2) : Kept B H H2 := fun c o n h => b c o n (a c o n h)
theorem Kept.mono {B C : List Addr} {H H1 : Hp} (a : Kept B H H1) (h : ∀ b ∈ B, b ∈ C) : Kept C H H1 := fun c o n q => a c o (fun z => n (h c z)) q
theorem Kept.new {B : List Addr} {H H1 : Hp} {p : Addr} {o : HO} (a : Kept B H H1) (hp : H1 p = none) : Kept B H (upd H1 p o) := fun c u n h => by
  rw [upd_ne (ne_of_none (a c u n h) hp)]
  exact a c u n h
/-- an object at B, or one that H did not know, is written -/
theorem Kept.put {B : List Addr} {H H1 : Hp} {p : Addr} {o : HO} (a : Kept B H H1) (hp : p ∈ B ∨ H p = none) : Kept B H (upd H1 p o) := fun c u n h => by
  have e : c ≠ p := by
    rintro rfl
    rcases hp with z | z
    · exact n z
    · rw [h] at z; cases z
  rw [upd_ne e]
  exact a c u n h
theorem Kept.same {H H1 : Hp} (a : Same H H1) {B : List Addr} : Kept B H H1 := fun c o _ h => a c o h
theorem Kept.to_same {H H1 : Hp} (a : Kept [] H H1) : Same H H1 := fun c o h => a c o (by simp) h
theorem Same.new {H H1 : Hp} {p : Addr} {o : HO} (a : Same H H1) (hp : H1 p = none) : Same H (upd H1 p o) := fun c u h => by
  rw [upd_ne (ne_of_none (a c u h) hp)]
  exact a c u h
theorem Same.put {H H1 : Hp} {p : Addr} {o : HO} (a : Same H H1) (hp : H p = none) : Same H (upd H1 p o) := fun c u h => by
  rw [upd_ne (ne_of_none h hp)]
  exact a c u h
theorem Kept.free {B : List Addr} {H H1 : Hp} (a : Kept B H H1) {l : Addr} (h : H1 l = none) (hl : l ∉ B) : H l = none := by
  cases q : H l with
  | none => rfl
  | some o =>
    rw [a l o hl q] at h
    cases h
end Kp
namespace Kp
open PySem PySem.Spec PyProof.Rows L2
section
variable {X : Cx}
/-! rules that the hand layer lacks -/
theorem pip_of {op : Operator} {r : R2} (h : OpR X (inplaceOp op) r) : PIp X op r := h
theorem pe_globI {x : Str} {i : Int} {t : Tok} {pos : Pos} (hg : Gl X x) (hm : X.mg x = some (.int i t)) (hd : (x == ("__debug__" : Str)) = false := by decide) : PE X (.Name x pos) (tC (.int i)) := pe_glob hg hm ⟨t, rfl⟩ hd
theorem pe_globS {x : Str} {i : Str} {t : Tok} {pos : Pos} (hg : Gl X x) (hm : X.mg x = some (.str i t)) (hd : (x == ("__debug__" : Str)) = false := by decide) : PE X (.Name x pos) (tC (.str i)) := pe_glob hg hm ⟨t, rfl⟩ hd
theorem pe_globR {x : Str} {a : Addr} {pos : Pos} (hg : Gl X x) (hm : X.mg x = some (.ref a)) (hd : (x == ("__debug__" : Str)) = false := by decide) : PE X (.Name x pos) (tC (.ref a)) := pe_glob hg hm rfl hd
/-- sorted(texts), any number -/
def rSortedSA (K : PySem.W.Frag) : List V → Hp → VK → Prop := fun vs H Q => ∃ (a : Addr) (xs : List Str), vs = [V.ref a] ∧ SqL K H a (xs.map V.str) ∧
  ∀ (ys : List Str) (p : Addr), ys.Perm xs → sortedS ys = true → H p = none → Q (.ref p) (upd H p (.lst (ys.map V.str)))
theorem cr_sortedSA : CallR X (.builtin "sorted") (rSortedSA X.K) := by
  intro pins s σ H vs us Q I r h
  obtain ⟨a, xs, rfl, hs, q⟩ := h
  obtain ⟨its, rv, hl, hz⟩ := I.list hs
  rw [Vals.ref1 r]
  have hlen0 := rv.length
  rw [List.length_map] at hlen0 hz
  refine PyProof.Rows.sorted_strsAny hl.isList rv.strs (by rw [← hlen0]; exact hz) fun out ys h1 h2 h3 => ?_
  obtain ⟨ep, he'⟩ := PyProof.Rows.sortedAll_at s.heap its out
  have hlen : (ys.map V.str).length ≤ sizeLine := by rw [List.length_map, h2.length_eq]; exact hz
  exact ⟨.ref _, upd H (s.heap.objs.size + 1) (.lst (ys.map V.str)), I.laid (t' := s.toks) (fun _ _ => PyProof.Rows.sortedAll_old) (Nat.le_succ _) ⟨hlen, out.toList, ep, vals_of_strs h1, he'⟩, rfl, q ys _ h2 h3 (I.hok.fresh (Nat.le_succ _))⟩
/-- s.index(y), y stands there -/
def rIndex1 : V → List V → Hp → VK → Prop := fun x xs H Q => ∃ (a b : Str) (k : Nat), x = .str a ∧ xs = [.str b] ∧ Txt.index0 a b = some k ∧ Q (.int (k : Nat)) H
theorem mt_index1 : MtR X "str.index" rIndex1 := by
  intro pins s σ H x xs v us Q I rx rs h
  obtain ⟨a, b, k, rfl, rfl, hy, w⟩ := h
  obtain ⟨t, rfl⟩ := rx
  cases rs with
  | cons r1 rs =>
    cases rs
    obtain ⟨u, rfl⟩ := r1
    unfold Txt.index0 at hy
    cases q : Builtin.Str.occurrences a b 0 a.length 1 with
    | nil =>
      rw [q] at hy
      cases hy
    | cons j rest =>
      rw [q] at hy
      cases hy
      exact PySem.SC.index q ⟨.int (k : Nat), H, I.tok _, ⟨_, rfl⟩, w⟩
/-- text * n, few -/
def repS (x : Str) (n : Nat) : Str := ⟨((List.replicate n x.cps.toList).flatten).toArray⟩
theorem foldl_app (x : Array Nat) : ∀ (n : Nat) (acc : Array Nat), (List.replicate n x).foldl (· ++ ·) acc = acc ++ ((List.replicate n x.toList).flatten).toArray
  | 0, acc => by simp
  | n + 1, acc => by
    rw [List.replicate_succ, List.replicate_succ, List.foldl_cons, foldl_app x n]
    apply Array.toList_inj.mp
    simp
def rRepS : R2 := fun x y H Q => ∃ (z : Str) (n : Int), x = .str z ∧ y = .int n ∧ 0 ≤ n ∧ n ≤ 100000 ∧ z.length ≤ 100 ∧ Q (.str (repS z n.toNat)) H
theorem op_repS : OpR X (binaryOp .Mult) rRepS := by
  intro pins s σ H x y v u Q I rx ry h
  obtain ⟨z, n, rfl, rfl, h0, h1, hz, q⟩ := h
  obtain ⟨t, rfl⟩ := rx
  obtain ⟨t', rfl⟩ := ry
  have q1 : EP X pins σ Q (.str (repS z n.toNat) s.toks) { s with toks := s.toks + 1 } := ⟨.str _, H, I.tok _, ⟨_, rfl⟩, q⟩
  refine PySem.P.mul_str ?_ ?_ ?_ ?_
  · have e1 : ¬ n < -(2 ^ 63 : Int) := by omega
    have e2 : ¬ n ≥ 2 ^ 63 := by omega
    rw [decide_eq_false e1, decide_eq_false e2]; rfl
  · intro a b
    have : (z.length : Int) ≤ 100 := by omega
    have h3 : (2 ^ 63 - 1) / (100000 : Int) ≤ (2 ^ 63 - 1) / n := by
      have hn : 0 < n := by omega
      apply (Int.le_ediv_iff_mul_le hn).mpr
      calc (2 ^ 63 - 1) / (100000 : Int) * n ≤ (2 ^ 63 - 1) / (100000 : Int) * 100000 := Int.mul_le_mul_of_nonneg_left h1 (by decide)
        _ ≤ 2 ^ 63 - 1 := by decide
    have h4 : (100 : Int) < (2 ^ 63 - 1) / (100000 : Int) := by decide
    omega
  · intro a b
    show decide (z.length * n.toNat > sizeLine) = false
    have h5 : z.length * n.toNat ≤ 100 * 100000 := Nat.mul_le_mul hz (by omega)
    rw [decide_eq_false_iff_not, sizeLine_eq]
    omega
  · by_cases c : n < 1
    · rw [if_pos c]
      have e : n = 0 := by omega
      subst e
      exact ⟨by decide, q1⟩
    · rw [if_neg c]
      by_cases d : (n == 1 || z.length == 0) = true
      · rw [if_pos d]
        have e : repS z n.toNat = z := by
          apply TL.ext_tl
          show (List.replicate n.toNat z.cps.toList).flatten = z.cps.toList
          simp only [Bool.or_eq_true, beq_iff_eq] at d
          rcases d with d | d
          · subst d; simp
          · have : z.cps.toList = [] := (TL.len0_tl z).mp d
            rw [this]; simp
        refine ⟨.str z, H, I, ⟨_, rfl⟩, ?_⟩
        rw [e] at q
        exact q
      · rw [if_neg d]
        have e : (⟨(List.replicate n.toNat z.cps).foldl (· ++ ·) #[]⟩ : Str) = repS z n.toNat := by
          unfold repS
          rw [foldl_app]
          simp
        rw [e]
        exact ⟨by
          have h5 : z.length * n.toNat ≤ 100 * 100000 := Nat.mul_le_mul hz (by omega)
          show (repS z n.toNat).length ≤ sizeLine
          have e2 : (repS z n.toNat).length = z.length * n.toNat := by
            rw [TL.len_tl, TL.len_tl]
            show ((List.replicate n.toNat z.cps.toList).flatten).length = _
            simp [TL.tl, Nat.mul_comm]
          rw [e2, sizeLine_eq]
          omega, q1⟩
/-! enumerate(text) -/
def IteS (x : Str) : It :=
  ⟨fun i _ => i < x.cps.size, fun i H v H' => ∃ T c, v = .ref T ∧ H T = none ∧ H' = upd H T (.tup [.int (i : Nat), .str ⟨#[c]⟩]) ∧ x.cps[i]? = some c, fun i _ => x.cps.size ≤ i⟩
theorem turn_enumS {P : Program} {w : World} {K : PySem.W.Frag} {elts : List Expr} {kk : Nat} {tpos : Pos} (x : Str) (t : Tok) (e it : Addr) :
    Turn P w K (.Tuple elts kk tpos) (IteS x) [e, it] e (fun i h => (i ≤ x.cps.size) ∧ (∃ old, IsEnum h e it ((i : Nat) : Int) old) ∧ h.IsStrIter it (strIterType x) x t i ∧ e ≠ it) where
  mem := by simp
  obj := fun i h st b hb => by
    obtain ⟨_, ⟨old, he⟩, ⟨o, ho, hc, hd⟩, _⟩ := st
    have e' : b = e ∨ b = it := by simpa using hb
    rcases e' with z | z
    · rw [z]; exact ⟨_, he, fun v q => nomatch q⟩
    · rw [z]; exact ⟨o, ho, fun v q => by rw [hd] at q; cases q⟩
  keep := fun i h h' st k => let ⟨hle, ⟨old, he⟩, ⟨o, ho, r⟩, hne⟩ := st; ⟨hle, ⟨old, k e (by simp) _ he⟩, ⟨o, k it (by simp) o ho, r⟩, hne⟩
  item := by
    intro X hP hw hK hc i pins s σ H E I hf st hg
    subst hP hw hK
    obtain ⟨hle, ⟨old, he⟩, hit, hne⟩ := st
    have hg' : i < x.cps.size := hg
    have hel : e < s.heap.objs.size := Heap.lt_size he
    have hil : it < s.heap.objs.size := by obtain ⟨_, q, _⟩ := hit; exact Heap.lt_size q
    have DD : Draws X.prog X.w X.A.in1 it [it] x.cps.size (fun i v => ∃ c u, x.cps[i]? = some c ∧ v = .str ⟨#[c]⟩ u) (fun i h => h.IsStrIter it (strIterType x) x t i) := Draws.text (A := X.A.in1) (I.ok.hd hc) it x t
    refine wpAny_pyNext_enum_itemD DD he hit hg' hne (by simp [hne]) fun y h' tk hy ho hit' hT hsz hk => ?_
    obtain ⟨c, u, hcx, rfl⟩ := hy
    refine ⟨_, rfl, wpAny_letOwnedTupleGo_enum (s := { s with heap := h', toks := tk + 1 }) ho fun h'' he' sb => ?_⟩
    have hT2 : h''.get? s.heap.objs.size = some { cls := .type "tuple", data := .seq #[.int i tk, .str ⟨#[c]⟩ u] } := (sb.2 _ (Nat.ne_of_gt hel)).trans hT
    have new : ObjOk X.prog X.w (upd H s.heap.objs.size (.tup [.int (i : Nat), .str ⟨#[c]⟩])) h'' s.heap.objs.size (.tup [.int (i : Nat), .str ⟨#[c]⟩]) :=
      ⟨by show 2 ≤ sizeLine; decide, [.int i tk, .str ⟨#[c]⟩ u], .cons ⟨_, rfl⟩ (.cons ⟨_, rfl⟩ .nil), ⟨_, hT2, rfl, _, rfl⟩⟩
    have I1 : Inv X pins σ (upd H s.heap.objs.size (.tup [.int (i : Nat), .str ⟨#[c]⟩])) { s with heap := h'', toks := tk + 1 } :=
      I.turnedNew (ch := [e, it]) (fun b ob hb q => (sb.2 b (fun z => hb (by simp [z]))).trans (hk b ob (fun z => hb (by simp [z])) (fun z => hb (by simp [z])) q)) hf (Nat.le_refl _) new
    refine ⟨.ref s.heap.objs.size, _, I1, rfl, ⟨_, c, rfl, I.hok.fresh (Nat.le_refl _), rfl, hcx⟩, ⟨hg', ⟨.str ⟨#[c]⟩ u, ?_⟩, ?_, hne⟩, fun b hb => ?_⟩
    · have e1 : ((i + 1 : Nat) : Int) = (i : Int) + 1 := by omega
      rw [e1]; exact he'
    · obtain ⟨o, q, r⟩ := hit'
      exact ⟨o, (sb.2 it (Ne.symm hne)).trans q, r⟩
    · have hb' : b < s.heap.objs.size := by
        have e' : b = e ∨ b = it := by simpa using hb
        rcases e' with z | z
        · rw [z]; exact hel
        · rw [z]; exact hil
      rw [upd_ne (Nat.ne_of_lt hb')]
      exact (hf b hb).1
  done := by
    intro X hP hw hK hc i pins s σ H E I hf st hg
    subst hP hw hK
    obtain ⟨hle, ⟨old, he⟩, hit, hne⟩ := st
    have hg' : x.cps.size ≤ i := hg
    have ei : i = x.cps.size := Nat.le_antisymm hle hg'
    subst ei
    obtain ⟨f0, f1, f2, f3, f4, f5⟩ := hf it (by simp)
    have DD : Draws X.prog X.w X.A.in1 it [it] x.cps.size (fun i v => ∃ c u, x.cps[i]? = some c ∧ v = .str ⟨#[c]⟩ u) (fun i h => h.IsStrIter it (strIterType x) x t i) := Draws.text (A := X.A.in1) (I.ok.hd hc) it x t
    exact wpAny_pyNext_enum_endD DD he hit fun h' eb => ⟨rfl, I.turned (t' := s.toks) (fun b o hb q => eb b o hb q) f0 f1 f3 f4 f5⟩
  self := fun A i s Q E st h => let ⟨_, ⟨_, he⟩, _⟩ := st; wpAny_pyIter_enum he h
def iEnumS (ta : TA) : TI := fun σ H R => ta σ H fun vs H1 => ∃ x : Str, vs = [.str x] ∧ R (IteS x) H1
theorem pi_enumS {e : Expr} {ta : TA} {p pos tpos : Pos} {elts : List Expr} {kk : Nat} (hg : Gl X "enumerate") (hm : X.mg "enumerate" = none) (ha : PA X [e] ta) (hs : starEach [e] X.env = [(false, eval e X.env)] := by rfl) :
    PI X (.Tuple elts kk tpos) (.Call (.Name "enumerate" p) [e] [] pos) (iEnumS ta) := by
  refine ⟨fun pins s σ H R I h => ?_⟩
  refine Call_ (ld_blt I hg hm boot_enumerate (PyProof.Rows.callWith_type1 (thn (ha.run pos pins s σ H _ I h) fun us s1 ⟨vs, H1, I1, r1, q1⟩ => ?_) hs rfl))
  obtain ⟨x, ex, q⟩ := q1
  subst ex
  cases r1 with
  | cons r rr =>
    cases rr
    obtain ⟨t, rfl⟩ := r
    refine call_enumerate_str fun h' he hit hsz hk => wpAny_pyIter_enum he ?_
    have I2 : Inv X pins σ H1 { s1 with heap := h' } := I1.kept (t' := s1.toks) hk
    refine ⟨s1.heap.objs.size + 1, [s1.heap.objs.size + 1, s1.heap.objs.size], _, _, H1, rfl, I2, turn_enumS x t (s1.heap.objs.size + 1) s1.heap.objs.size, ⟨Nat.zero_le _, ⟨.none, he⟩, hit, Nat.succ_ne_self _⟩, fun b hb => ?_, q⟩
    have e' : b = s1.heap.objs.size + 1 ∨ b = s1.heap.objs.size := by simpa using hb
    have hle : s1.heap.objs.size ≤ b := by
      rcases e' with z | z
      · rw [z]; exact Nat.le_add_right _ _
      · rw [z]; exact Nat.le_refl _
    exact I1.fpOk hle (I1.hok.fresh hle)
end
/-! the module's names, as the top has left them -/
abbrev hostSigns : Str := Str.ofString "abcdefghijklmnopqrstuvwxyzABCDEFGHIJKLMNOPQRSTUVWXYZ0123456789-"
abbrev figures : Str := Str.ofString "0123456789"
abbrev codeSigns : Str := Str.ofString "0123456789abcdefABCDEF"
structure Glb (K : PySem.W.Frag) (w : World) (mg : Str → Option Value) where
  len : mg "len" = none
  all : mg "all" = none
  abs : mg "abs" = none
  max : mg "max" = none
  min : mg "min" = none
  list : mg "list" = none
  tuple : mg "tuple" = none
  sorted : mg "sorted" = none
  isinstance : mg "isinstance" = none
  int : mg "int" = none
  str : mg "str" = none
  range : mg "range" = none
  enumerate : mg "enumerate" = none
  t1 : Tok
  HOST_SIGNS : mg "HOST_SIGNS" = some (.str hostSigns t1)
  t2 : Tok
  FIGURES : mg "FIGURES" = some (.str figures t2)
  t3 : Tok
  CODE_SIGNS : mg "CODE_SIGNS" = some (.str codeSigns t3)
  t4 : Tok
  MOST_GATE : mg "MOST_GATE" = some (.int 5 t4)
  aG : Addr
  GATES : mg "GATES" = some (.ref aG)
  esG : Array DictEntry
  nG : Nat
  kdGATES : KDict K w aG esG nG
  g_leaf : ∃ t, PySem.W.nsIn K aG "leaf" = some (some (.int 70 t))
  g_seal : ∃ t, PySem.W.nsIn K aG "seal" = some (some (.int 700 t))
  g_none : ∀ z : Str, z ≠ "leaf" → z ≠ "seal" → PySem.W.nsIn K aG z = some none
  aF : Addr
  FIRST_CODES : mg "FIRST_CODES" = some (.ref aF)
  aFs : List Addr
  f_all : ∀ H : Hp, SqT K H aF (aFs.map V.ref)
  f_each : ∃ a b c d e, aFs = [a, b, c, d, e] ∧ (∀ H : Hp, SqT K H a [.int 48, .str figures]) ∧ (∀ H : Hp, SqT K H b [.int 65, .str "ABCDEFGHIJKLMNOPQRSTUVWXYZ"]) ∧ (∀ H : Hp, SqT K H c [.int 97, .str "abcdefghijklmnopqrstuvwxyz"]) ∧
    (∀ H : Hp, SqT K H d [.int 45, .str "-."]) ∧ (∀ H : Hp, SqT K H e [.int 95, .str "_"])
end Kp
namespace Kp
open PySem PySem.Spec PyProof.Rows L2
variable {P : Program} {w : World} {K : PySem.W.Frag} {mg : Str → Option Value} {base : Heap}
/-! ### _law_blend -/
abbrev sBlend : Stmt := top 27
def spBlend : Sp := fun vs H Q _ => ∃ n t : Int, vs = [.int n, .int t] ∧ 0 ≤ t ∧ t ≤ 1000000 ∧ ∀ r : Int, 0 ≤ r → r < 2305843009213693907 → Q (.int r) H
theorem scBlend : FnScope ["_law_number", "_law_turn", "_law_seed", "_law_once"] ["_law_number", "_law_turn"] (defScope sBlend) := ⟨rfl, rfl, rfl, by decide +kernel, rfl, by decide +kernel, by decide +kernel⟩
theorem blend_seed (n t : Int) (h0 : 0 ≤ t) (h1 : t ≤ 1000000) : 0 ≤ n % 2305843009213693951 + 104729 * t * t + 17 * t + 5 ∧ n % 2305843009213693951 + 104729 * t * t + 17 * t + 5 < 2500000000000000000 := by
  have a1 := Int.emod_nonneg n (show (2305843009213693951 : Int) ≠ 0 by decide)
  have a2 := Int.emod_lt_of_pos n (show (0 : Int) < 2305843009213693951 by decide)
  have b1 : 0 ≤ t * t := Int.mul_nonneg h0 h0
  have b2 : t * t ≤ 1000000 * 1000000 := Int.mul_le_mul h1 h1 h0 (by decide)
  have b3 : 104729 * t * t = 104729 * (t * t) := Int.mul_assoc _ _ _
  rw [b3]
  omega
theorem ok_blend (D : DefAt K mg "_law_blend" sBlend) : FnAt P w K mg base CX0 "_law_blend" ["_law_number", "_law_turn"] [] 1 spBlend := by
  refine D.ok scBlend (fun _ _ _ _ _ _ us hl => match us, hl with | [_, _], _ => rfl) (fun vs H Q E h => ?_) (fun f cdv A outer s H vs Q E hr h => ?_)
  · obtain ⟨n, t, rfl, _⟩ := h
    rfl
  · obtain ⟨n, t, rfl, h0, h1, k⟩ := h
    refine ⟨_, pss_cons (ps_set (i := 2) scBlend.nd rfl (.inl rfl) (pe_op op_add (pe_op op_add (pe_op op_add (pe_op op_mod (pv 0) pe_int) (pe_op op_mul (pe_op op_mul pe_int (pv 1)) (pv 1))) (pe_op op_mul pe_int (pv 1))) pe_int))
      (pss_cons (ps_set (i := 3) scBlend.nd rfl (.inl rfl) (pe_op op_mod (pe_op op_mul (pv 2) pe_int) pe_int))
      (pss_one (ps_ret (pe_op op_mod (pe_op op_add (pe_op op_mul (pv 3) (pe_op op_add (pe_op op_mod (pv 3) pe_int) (pe_op op_mul pe_int (pv 1)))) (pe_op op_fdiv (pv 3) pe_int)) pe_int)))), ?_⟩
    have s := blend_seed n t h0 h1
    refine ⟨_, rfl, _, _, rfl, rfl, (by show (0 : Int) < 2305843009213693951; decide), _, rfl, _, _, rfl, rfl, .inl ⟨by decide, by decide⟩, _, rfl, _, _, rfl, rfl, .inr ⟨by omega, by omega⟩, _, _, rfl, rfl, _, rfl, _, _, rfl, rfl, .inl ⟨by decide, by decide⟩, _, _, rfl, rfl, _, _, rfl, rfl, ?_⟩
    refine ⟨_, rfl, _, _, rfl, rfl, .inl ⟨by omega, by omega⟩, _, _, rfl, rfl, (by show (0 : Int) < 2305843009213693921; decide), ?_⟩
    have o0 := Int.emod_nonneg ((n % 2305843009213693951 + 104729 * t * t + 17 * t + 5) * 48271) (show (2305843009213693921 : Int) ≠ 0 by decide)
    have o1 := Int.emod_lt_of_pos ((n % 2305843009213693951 + 104729 * t * t + 17 * t + 5) * 48271) (show (0 : Int) < 2305843009213693921 by decide)
    refine ⟨_, rfl, _, rfl, _, _, rfl, rfl, (by show (0 : Int) < 1000003; decide), _, rfl, _, _, rfl, rfl, .inl ⟨by decide, by decide⟩, _, _, rfl, rfl, _, _, rfl, rfl, .inl ⟨by omega, by omega⟩, _, rfl, _, _, rfl, rfl, ⟨by decide, by decide⟩, _, _, rfl, rfl, _, _, rfl, rfl, (by show (0 : Int) < 2305843009213693907; decide), ?_⟩
    exact k _ (Int.emod_nonneg _ (by decide)) (Int.emod_lt_of_pos _ (by decide))
end Kp
namespace Kp
open PySem L2 TL
/-! # the mathematics: texts are lists of numbers -/
abbrev Tx := List Nat
/-- l cut at each d -/
def splitC (d : Nat) : Tx → List Tx
  | [] => [[]]
  | c :: r => if c = d then [] :: splitC d r else match splitC d r with
    | [] => [[c]]
    | h :: t => (c :: h) :: t
theorem splitC_ne (d : Nat) : ∀ l : Tx, splitC d l ≠ []
  | [] => by simp [splitC]
  | c :: r => by
    unfold splitC
    split
    · simp
    · split <;> simp
theorem splitC_hit (d : Nat) (r : Tx) : splitC d (d :: r) = [] :: splitC d r := by simp [splitC]
theorem splitC_miss {d c : Nat} {r h : Tx} {t : List Tx} (hc : c ≠ d) (e : splitC d r = h :: t) : splitC d (c :: r) = (c :: h) :: t := by
  rw [splitC, if_neg hc, e]
theorem splitC_free {d : Nat} : ∀ {l : Tx}, d ∉ l → splitC d l = [l]
  | [], _ => rfl
  | c :: r, h => by
    have h1 : c ≠ d := fun e => h (by simp [e])
    exact splitC_miss h1 (splitC_free fun z => h (by simp [z]))
theorem splitC_app {d : Nat} : ∀ {l : Tx} (r : Tx), d ∉ l → splitC d (l ++ d :: r) = l :: splitC d r
  | [], r, _ => splitC_hit d r
  | c :: l, r, h => by
    have h1 : c ≠ d := fun e => h (by simp [e])
    exact splitC_miss h1 (splitC_app r fun z => h (by simp [z]))
theorem splitC_mem {d : Nat} : ∀ {l : Tx}, ∀ p ∈ splitC d l, ∀ c ∈ p, c ∈ l ∧ c ≠ d
  | [], p, hp, c, hc => by
    simp [splitC] at hp
    subst hp
    cases hc
  | x :: r, p, hp, c, hc => by
    by_cases hx : x = d
    · subst hx
      rw [splitC_hit] at hp
      rcases List.mem_cons.mp hp with e | hp
      · subst e; cases hc
      · have q := splitC_mem p hp c hc
        exact ⟨by simp [q.1], q.2⟩
    · cases e : splitC d r with
      | nil => exact absurd e (splitC_ne d r)
      | cons h t =>
        rw [splitC_miss hx e] at hp
        rcases List.mem_cons.mp hp with e2 | hp
        · subst e2
          rcases List.mem_cons.mp hc with e3 | hc
          · subst e3
            exact ⟨by simp, hx⟩
          · have q := splitC_mem h (by rw [e]; simp) c hc
            exact ⟨by simp [q.1], q.2⟩
        · have q := splitC_mem p (by rw [e]; simp [hp]) c hc
          exact ⟨by simp [q.1], q.2⟩
theorem splitC_len {d : Nat} : ∀ l : Tx, (splitC d l).length ≤ l.length + 1
  | [] => by simp [splitC]
  | c :: r => by
    have ih := splitC_len (d := d) r
    unfold splitC
    split
    · simp only [List.length_cons]; omega
    · split
      · simp
      · rename_i e
        rw [e] at ih
        simp only [List.length_cons] at ih ⊢
        omega
theorem split_part_len {d : Nat} : ∀ {l : Tx} {p : Tx}, p ∈ splitC d l → p.length ≤ l.length
  | [], p, h => by
    simp [splitC] at h
    subst h
    simp
  | c :: r, p, h => by
    by_cases hc : c = d
    · subst hc
      rw [splitC_hit] at h
      rcases List.mem_cons.mp h with e | h
      · subst e; simp
      · have := split_part_len h
        simp only [List.length_cons]; omega
    · cases e : splitC d r with
      | nil => exact absurd e (splitC_ne d r)
      | cons h' t =>
        rw [splitC_miss hc e] at h
        rcases List.mem_cons.mp h with e2 | h
        · subst e2
          have := split_part_len (d := d) (l := r) (p := h') (by rw [e]; simp)
          simp only [List.length_cons]; omega
        · have := split_part_len (d := d) (l := r) (p := p) (by rw [e]; simp [h])
          simp only [List.length_cons]; omega
theorem spl_one (d : Nat) : ∀ (l acc : Tx), spl [d] 0 acc l = (match splitC d l with | [] => [acc] | h :: t => (acc ++ h) :: t)
  | [], acc => by simp [spl, splitC]
  | c :: r, acc => by
    by_cases hc : c = d
    · subst hc
      rw [spl_hit (by simp [pre]), splitC_hit]
      show acc :: spl [c] 0 [] r = (acc ++ []) :: splitC c r
      rw [spl_one c r]
      cases e : splitC c r with
      | nil => exact absurd e (splitC_ne c r)
      | cons h t => simp
    · rw [spl_miss (by simp [pre, hc]), spl_one d r]
      cases e : splitC d r with
      | nil => exact absurd e (splitC_ne d r)
      | cons h t =>
        rw [splitC_miss hc e]
        simp
theorem spl_split (d : Nat) (l : Tx) : spl [d] 0 [] l = splitC d l := by
  rw [spl_one]
  cases e : splitC d l with
  | nil => exact absurd e (splitC_ne d l)
  | cons h t => simp
/-- d between the parts -/
def joinC (d : Nat) : List Tx → Tx
  | [] => []
  | [p] => p
  | p :: q :: r => p ++ d :: joinC d (q :: r)
theorem joinL_joinC (d : Nat) : ∀ ps : List Tx, joinL [d] ps = joinC d ps
  | [] => rfl
  | [p] => rfl
  | p :: q :: r => by
    show p ++ ([d] ++ joinL [d] (q :: r)) = p ++ d :: joinC d (q :: r)
    rw [joinL_joinC d (q :: r)] <;> rfl
theorem splitC_join {d : Nat} : ∀ {ps : List Tx}, ps ≠ [] → (∀ p ∈ ps, d ∉ p) → splitC d (joinC d ps) = ps
  | [], h, _ => absurd rfl h
  | [p], _, h => splitC_free (h p (by simp))
  | p :: q :: r, _, h => by
    rw [joinC, splitC_app _ (h p (by simp)), splitC_join (by simp) fun x hx => h x (by simp [hx])]
theorem join_split (d : Nat) : ∀ l : Tx, joinC d (splitC d l) = l
  | [] => rfl
  | c :: r => by
    have ih := join_split d r
    by_cases hc : c = d
    · subst hc
      rw [splitC_hit]
      cases e : splitC c r with
      | nil => exact absurd e (splitC_ne c r)
      | cons h t =>
        rw [e] at ih
        rw [joinC, ih] <;> rfl
    · cases e : splitC d r with
      | nil => exact absurd e (splitC_ne d r)
      | cons h t =>
        rw [e] at ih
        rw [splitC_miss hc e]
        cases t with
        | nil =>
          have ih' : h = r := ih
          rw [← ih'] <;> rfl
        | cons q t =>
          have ih' : h ++ d :: joinC d (q :: t) = r := ih
          rw [← ih'] <;> rfl
theorem joinC_mem {d : Nat} : ∀ {ps : List Tx} {c : Nat}, c ∈ joinC d ps → c = d ∨ ∃ p ∈ ps, c ∈ p
  | [], c, h => by cases h
  | [p], c, h => .inr ⟨p, by simp, h⟩
  | p :: q :: r, c, h => by
    rw [joinC] at h
    rcases List.mem_append.mp h with h | h
    · exact .inr ⟨p, by simp, h⟩
    · rcases List.mem_cons.mp h with h | h
      · exact .inl h
      · rcases joinC_mem h with h | ⟨x, hx, hc⟩
        · exact .inl h
        · exact .inr ⟨x, by simp [hx], hc⟩
theorem joinC_cons (d : Nat) (p : Tx) {ps : List Tx} (h : ps ≠ []) : joinC d (p :: ps) = p ++ d :: joinC d ps := by
  cases ps with
  | nil => exact absurd rfl h
  | cons q r => rfl
/-- each part with a d ahead -/
theorem flat_join (d : Nat) : ∀ {ps : List Tx}, ps ≠ [] → (ps.map (d :: ·)).flatten = d :: joinC d ps
  | [], h => absurd rfl h
  | [p], _ => by simp [joinC]
  | p :: q :: r, _ => by
    rw [List.map_cons, List.flatten_cons, flat_join d (ps := q :: r) (by simp)]
    simp [joinC]
/-! ## signs -/
def smallC (c : Nat) : Bool := decide (97 ≤ c) && decide (c ≤ 122)
def capC (c : Nat) : Bool := decide (65 ≤ c) && decide (c ≤ 90)
def figC (c : Nat) : Bool := decide (48 ≤ c) && decide (c ≤ 57)
def hostC (c : Nat) : Bool := smallC c || capC c || figC c || decide (c = 45)
def hexC (c : Nat) : Bool := figC c || (decide (97 ≤ c) && decide (c ≤ 102)) || (decide (65 ≤ c) && decide (c ≤ 70))
def shexC (c : Nat) : Bool := figC c || (decide (97 ≤ c) && decide (c ≤ 102))
def plainC (c : Nat) : Bool := smallC c || capC c || figC c || decide (c = 45) || decide (c = 46) || decide (c = 95)
def lowC (c : Nat) : Nat := if capC c = true then c + 32 else c
def low (l : Tx) : Tx := l.map lowC
theorem capC_iff {c : Nat} : capC c = true ↔ 65 ≤ c ∧ c ≤ 90 := by simp [capC]
theorem smallC_iff {c : Nat} : smallC c = true ↔ 97 ≤ c ∧ c ≤ 122 := by simp [smallC]
theorem figC_iff {c : Nat} : figC c = true ↔ 48 ≤ c ∧ c ≤ 57 := by simp [figC]
theorem hostC_iff {c : Nat} : hostC c = true ↔ (97 ≤ c ∧ c ≤ 122) ∨ (65 ≤ c ∧ c ≤ 90) ∨ (48 ≤ c ∧ c ≤ 57) ∨ c = 45 := by simp [hostC, smallC, capC, figC, or_assoc]
theorem hexC_iff {c : Nat} : hexC c = true ↔ (48 ≤ c ∧ c ≤ 57) ∨ (97 ≤ c ∧ c ≤ 102) ∨ (65 ≤ c ∧ c ≤ 70) := by simp [hexC, figC, or_assoc]
theorem shexC_iff {c : Nat} : shexC c = true ↔ (48 ≤ c ∧ c ≤ 57) ∨ (97 ≤ c ∧ c ≤ 102) := by simp [shexC, figC]
theorem plainC_iff {c : Nat} : plainC c = true ↔ (97 ≤ c ∧ c ≤ 122) ∨ (65 ≤ c ∧ c ≤ 90) ∨ (48 ≤ c ∧ c ≤ 57) ∨ c = 45 ∨ c = 46 ∨ c = 95 := by simp [plainC, smallC, capC, figC, or_assoc]
theorem lowC_lt {c n : Nat} (h : c < n) (hn : 123 ≤ n) : lowC c < n := by
  unfold lowC
  split
  · rename_i h2
    rw [capC_iff] at h2
    omega
  · exact h
theorem low_low (l : Tx) : low (low l) = low l := by
  unfold low
  rw [List.map_map]
  apply List.map_congr_left
  intro c _
  show lowC (lowC c) = lowC c
  unfold lowC
  split
  · rename_i h2
    rw [capC_iff] at h2
    rw [if_neg]
    rw [capC_iff]
    omega
  · rfl
theorem low_app (a b : Tx) : low (a ++ b) = low a ++ low b := by unfold low; rw [List.map_append]
theorem hex_low {c : Nat} (h : hexC c = true) : shexC (lowC c) = true := by
  rw [hexC_iff] at h
  rw [shexC_iff]
  unfold lowC
  split
  · rename_i h2
    rw [capC_iff] at h2
    omega
  · rename_i h2
    rw [capC_iff] at h2
    omega
theorem shex_low {c : Nat} (h : shexC c = true) : lowC c = c := by
  rw [shexC_iff] at h
  unfold lowC
  rw [if_neg]
  rw [capC_iff]
  omega
theorem shex_hex {c : Nat} (h : shexC c = true) : hexC c = true := by
  rw [shexC_iff] at h
  rw [hexC_iff]
  omega
end Kp
namespace Kp
open PySem L2 TL
/-! ## codes -/
def hx2 (a b : Nat) : Nat := Hx.hexNum [a, b]
def codeT (a b : Nat) : Tx := if plainC (hx2 a b) = true then [hx2 a b] else [126, lowC a, lowC b]
/-- told_signs, of a written text -/
def toldL : Tx → Tx
  | [] => []
  | c :: r => if c = 126 then (match r with
    | a :: b :: r' => codeT a b ++ toldL r'
    | _ => []) else c :: toldL r
theorem toldL_code (a b : Nat) (r : Tx) : toldL (126 :: a :: b :: r) = codeT a b ++ toldL r := by simp [toldL]
theorem toldL_sign {c : Nat} (r : Tx) (h : c ≠ 126) : toldL (c :: r) = c :: toldL r := (toldL.eq_def (c :: r)).trans (if_neg h)
/-- is_written -/
def isW : Tx → Bool
  | [] => true
  | c :: r => decide (33 ≤ c) && decide (c ≤ 126) && (decide (c ≠ 126) || (decide (2 ≤ r.length) && (r.take 2).all hexC)) && isW r
theorem isW_sign {c : Nat} {r : Tx} (h : c ≠ 126) : isW (c :: r) = true ↔ (33 ≤ c ∧ c ≤ 126) ∧ isW r = true := by
  rw [isW]
  simp [h]
theorem isW_hex {c : Nat} {r : Tx} (h : hexC c = true) : isW (c :: r) = isW r := by
  rw [hexC_iff] at h
  have h1 : c ≠ 126 := by omega
  have h2 : 33 ≤ c := by omega
  have h3 : c ≤ 126 := by omega
  rw [isW]
  simp [h1, h2, h3]
theorem isW_code {a b : Nat} {r : Tx} (ha : hexC a = true) (hb : hexC b = true) : isW (126 :: a :: b :: r) = isW r := by
  rw [isW, isW_hex ha, isW_hex hb]
  simp [ha, hb]
theorem isW_cases {c : Nat} {r : Tx} (h : isW (c :: r) = true) : (c ≠ 126 ∧ 33 ≤ c ∧ c ≤ 125 ∧ isW r = true) ∨ (c = 126 ∧ ∃ a b r', r = a :: b :: r' ∧ hexC a = true ∧ hexC b = true ∧ isW r' = true) := by
  by_cases hc : c = 126
  · refine .inr ⟨hc, ?_⟩
    subst hc
    have h0 := h
    rw [isW] at h
    match r, h with
    | [], h => simp at h
    | [a], h => simp at h
    | a :: b :: r', h =>
      simp at h
      have ha := h.1.1
      have hb := h.1.2
      refine ⟨a, b, r', rfl, ha, hb, ?_⟩
      rw [isW_code ha hb] at h0
      exact h0
  · rw [isW_sign hc] at h
    exact .inl ⟨hc, h.1.1, by omega, h.2⟩
theorem isW_ind {P : Tx → Prop} (h0 : P []) (h1 : ∀ c r, c ≠ 126 → 33 ≤ c → c ≤ 125 → isW r = true → P r → P (c :: r))
    (h2 : ∀ a b r, hexC a = true → hexC b = true → isW r = true → P r → P (126 :: a :: b :: r)) : ∀ (n : Nat) (t : Tx), t.length ≤ n → isW t = true → P t
  | _, [], _, _ => h0
  | 0, c :: r, hl, _ => by simp at hl
  | n + 1, c :: r, hl, h => by
    rcases isW_cases h with ⟨a1, a2, a3, a4⟩ | ⟨rfl, a, b, r', rfl, ha, hb, hr⟩
    · exact h1 c r a1 a2 a3 a4 (isW_ind h0 h1 h2 n r (by simp at hl; omega) a4)
    · exact h2 a b r' ha hb hr (isW_ind h0 h1 h2 n r' (by simp at hl; omega) hr)
theorem isW_rec {P : Tx → Prop} {t : Tx} (h : isW t = true) (h0 : P []) (h1 : ∀ c r, c ≠ 126 → 33 ≤ c → c ≤ 125 → isW r = true → P r → P (c :: r))
    (h2 : ∀ a b r, hexC a = true → hexC b = true → isW r = true → P r → P (126 :: a :: b :: r)) : P t := isW_ind h0 h1 h2 t.length t (Nat.le_refl _) h
theorem isW_app {x : Tx} (h : isW x = true) (y : Tx) : isW (x ++ y) = isW y :=
  isW_rec (P := fun x => isW (x ++ y) = isW y) h rfl (fun c r h1 h2 h3 _ ih => by
    have e : isW (c :: (r ++ y)) = isW (r ++ y) := by rw [isW]; simp [h1, h2]; omega
    exact e.trans ih) (fun a b r ha hb _ ih => by
    have e : isW (126 :: a :: b :: (r ++ y)) = isW (r ++ y) := isW_code ha hb
    exact e.trans ih)
theorem toldL_app {x : Tx} (h : isW x = true) (y : Tx) : toldL (x ++ y) = toldL x ++ toldL y :=
  isW_rec (P := fun x => toldL (x ++ y) = toldL x ++ toldL y) h rfl (fun c r h1 h2 h3 _ ih => by
    show toldL (c :: (r ++ y)) = _
    rw [toldL_sign _ h1, toldL_sign _ h1, ih] <;> rfl) (fun a b r ha hb _ ih => by
    show toldL (126 :: a :: b :: (r ++ y)) = _
    rw [toldL_code, toldL_code, ih, List.append_assoc])
theorem isW_bound {x : Tx} (h : isW x = true) : ∀ c ∈ x, 33 ≤ c ∧ c ≤ 126 := by
  induction x with
  | nil => intro c hc; cases hc
  | cons y r ih =>
    rw [isW] at h
    simp only [Bool.and_eq_true, decide_eq_true_eq] at h
    intro c hc
    rcases List.mem_cons.mp hc with e | hc
    · subst e; exact ⟨h.1.1.1, h.1.1.2⟩
    · exact ih h.2 c hc
theorem isW_join {d : Nat} (h1 : 33 ≤ d) (h2 : d ≤ 125) : ∀ {ps : List Tx}, (∀ p ∈ ps, isW p = true) → isW (joinC d ps) = true
  | [], _ => rfl
  | [p], h => h p (by simp)
  | p :: q :: r, h => by
    rw [joinC, isW_app (h p (by simp)), isW_sign (by omega)]
    exact ⟨⟨h1, by omega⟩, isW_join h1 h2 fun x hx => h x (by simp [hx])⟩
theorem told_join {d : Nat} (h1 : 33 ≤ d) (h2 : d ≤ 125) : ∀ {ps : List Tx}, (∀ p ∈ ps, isW p = true) → toldL (joinC d ps) = joinC d (ps.map toldL)
  | [], _ => rfl
  | [p], h => rfl
  | p :: q :: r, h => by
    rw [joinC, toldL_app (h p (by simp)), toldL_sign _ (by omega), told_join h1 h2 fun x hx => h x (by simp [hx])]
    rfl
/-! ## told texts -/
inductive IsT : Tx → Prop
  | nil : IsT []
  | sign (c : Nat) (r : Tx) : 33 ≤ c → c ≤ 125 → IsT r → IsT (c :: r)
  | code (a b : Nat) (r : Tx) : shexC a = true → shexC b = true → plainC (hx2 a b) = false → IsT r → IsT (126 :: a :: b :: r)
theorem IsT.app {x y : Tx} (hx : IsT x) (hy : IsT y) : IsT (x ++ y) := by
  induction hx with
  | nil => exact hy
  | sign c r h1 h2 _ ih => exact .sign c _ h1 h2 ih
  | code a b r h1 h2 h3 _ ih => exact .code a b _ h1 h2 h3 ih
theorem IsT.w {x : Tx} (hx : IsT x) : isW x = true := by
  induction hx with
  | nil => rfl
  | sign c r h1 h2 _ ih => rw [isW_sign (by omega)]; exact ⟨⟨h1, by omega⟩, ih⟩
  | code a b r h1 h2 h3 _ ih => rw [isW_code (shex_hex h1) (shex_hex h2)]; exact ih
theorem IsT.told {x : Tx} (hx : IsT x) : toldL x = x := by
  induction hx with
  | nil => rfl
  | sign c r h1 h2 _ ih => rw [toldL_sign _ (by omega), ih]
  | code a b r h1 h2 h3 _ ih =>
    rw [toldL_code, ih, codeT, if_neg (by rw [h3]; exact Bool.false_ne_true), shex_low h1, shex_low h2] <;> rfl
theorem plain_bound {c : Nat} (h : plainC c = true) : 33 ≤ c ∧ c ≤ 125 := by
  rw [plainC_iff] at h
  omega
theorem hv_low {c : Nat} (h : hexC c = true) : Hx.hv (lowC c) = Hx.hv c := by
  rw [hexC_iff] at h
  unfold lowC
  split
  · rename_i h2
    rw [capC_iff] at h2
    unfold Hx.hv
    rw [if_neg (by omega), if_pos (by omega), if_neg (by omega), if_neg (by omega)]
    omega
  · rfl
theorem hx2_low {a b : Nat} (ha : hexC a = true) (hb : hexC b = true) : hx2 (lowC a) (lowC b) = hx2 a b := by
  show (0 * 16 + Hx.hv (lowC a)) * 16 + Hx.hv (lowC b) = (0 * 16 + Hx.hv a) * 16 + Hx.hv b
  rw [hv_low ha, hv_low hb]
theorem codeT_isT {a b : Nat} (ha : hexC a = true) (hb : hexC b = true) : IsT (codeT a b) := by
  unfold codeT
  split
  · rename_i h
    have q := plain_bound h
    exact .sign _ _ q.1 q.2 .nil
  · rename_i h
    refine .code _ _ _ (hex_low ha) (hex_low hb) ?_ .nil
    rw [hx2_low ha hb]
    exact Bool.eq_false_iff.mpr h
theorem told_isT {x : Tx} (h : isW x = true) : IsT (toldL x) :=
  isW_rec (P := fun x => IsT (toldL x)) h .nil (fun c r h1 h2 h3 _ ih => by rw [toldL_sign _ h1]; exact .sign _ _ h2 h3 ih) (fun a b r ha hb _ ih => by rw [toldL_code]; exact (codeT_isT ha hb).app ih)
theorem told_free {d : Nat} (h1 : plainC d = false) (h2 : d ≠ 126) (h3 : shexC d = false) {x : Tx} (h : isW x = true) : d ∉ x → d ∉ toldL x :=
  isW_rec (P := fun x => d ∉ x → d ∉ toldL x) h (fun z => z) (fun c r a1 _ _ _ ih z => by
    rw [toldL_sign _ a1]
    simp only [List.mem_cons, not_or] at z ⊢
    exact ⟨z.1, ih z.2⟩) (fun a b r ha hb _ ih z => by
    rw [toldL_code]
    simp only [List.mem_cons, not_or] at z
    rw [List.mem_append, not_or]
    refine ⟨?_, ih z.2.2.2⟩
    unfold codeT
    split
    · rename_i q
      simp only [List.mem_singleton]
      intro e
      rw [e, q] at h1
      cases h1
    · have l1 := hex_low ha
      have l2 := hex_low hb
      simp only [List.mem_cons, List.not_mem_nil, or_false, not_or]
      refine ⟨h2, fun e => ?_, fun e => ?_⟩
      · rw [e, l1] at h3; cases h3
      · rw [e, l2] at h3; cases h3)
theorem IsT.split {d : Nat} (hd : d ≠ 126) (hd2 : shexC d = false) {x : Tx} (hx : IsT x) : ∀ p ∈ splitC d x, IsT p := by
  induction hx with
  | nil =>
    intro p hp
    simp [splitC] at hp
    subst hp
    exact .nil
  | sign c r h1 h2 _ ih =>
    intro p hp
    by_cases hc : c = d
    · subst hc
      rw [splitC_hit] at hp
      rcases List.mem_cons.mp hp with e | hp
      · subst e; exact .nil
      · exact ih p hp
    · cases e : splitC d r with
      | nil => exact absurd e (splitC_ne d r)
      | cons h t =>
        rw [splitC_miss hc e] at hp
        rw [e] at ih
        rcases List.mem_cons.mp hp with e2 | hp
        · subst e2
          exact .sign c h h1 h2 (ih h (by simp))
        · exact ih p (by simp [hp])
  | code a b r h1 h2 h3 _ ih =>
    intro p hp
    have na : a ≠ d := fun e => by rw [e, hd2] at h1; cases h1
    have nb : b ≠ d := fun e => by rw [e, hd2] at h2; cases h2
    cases e : splitC d r with
    | nil => exact absurd e (splitC_ne d r)
    | cons h t =>
      rw [splitC_miss (Ne.symm hd) (splitC_miss na (splitC_miss nb e))] at hp
      rw [e] at ih
      rcases List.mem_cons.mp hp with e2 | hp
      · subst e2
        exact .code a b h h1 h2 h3 (ih h (by simp))
      · exact ih p (by simp [hp])
theorem IsT.join {d : Nat} (h1 : 33 ≤ d) (h2 : d ≤ 125) : ∀ {ps : List Tx}, (∀ p ∈ ps, IsT p) → IsT (joinC d ps)
  | [], _ => .nil
  | [p], h => h p (by simp)
  | p :: q :: r, h => (h p (by simp)).app (.sign d _ h1 h2 (IsT.join h1 h2 fun x hx => h x (by simp [hx])))
/-! ## told_signs as the program does it -/
def pieceT (p : Tx) : Tx := (if plainC (Hx.hexNum (p.take 2)) = true then [Hx.hexNum (p.take 2)] else 126 :: low (p.take 2)) ++ p.drop 2
theorem hex_ne {a : Nat} (h : hexC a = true) : a ≠ 126 := by
  rw [hexC_iff] at h
  omega
theorem told_pieces {x : Tx} (h : isW x = true) : ∃ p ps, splitC 126 x = p :: ps ∧ (∀ q ∈ ps, ∃ a b r, q = a :: b :: r ∧ hexC a = true ∧ hexC b = true) ∧ toldL x = p ++ (ps.map pieceT).flatten :=
  isW_rec (P := fun x => ∃ p ps, splitC 126 x = p :: ps ∧ (∀ q ∈ ps, ∃ a b r, q = a :: b :: r ∧ hexC a = true ∧ hexC b = true) ∧ toldL x = p ++ (ps.map pieceT).flatten) h
    ⟨[], [], rfl, by simp, rfl⟩ (fun c r h1 _ _ _ ih => by
      obtain ⟨p, ps, e1, e2, e3⟩ := ih
      refine ⟨c :: p, ps, splitC_miss h1 e1, e2, ?_⟩
      rw [toldL_sign _ h1, e3] <;> rfl) (fun a b r ha hb _ ih => by
      obtain ⟨p, ps, e1, e2, e3⟩ := ih
      refine ⟨[], (a :: b :: p) :: ps, ?_, ?_, ?_⟩
      · rw [splitC_hit, splitC_miss (hex_ne ha) (splitC_miss (hex_ne hb) e1)]
      · intro q hq
        rcases List.mem_cons.mp hq with e | hq
        · exact ⟨a, b, p, e, ha, hb⟩
        · exact e2 q hq
      · rw [toldL_code, e3]
        show _ = pieceT (a :: b :: p) ++ (ps.map pieceT).flatten
        rw [← List.append_assoc]
        rfl)
end Kp
namespace Kp
open PySem PySem.Spec PyProof.Rows L2 TL
/-! ## texts in their order -/
def leT (a b : Tx) : Bool := !ltCps b a
theorem leT_iff {a b : Tx} : leT a b = true ↔ a ≤ b := by
  unfold leT
  rw [ltCps_eq, Bool.not_eq_true', decide_eq_false_iff_not]
  exact Iff.rfl
theorem leT_trans (a b c : Tx) (h1 : leT a b = true) (h2 : leT b c = true) : leT a c = true := by
  rw [leT_iff] at *
  exact List.le_trans h1 h2
theorem leT_total (a b : Tx) : (leT a b || leT b a) = true := by
  rw [Bool.or_eq_true, leT_iff, leT_iff]
  exact List.le_total a b
theorem leT_anti {a b : Tx} (h1 : leT a b = true) (h2 : leT b a = true) : a = b := by
  rw [leT_iff] at *
  exact List.le_antisymm h1 h2
def sortT (l : List Tx) : List Tx := l.mergeSort leT
theorem sortT_perm (l : List Tx) : (sortT l).Perm l := List.mergeSort_perm l leT
theorem sortT_pw (l : List Tx) : (sortT l).Pairwise (fun a b => leT a b = true) := List.pairwise_mergeSort leT_trans leT_total l
theorem sort_uniq {l m : List Tx} (h1 : l.Pairwise (fun a b => leT a b = true)) (h2 : m.Pairwise (fun a b => leT a b = true)) (p : l.Perm m) : l = m :=
  List.Perm.eq_of_pairwise (le := fun a b => leT a b = true) (fun a b _ _ x y => leT_anti x y) h1 h2 p
theorem sortT_eq {l m : List Tx} (h1 : l.Pairwise (fun a b => leT a b = true)) (p : l.Perm m) : l = sortT m := sort_uniq h1 (sortT_pw m) (p.trans (sortT_perm m).symm)
theorem sortT_congr {l m : List Tx} (p : l.Perm m) : sortT l = sortT m := sortT_eq (sortT_pw l) ((sortT_perm l).trans p)
theorem sortT_self {l : List Tx} (h1 : l.Pairwise (fun a b => leT a b = true)) : sortT l = l := (sortT_eq h1 (List.Perm.refl l)).symm
theorem sortT_idem (l : List Tx) : sortT (sortT l) = sortT l := sortT_self (sortT_pw l)
theorem rising_pw : ∀ (p : Str) (l : List Str), risingS p l = true → ((p :: l).map tl).Pairwise (fun a b => leT a b = true)
  | p, [], _ => by simp
  | p, x :: r, h => by
    have h' : (!ltCps x.cps.toList p.cps.toList && risingS x r) = true := h
    rw [Bool.and_eq_true] at h'
    have ih := rising_pw x r h'.2
    rw [List.map_cons, List.pairwise_cons]
    refine ⟨fun y hy => ?_, ih⟩
    have e1 : leT (tl p) (tl x) = true := h'.1
    rw [List.map_cons] at hy ih
    rcases List.mem_cons.mp hy with e | hy
    · rw [e]; exact e1
    · exact leT_trans _ _ _ e1 ((List.pairwise_cons.mp ih).1 y hy)
theorem sortedS_pw (l : List Str) (h : sortedS l = true) : (l.map tl).Pairwise (fun a b => leT a b = true) := by
  cases l with
  | nil => simp
  | cons p r => exact rising_pw p r h
theorem sortedS_sortT {ys xs : List Str} (p : ys.Perm xs) (h : sortedS ys = true) : ys.map tl = sortT (xs.map tl) := sortT_eq (sortedS_pw ys h) (p.map tl)
/-! ## hosts -/
abbrev www : Tx := [119, 119, 119]
def hostL : List Tx → List Tx
  | p :: q :: r :: rest => if p = www then hostL (q :: r :: rest) else p :: q :: r :: rest
  | l => l
theorem hostL_www (q r : Tx) (rest : List Tx) : hostL (www :: q :: r :: rest) = hostL (q :: r :: rest) := by simp [hostL]
theorem hostL_other {p q r : Tx} {rest : List Tx} (h : p ≠ www) : hostL (p :: q :: r :: rest) = p :: q :: r :: rest := by simp [hostL, h]
theorem hostL_short {l : List Tx} (h : l.length ≤ 2) : hostL l = l := by
  match l, h with
  | [], _ => rfl
  | [_], _ => rfl
  | [_, _], _ => rfl
  | _ :: _ :: _ :: _, h => simp at h
theorem hostL_idem : ∀ l : List Tx, hostL (hostL l) = hostL l
  | [] => rfl
  | [_] => rfl
  | [_, _] => rfl
  | p :: q :: r :: rest => by
    by_cases h : p = www
    · subst h
      rw [hostL_www, hostL_idem (q :: r :: rest)]
    · rw [hostL_other h, hostL_other h]
theorem hostL_sub : ∀ (l : List Tx), ∀ p ∈ hostL l, p ∈ l
  | [], p, h => h
  | [_], p, h => h
  | [_, _], p, h => h
  | a :: q :: r :: rest, p, h => by
    by_cases e : a = www
    · subst e
      rw [hostL_www] at h
      have := hostL_sub (q :: r :: rest) p h
      simp only [List.mem_cons] at this ⊢
      exact .inr this
    · rw [hostL_other e] at h
      exact h
theorem hostL_ne : ∀ {l : List Tx}, l ≠ [] → hostL l ≠ []
  | [], h => h
  | [_], h => h
  | [_, _], h => h
  | a :: q :: r :: rest, h => by
    by_cases e : a = www
    · subst e
      rw [hostL_www]
      exact hostL_ne (by simp)
    · rw [hostL_other e]
      exact h
theorem hostL_rep {l : List Tx} (h2 : 2 ≤ l.length) (h : 2 < l.length → l.head? ≠ some www) : ∀ k : Nat, hostL (List.replicate k www ++ l) = l
  | 0 => by
    match l, h2, h with
    | [_, _], _, _ => rfl
    | p :: q :: r :: rest, _, h =>
      have e : p ≠ www := fun e => h (by simp) (by simp [e])
      exact hostL_other e
  | k + 1 => by
    have ih := hostL_rep h2 h k
    match l, h2 with
    | p :: q :: rest, _ =>
      rw [List.replicate_succ, List.cons_append]
      cases k with
      | zero =>
        rw [List.replicate_zero, List.nil_append] at ih ⊢
        rw [hostL_www]
        exact ih
      | succ j =>
        rw [List.replicate_succ, List.cons_append] at ih ⊢
        cases j with
        | zero =>
          rw [List.replicate_zero, List.nil_append] at ih ⊢
          rw [hostL_www]
          exact ih
        | succ i =>
          rw [List.replicate_succ, List.cons_append] at ih ⊢
          rw [hostL_www]
          exact ih
/-- is_host -/
def isHostL (h : Tx) : Bool := (splitC 46 h).all fun p => decide (p ≠ []) && p.all hostC
/-! ## ways and asks -/
def stepW (f : List Tx) (p : Tx) : List Tx := if p = [46, 46] then f.dropLast else if p = [] ∨ p = [46] then f else f ++ [p]
def wayL (w : Tx) : List Tx := (splitC 47 (toldL w)).foldl stepW []
def asksL (a : Tx) : List Tx := sortT ((splitC 38 (toldL a)).filter fun p => decide (p ≠ []))
def okPart (p : Tx) : Prop := p ≠ [] ∧ p ≠ [46] ∧ p ≠ [46, 46]
theorem stepW_ok {f : List Tx} {p : Tx} (h : okPart p) : stepW f p = f ++ [p] := by
  unfold stepW
  rw [if_neg h.2.2, if_neg]
  intro z
  rcases z with z | z
  · exact h.1 z
  · exact h.2.1 z
theorem foldW_ok : ∀ {ps : List Tx} {f : List Tx}, (∀ p ∈ ps, okPart p) → ps.foldl stepW f = f ++ ps
  | [], f, _ => by simp
  | p :: r, f, h => by
    rw [List.foldl_cons, stepW_ok (h p (by simp)), foldW_ok fun x hx => h x (by simp [hx])]
    simp
theorem foldW_mem : ∀ {ps : List Tx} {f : List Tx}, ∀ p ∈ ps.foldl stepW f, p ∈ f ∨ (p ∈ ps ∧ okPart p)
  | [], f, p, h => .inl h
  | q :: r, f, p, h => by
    rw [List.foldl_cons] at h
    rcases foldW_mem p h with h | h
    · unfold stepW at h
      split at h
      · exact .inl ((List.dropLast_sublist f).subset h)
      · split at h
        · exact .inl h
        · rename_i a b
          rcases List.mem_append.mp h with h | h
          · exact .inl h
          · have e : p = q := by simpa using h
            subst e
            refine .inr ⟨by simp, fun z => b (.inl z), fun z => b (.inr z), a⟩
    · exact .inr ⟨by simp [h.1], h.2⟩
theorem way_len : ∀ (ps f : List Tx), (ps.foldl stepW f).length ≤ f.length + ps.length
  | [], f => by simp
  | p :: r, f => by
    rw [List.foldl_cons]
    have := way_len r (stepW f p)
    have h2 : (stepW f p).length ≤ f.length + 1 := by
      unfold stepW
      split
      · simp; omega
      · split
        · omega
        · simp
    simp only [List.length_cons]
    omega
end Kp
namespace Kp
open PySem PySem.Spec PyProof.Rows L2 TL
/-! ## cutting an address -/
abbrev leafT : Tx := [108, 101, 97, 102]
abbrev sealT : Tx := [115, 101, 97, 108]
def bef (d : Nat) (l : Tx) : Tx := l.takeWhile (fun c => decide (c ≠ d))
def fro (d : Nat) (l : Tx) : Tx := l.dropWhile (fun c => decide (c ≠ d))
def aft (d : Nat) (l : Tx) : Tx := (fro d l).drop 1
theorem bef_app {d : Nat} : ∀ {x : Tx} {y : Tx}, d ∉ x → (y = [] ∨ ∃ r, y = d :: r) → bef d (x ++ y) = x
  | [], y, _, h => by
    rcases h with rfl | ⟨r, rfl⟩
    · rfl
    · simp [bef]
  | c :: x, y, hx, h => by
    have h1 : c ≠ d := fun e => hx (by simp [e])
    have ih := bef_app (x := x) (y := y) (fun z => hx (by simp [z])) h
    unfold bef at ih ⊢
    rw [List.cons_append, List.takeWhile_cons, if_pos (by simpa using h1), ih]
theorem fro_app {d : Nat} : ∀ {x : Tx} {y : Tx}, d ∉ x → (y = [] ∨ ∃ r, y = d :: r) → fro d (x ++ y) = y
  | [], y, _, h => by
    rcases h with rfl | ⟨r, rfl⟩
    · rfl
    · simp [fro]
  | c :: x, y, hx, h => by
    have h1 : c ≠ d := fun e => hx (by simp [e])
    have ih := fro_app (x := x) (y := y) (fun z => hx (by simp [z])) h
    unfold fro at ih ⊢
    rw [List.cons_append, List.dropWhile_cons, if_pos (by simpa using h1), ih]
theorem bef_free {d : Nat} {x : Tx} (h : d ∉ x) : bef d x = x := by
  have := bef_app (x := x) (y := []) h (.inl rfl)
  rwa [List.append_nil] at this
theorem fro_free {d : Nat} {x : Tx} (h : d ∉ x) : fro d x = [] := by
  have := fro_app (x := x) (y := []) h (.inl rfl)
  rwa [List.append_nil] at this
theorem bef_fro (d : Nat) (l : Tx) : bef d l ++ fro d l = l := List.takeWhile_append_dropWhile
theorem bef_no (d : Nat) : ∀ l : Tx, d ∉ bef d l
  | [] => by simp [bef]
  | c :: r => by
    have ih := bef_no d r
    unfold bef at ih ⊢
    rw [List.takeWhile_cons]
    split
    · rename_i h
      have h' : c ≠ d := by simpa using h
      simp only [List.mem_cons, not_or]
      exact ⟨Ne.symm h', ih⟩
    · simp
theorem fro_hd (d : Nat) : ∀ l : Tx, fro d l = [] ∨ fro d l = d :: aft d l
  | [] => .inl rfl
  | c :: r => by
    have ih := fro_hd d r
    unfold aft fro at ih ⊢
    rw [List.dropWhile_cons]
    split
    · exact ih
    · rename_i h
      have h' : c = d := by simpa using h
      subst h'
      exact .inr rfl
theorem bef_sub {d : Nat} {l : Tx} {c : Nat} (h : c ∈ bef d l) : c ∈ l := by
  rw [← bef_fro d l]
  exact List.mem_append_left _ h
theorem aft_sub {d : Nat} {l : Tx} {c : Nat} (h : c ∈ aft d l) : c ∈ l := by
  rw [← bef_fro d l]
  exact List.mem_append_right _ (List.mem_of_mem_drop h)
theorem bef_len (d : Nat) (l : Tx) : (bef d l).length ≤ l.length := by
  have := congrArg List.length (bef_fro d l)
  rw [List.length_append] at this
  omega
theorem aft_len (d : Nat) (l : Tx) : (aft d l).length ≤ l.length := by
  have := congrArg List.length (bef_fro d l)
  rw [List.length_append] at this
  unfold aft
  rw [List.length_drop]
  omega
theorem par_one (d : Nat) : ∀ (l acc : Tx), par [d] acc l = if d ∈ l then some (acc ++ bef d l, aft d l) else none
  | [], acc => by simp [par]
  | c :: r, acc => by
    by_cases hc : c = d
    · subst hc
      rw [par_hit (by simp [pre]), if_pos (by simp)]
      simp [bef, aft, fro]
    · rw [par_miss (by simp [pre, hc]), par_one d r]
      have e1 : bef d (c :: r) = c :: bef d r := by
        unfold bef
        rw [List.takeWhile_cons, if_pos (by simpa using hc)]
      have e2 : aft d (c :: r) = aft d r := by
        unfold aft fro
        rw [List.dropWhile_cons, if_pos (by simpa using hc)]
      rw [e1, e2]
      by_cases hd : d ∈ r
      · rw [if_pos hd, if_pos (by simp [hd])]
        simp
      · rw [if_neg hd, if_neg]
        simp only [List.mem_cons, not_or]
        exact ⟨Ne.symm hc, hd⟩
def isGateL (g : Tx) : Bool := decide (1 ≤ g.length) && decide (g.length ≤ 5) && g.all figC
/-- is_host, is_gate, is_written of the pieces -/
def okL (host gm way asks : Tx) : Bool := isHostL host && (decide (gm = []) || isGateL (gm.drop 1)) && isW way && isW asks
structure Cut where
  kind : Tx
  host : Tx
  gate : Tx
  way : Tx
  asks : Tx
/-- cut_address -/
def cutR (rest : Tx) : Tx × Tx × Tx × Tx :=
  let ahead := bef 63 (bef 35 rest)
  let place := bef 47 ahead
  (bef 58 place, fro 58 place, aft 47 ahead, aft 63 (bef 35 rest))
def cutL (t : Tx) : Option Cut := match par [58, 47, 47] [] t with
  | none => none
  | some (k, rest) => if low k = leafT ∨ low k = sealT then
      (if okL (cutR rest).1 (cutR rest).2.1 (cutR rest).2.2.1 (cutR rest).2.2.2 = true then some ⟨low k, low (cutR rest).1, (cutR rest).2.1.drop 1, (cutR rest).2.2.1, (cutR rest).2.2.2⟩ else none)
    else none
theorem cutR_app {h g w a s : Tx} (h1 : 58 ∉ h ∧ 47 ∉ h ∧ 63 ∉ h ∧ 35 ∉ h) (g1 : g = [] ∨ ∃ r, g = 58 :: r) (g2 : 47 ∉ g ∧ 63 ∉ g ∧ 35 ∉ g) (w1 : w = [] ∨ ∃ r, w = 47 :: r) (w2 : 63 ∉ w ∧ 35 ∉ w)
    (a1 : a = [] ∨ ∃ r, a = 63 :: r) (a2 : 35 ∉ a) (s1 : s = [] ∨ ∃ r, s = 35 :: r) : cutR (h ++ (g ++ (w ++ (a ++ s)))) = (h, g, w.drop 1, a.drop 1) := by
  have e1 : bef 35 (h ++ (g ++ (w ++ (a ++ s)))) = h ++ (g ++ (w ++ a)) := by
    have : h ++ (g ++ (w ++ (a ++ s))) = (h ++ (g ++ (w ++ a))) ++ s := by simp
    rw [this]
    exact bef_app (by simp [h1.2.2.2, g2.2.2, w2.2, a2]) s1
  have e2 : h ++ (g ++ (w ++ a)) = (h ++ (g ++ w)) ++ a := by simp
  have n2 : 63 ∉ h ++ (g ++ w) := by simp [h1.2.2.1, g2.2.1, w2.1]
  have e3 : h ++ (g ++ w) = (h ++ g) ++ w := by simp
  have n3 : 47 ∉ h ++ g := by simp [h1.2.1, g2.1]
  unfold cutR
  rw [e1]
  have b2 : bef 63 (h ++ (g ++ (w ++ a))) = h ++ (g ++ w) := by rw [e2]; exact bef_app n2 a1
  have f2 : aft 63 (h ++ (g ++ (w ++ a))) = a.drop 1 := by unfold aft; rw [e2, fro_app n2 a1]
  have b3 : bef 47 (h ++ (g ++ w)) = h ++ g := by rw [e3]; exact bef_app n3 w1
  have f3 : aft 47 (h ++ (g ++ w)) = w.drop 1 := by unfold aft; rw [e3, fro_app n3 w1]
  simp only []
  rw [b2, f2, b3, f3, bef_app h1.1 g1, fro_app h1.1 g1]
theorem hostC_free {c : Nat} (h : hostC c = true) : c ≠ 58 ∧ c ≠ 47 ∧ c ≠ 63 ∧ c ≠ 35 ∧ c ≠ 46 := by
  rw [hostC_iff] at h
  omega
theorem isHostL_mem {h : Tx} (e : isHostL h = true) : ∀ c ∈ h, hostC c = true ∨ c = 46 := by
  intro c hc
  rw [← join_split 46 h] at hc
  rcases joinC_mem hc with z | ⟨p, hp, hc⟩
  · exact .inr z
  · unfold isHostL at e
    have q := List.all_eq_true.mp e p hp
    simp only [Bool.and_eq_true] at q
    exact .inl (List.all_eq_true.mp q.2 c hc)
theorem isHostL_free {h : Tx} (e : isHostL h = true) : 58 ∉ h ∧ 47 ∉ h ∧ 63 ∉ h ∧ 35 ∉ h := by
  refine ⟨fun z => ?_, fun z => ?_, fun z => ?_, fun z => ?_⟩
  all_goals
    rcases isHostL_mem e _ z with q | q
    · have := hostC_free q; omega
    · omega
theorem isGateL_free {g : Tx} (e : isGateL g = true) : 47 ∉ g ∧ 63 ∉ g ∧ 35 ∉ g := by
  unfold isGateL at e
  simp only [Bool.and_eq_true] at e
  have q := List.all_eq_true.mp e.2
  refine ⟨fun z => ?_, fun z => ?_, fun z => ?_⟩
  all_goals
    have := figC_iff.mp (q _ z)
    omega
/-- THE READING of a text put together of its pieces -/
theorem cutL_app {k h g w a s : Tx} (hk : 58 ∉ k) (hk2 : low k = leafT ∨ low k = sealT) (hh : isHostL h = true) (hg : g = [] ∨ ∃ r, g = 58 :: r ∧ isGateL r = true) (w1 : w = [] ∨ ∃ r, w = 47 :: r) (w2 : 63 ∉ w ∧ 35 ∉ w) (w3 : isW (w.drop 1) = true)
    (a1 : a = [] ∨ ∃ r, a = 63 :: r) (a2 : 35 ∉ a) (a3 : isW (a.drop 1) = true) (s1 : s = [] ∨ ∃ r, s = 35 :: r) :
    cutL (k ++ (58 :: 47 :: 47 :: (h ++ (g ++ (w ++ (a ++ s)))))) = some ⟨low k, low h, g.drop 1, w.drop 1, a.drop 1⟩ := by
  have e0 : par [58, 47, 47] [] (k ++ (58 :: 47 :: 47 :: (h ++ (g ++ (w ++ (a ++ s)))))) = some (k, h ++ (g ++ (w ++ (a ++ s)))) :=
    par_part1 (s := 58) (S := [47, 47]) (p := k) (rest := h ++ (g ++ (w ++ (a ++ s)))) (acc := []) hk
  have g1 : g = [] ∨ ∃ r, g = 58 :: r := hg.imp id fun ⟨r, e, _⟩ => ⟨r, e⟩
  have g2 : 47 ∉ g ∧ 63 ∉ g ∧ 35 ∉ g := by
    rcases hg with rfl | ⟨r, rfl, q⟩
    · simp
    · have := isGateL_free q
      simp [this.1, this.2.1, this.2.2]
  have ok : okL h g (w.drop 1) (a.drop 1) = true := by
    unfold okL
    rw [hh, w3, a3]
    rcases hg with rfl | ⟨r, rfl, q⟩
    · simp
    · simp [q]
  unfold cutL
  rw [e0]
  simp only []
  rw [cutR_app (isHostL_free hh) g1 g2 w1 w2 a1 a2 s1, if_pos hk2]
  simp only []
  rw [if_pos ok]
end Kp
namespace Kp
open PySem PySem.Spec PyProof.Rows L2 TL
/-! ## a page: what an address holds -/
structure Pg where
  kind : Tx
  host : Tx
  gate : Nat
  parts : List Tx
  asks : List Tx
def ownG (k : Tx) : Nat := if k = leafT then 70 else 700
def valsC (c : Cut) : Pg := ⟨c.kind, joinC 46 (hostL (splitC 46 c.host)), if c.gate = [] then ownG c.kind else NumText.digitsVal c.gate, wayL c.way, asksL c.asks⟩
def valsOf (t : Tx) : Option Pg := (cutL t).map valsC
def gateP (v : Pg) : Tx := if v.gate = ownG v.kind then [] else 58 :: numL v.gate
def wayP (ps : List Tx) : Tx := (ps.map (47 :: ·)).flatten
def askP (as : List Tx) : Tx := if as = [] then [] else 63 :: joinC 38 as
def formL (v : Pg) : Tx := v.kind ++ (58 :: 47 :: 47 :: (v.host ++ (gateP v ++ (wayP v.parts ++ askP v.asks))))
structure WfPg (v : Pg) : Prop where
  kind : v.kind = leafT ∨ v.kind = sealT
  host : isHostL v.host = true
  hlow : low v.host = v.host
  hfin : hostL (splitC 46 v.host) = splitC 46 v.host
  gate : v.gate < 100000
  parts : ∀ p ∈ v.parts, IsT p ∧ 47 ∉ p ∧ 63 ∉ p ∧ 35 ∉ p ∧ okPart p
  asks : ∀ p ∈ v.asks, IsT p ∧ 35 ∉ p ∧ 38 ∉ p ∧ p ≠ []
  sorted : sortT v.asks = v.asks
theorem wayP_eq {ps : List Tx} (h : ps ≠ []) : wayP ps = 47 :: joinC 47 ps := flat_join 47 h
theorem wayP_drop {ps : List Tx} : (wayP ps).drop 1 = joinC 47 ps := by
  cases ps with
  | nil => rfl
  | cons p r => rw [wayP_eq (by simp)] <;> rfl
theorem wayP_hd (ps : List Tx) : wayP ps = [] ∨ ∃ r, wayP ps = 47 :: r := by
  cases ps with
  | nil => exact .inl rfl
  | cons p r => exact .inr ⟨_, wayP_eq (by simp)⟩
theorem askP_drop {ps : List Tx} : (askP ps).drop 1 = joinC 38 ps := by
  unfold askP
  split
  · rename_i h; subst h; rfl
  · rfl
theorem askP_hd (ps : List Tx) : askP ps = [] ∨ ∃ r, askP ps = 63 :: r := by
  unfold askP
  split
  · exact .inl rfl
  · exact .inr ⟨_, rfl⟩
/-- the parts of a way of told parts -/
theorem wayL_join {ps : List Tx} (h : ∀ p ∈ ps, IsT p ∧ 47 ∉ p ∧ okPart p) : wayL (joinC 47 ps) = ps := by
  unfold wayL
  rw [(IsT.join (d := 47) (by decide) (by decide) fun p hp => (h p hp).1).told]
  cases ps with
  | nil => rfl
  | cons p r =>
    rw [splitC_join (by simp) fun x hx => (h x hx).2.1, foldW_ok fun x hx => (h x hx).2.2]
    rfl
theorem asksL_join {ps : List Tx} (h : ∀ p ∈ ps, IsT p ∧ 38 ∉ p ∧ p ≠ []) (hs : sortT ps = ps) : asksL (joinC 38 ps) = ps := by
  unfold asksL
  rw [(IsT.join (d := 38) (by decide) (by decide) fun p hp => (h p hp).1).told]
  cases ps with
  | nil => exact hs
  | cons p r =>
    rw [splitC_join (by simp) fun x hx => (h x hx).2.1]
    have e : (p :: r).filter (fun p => decide (p ≠ [])) = p :: r := by
      rw [List.filter_eq_self]
      intro a ha
      exact decide_eq_true (h a ha).2.2
    rw [e, hs]
theorem digits_gate {n : Nat} (h : n < 100000) : isGateL (numL n) = true := by
  unfold isGateL
  have h1 : 1 ≤ (numL n).length := by
    cases e : numL n with
    | nil => exact absurd e (numL_ne n)
    | cons a b => simp
  have h2 : (numL n).length ≤ 5 := numL_len (k := 5) (by decide) h
  rw [decide_eq_true h1, decide_eq_true h2]
  simp only [Bool.true_and]
  exact List.all_eq_true.mpr fun c hc => figC_iff.mpr (numL_digits n c hc)
theorem kind_free {k : Tx} (h : k = leafT ∨ k = sealT) : 58 ∉ k ∧ low k = k := by
  rcases h with rfl | rfl
  · exact ⟨by decide, by decide⟩
  · exact ⟨by decide, by decide⟩
theorem form_cut {v : Pg} (w : WfPg v) : cutL (formL v) = some ⟨v.kind, v.host, (gateP v).drop 1, joinC 47 v.parts, joinC 38 v.asks⟩ := by
  have hk := kind_free w.kind
  have tw : IsT (joinC 47 v.parts) := IsT.join (by decide) (by decide) fun p hp => (w.parts p hp).1
  have ta : IsT (joinC 38 v.asks) := IsT.join (by decide) (by decide) fun p hp => (w.asks p hp).1
  have nw : ∀ d, d ≠ 47 → (∀ p ∈ v.parts, d ∉ p) → d ∉ wayP v.parts := by
    intro d hd h z
    cases e : v.parts with
    | nil => rw [e] at z; cases z
    | cons p r =>
      rw [e] at z h
      rw [wayP_eq (by simp)] at z
      rcases List.mem_cons.mp z with z | z
      · exact hd z
      · rcases joinC_mem z with z | ⟨q, hq, z⟩
        · exact hd z
        · exact h q hq z
  have na : 35 ∉ askP v.asks := by
    intro z
    unfold askP at z
    split at z
    · cases z
    · rcases List.mem_cons.mp z with z | z
      · cases z
      · rcases joinC_mem z with z | ⟨q, hq, z⟩
        · cases z
        · exact (w.asks q hq).2.1 z
  have hg : gateP v = [] ∨ ∃ r, gateP v = 58 :: r ∧ isGateL r = true := by
    unfold gateP
    split
    · exact .inl rfl
    · exact .inr ⟨_, rfl, digits_gate w.gate⟩
  have key := cutL_app (k := v.kind) (h := v.host) (g := gateP v) (w := wayP v.parts) (a := askP v.asks) (s := []) hk.1 (by rw [hk.2]; exact w.kind) w.host hg (wayP_hd _)
    ⟨nw 63 (by decide) fun p hp => (w.parts p hp).2.2.1, nw 35 (by decide) fun p hp => (w.parts p hp).2.2.2.1⟩ (by rw [wayP_drop]; exact tw.w) (askP_hd _) na (by rw [askP_drop]; exact ta.w) (.inl rfl)
  rw [List.append_nil, wayP_drop, askP_drop, hk.2, w.hlow] at key
  exact key
theorem form_vals {v : Pg} (w : WfPg v) : valsOf (formL v) = some v := by
  unfold valsOf
  rw [form_cut w]
  show some (valsC _) = some v
  unfold valsC
  simp only []
  rw [w.hfin, join_split, wayL_join fun p hp => ⟨(w.parts p hp).1, (w.parts p hp).2.1, (w.parts p hp).2.2.2.2⟩, asksL_join (fun p hp => ⟨(w.asks p hp).1, (w.asks p hp).2.2.1, (w.asks p hp).2.2.2⟩) w.sorted]
  have eg : (if List.drop 1 (gateP v) = [] then ownG v.kind else NumText.digitsVal (List.drop 1 (gateP v))) = v.gate := by
    unfold gateP
    by_cases e : v.gate = ownG v.kind
    · rw [if_pos e]
      exact e.symm
    · rw [if_neg e]
      show (if numL v.gate = [] then ownG v.kind else NumText.digitsVal (numL v.gate)) = v.gate
      rw [if_neg (numL_ne _), numL_val]
  rw [eg]
/-! ## what is read is a page -/
theorem digits_lt : ∀ (l : Tx) (a : Nat), (∀ c ∈ l, c ≤ 57) → l.foldl (fun acc c => acc * 10 + (c - 48)) a < (a + 1) * 10 ^ l.length
  | [], a, _ => by simp
  | c :: r, a, h => by
    have h1 := h c (by simp)
    have ih := digits_lt r (a * 10 + (c - 48)) fun x hx => h x (by simp [hx])
    rw [List.foldl_cons]
    refine Nat.lt_of_lt_of_le ih ?_
    rw [List.length_cons, Nat.pow_succ]
    have : a * 10 + (c - 48) + 1 ≤ (a + 1) * 10 := by omega
    calc (a * 10 + (c - 48) + 1) * 10 ^ r.length ≤ ((a + 1) * 10) * 10 ^ r.length := Nat.mul_le_mul_right _ this
      _ = (a + 1) * (10 ^ r.length * 10) := by rw [Nat.mul_assoc, Nat.mul_comm 10]
theorem gate_lt {g : Tx} (h : isGateL g = true) : NumText.digitsVal g < 100000 := by
  unfold isGateL at h
  simp only [Bool.and_eq_true, decide_eq_true_eq] at h
  have q := digits_lt g 0 fun c hc => (figC_iff.mp (List.all_eq_true.mp h.2 c hc)).2
  have h5 : 10 ^ g.length ≤ 10 ^ 5 := Nat.pow_le_pow_right (by decide) h.1.2
  show g.foldl (fun acc c => acc * 10 + (c - 48)) 0 < 100000
  omega
theorem isHostL_join {ps : List Tx} (hne : ps ≠ []) (h : ∀ p ∈ ps, p ≠ [] ∧ p.all hostC = true) : isHostL (joinC 46 ps) = true := by
  have hf : ∀ p ∈ ps, 46 ∉ p := fun p hp z => by
    have := hostC_free (List.all_eq_true.mp (h p hp).2 _ z)
    omega
  unfold isHostL
  rw [splitC_join hne hf]
  exact List.all_eq_true.mpr fun p hp => by
    rw [decide_eq_true (h p hp).1, (h p hp).2]
    rfl
theorem hostC_low {c : Nat} (h : hostC c = true) : hostC (lowC c) = true := by
  unfold lowC
  split
  · rename_i h2
    rw [capC_iff] at h2
    rw [hostC_iff]
    omega
  · exact h
theorem split_low : ∀ l : Tx, (∀ c ∈ l, hostC c = true ∨ c = 46) → splitC 46 (low l) = (splitC 46 l).map low
  | [], _ => rfl
  | c :: r, h => by
    have ih := split_low r fun x hx => h x (by simp [hx])
    by_cases hc : c = 46
    · subst hc
      show splitC 46 (46 :: low r) = _
      rw [splitC_hit, splitC_hit, ih]
      rfl
    · have hl : lowC c ≠ 46 := by
        rcases h c (by simp) with q | q
        · have := hostC_free (hostC_low q)
          omega
        · exact absurd q hc
      cases e : splitC 46 r with
      | nil => exact absurd e (splitC_ne 46 r)
      | cons p t =>
        rw [e] at ih
        show splitC 46 (lowC c :: low r) = _
        rw [splitC_miss hl ih, splitC_miss hc e]
        rfl
theorem join_low (d : Nat) (hd : lowC d = d) : ∀ ps : List Tx, low (joinC d ps) = joinC d (ps.map low)
  | [] => rfl
  | [p] => rfl
  | p :: q :: r => by
    have ih := join_low d hd (q :: r)
    show low (p ++ d :: joinC d (q :: r)) = low p ++ d :: joinC d ((q :: r).map low)
    rw [low_app, ← ih]
    show low p ++ (lowC d :: low (joinC d (q :: r))) = _
    rw [hd]
theorem cut_ok {t : Tx} {c : Cut} (h : cutL t = some c) : ∃ k rest, par [58, 47, 47] [] t = some (k, rest) ∧ (low k = leafT ∨ low k = sealT) ∧ okL (cutR rest).1 (cutR rest).2.1 (cutR rest).2.2.1 (cutR rest).2.2.2 = true ∧
    c = ⟨low k, low (cutR rest).1, (cutR rest).2.1.drop 1, (cutR rest).2.2.1, (cutR rest).2.2.2⟩ := by
  unfold cutL at h
  cases e : par [58, 47, 47] [] t with
  | none => rw [e] at h; cases h
  | some kr =>
    obtain ⟨k, rest⟩ := kr
    rw [e] at h
    simp only [] at h
    split at h
    · rename_i hk
      split at h
      · rename_i ho
        cases h
        exact ⟨k, rest, rfl, hk, ho, rfl⟩
      · cases h
    · cases h
theorem cut_wf {t : Tx} {c : Cut} (h : cutL t = some c) : WfPg (valsC c) := by
  obtain ⟨k, rest, _, hk, ho, rfl⟩ := cut_ok h
  unfold okL at ho
  simp only [Bool.and_eq_true] at ho
  obtain ⟨⟨⟨hh, hg⟩, hw⟩, ha⟩ := ho
  have hm := isHostL_mem hh
  have sp := split_low _ hm
  have hps : ∀ p ∈ splitC 46 (low (cutR rest).1), p ≠ [] ∧ p.all hostC = true ∧ low p = p := by
    rw [sp]
    intro p hp
    obtain ⟨q, hq, rfl⟩ := List.mem_map.mp hp
    unfold isHostL at hh
    have z := List.all_eq_true.mp hh q hq
    simp only [Bool.and_eq_true, decide_eq_true_eq] at z
    refine ⟨fun e => z.1 (List.map_eq_nil_iff.mp e), ?_, low_low q⟩
    refine List.all_eq_true.mpr fun c hc => ?_
    obtain ⟨x, hx, rfl⟩ := List.mem_map.mp hc
    exact hostC_low (List.all_eq_true.mp z.2 x hx)
  have hne := hostL_ne (splitC_ne 46 (low (cutR rest).1))
  have hsub := hostL_sub (splitC 46 (low (cutR rest).1))
  have hfree : ∀ p ∈ hostL (splitC 46 (low (cutR rest).1)), 46 ∉ p := fun p hp z => by
    have := hostC_free (List.all_eq_true.mp (hps p (hsub p hp)).2.1 _ z)
    omega
  have hsj := splitC_join hne hfree
  have n35 : 35 ∉ bef 35 rest := bef_no 35 rest
  refine ⟨hk, isHostL_join hne fun p hp => ⟨(hps p (hsub p hp)).1, (hps p (hsub p hp)).2.1⟩, ?_, ?_, ?_, ?_, ?_, ?_⟩
  · show low (joinC 46 _) = _
    rw [join_low 46 (by decide)]
    congr 1
    have : (hostL (splitC 46 (low (cutR rest).1))).map low = (hostL (splitC 46 (low (cutR rest).1))).map id := List.map_congr_left fun p hp => (hps p (hsub p hp)).2.2
    rw [this, List.map_id]
  · show hostL (splitC 46 (joinC 46 _)) = splitC 46 (joinC 46 _)
    rw [hsj, hostL_idem]
  · show (if (cutR rest).2.1.drop 1 = [] then ownG (low k) else NumText.digitsVal ((cutR rest).2.1.drop 1)) < 100000
    split
    · unfold ownG
      split <;> omega
    · rename_i hd
      simp only [Bool.or_eq_true, decide_eq_true_eq] at hg
      rcases hg with hg | hg
      · rw [hg] at hd
        exact absurd rfl hd
      · exact gate_lt hg
  · intro p hp
    have hp' : p ∈ (splitC 47 (toldL (cutR rest).2.2.1)).foldl stepW [] := hp
    rcases foldW_mem p hp' with z | ⟨z, ok⟩
    · cases z
    · have n63 : 63 ∉ (cutR rest).2.2.1 := fun q => bef_no 63 (bef 35 rest) (aft_sub q)
      have m35 : 35 ∉ (cutR rest).2.2.1 := fun q => n35 (bef_sub (aft_sub q))
      refine ⟨(told_isT hw).split (by decide) (by decide) p z, fun q => (splitC_mem p z _ q).2 rfl, fun q => ?_, fun q => ?_, ok⟩
      · exact told_free (by decide) (by decide) (by decide) hw n63 (splitC_mem p z _ q).1
      · exact told_free (by decide) (by decide) (by decide) hw m35 (splitC_mem p z _ q).1
  · intro p hp
    have hp1 : p ∈ sortT ((splitC 38 (toldL (cutR rest).2.2.2)).filter fun p => decide (p ≠ [])) := hp
    have hp2 := (sortT_perm _).mem_iff.mp hp1
    obtain ⟨z, hne2⟩ := List.mem_filter.mp hp2
    have m35 : 35 ∉ (cutR rest).2.2.2 := fun q => n35 (aft_sub q)
    refine ⟨(told_isT ha).split (by decide) (by decide) p z, fun q => ?_, fun q => (splitC_mem p z _ q).2 rfl, of_decide_eq_true hne2⟩
    exact told_free (by decide) (by decide) (by decide) ha m35 (splitC_mem p z _ q).1
  · exact sortT_idem _
theorem vals_wf {t : Tx} {v : Pg} (h : valsOf t = some v) : WfPg v := by
  unfold valsOf at h
  cases e : cutL t with
  | none => rw [e] at h; cases h
  | some c =>
    rw [e] at h
    have e2 : valsC c = v := Option.some.inj h
    rw [← e2]
    exact cut_wf e
/-- a told form is its own -/
theorem vals_form {t : Tx} {v : Pg} (h : valsOf t = some v) : valsOf (formL v) = some v := form_vals (vals_wf h)
end Kp
namespace Kp
open PySem PySem.Spec PyProof.Rows L2 TL
/-! ## the law's pages: what it makes, and its ways to write it -/
structure Ct where
  kind : Tx
  host : List Tx
  gate : Nat
  parts : List (List Tx)
  asks : List (List Tx)
/-- an atom: a sign, or a code that is none of a plain one; B: signs that may not be -/
def Atm (B : Tx) (a : Tx) : Prop := (∃ c, a = [c] ∧ 33 ≤ c ∧ c ≤ 125 ∧ c ∉ B) ∨ ∃ x y, a = [126, x, y] ∧ shexC x = true ∧ shexC y = true ∧ plainC (hx2 x y) = false
abbrev BP : Tx := [35, 47, 63]
abbrev BA : Tx := [35, 38]
theorem Atm.isT {B a : Tx} (h : Atm B a) : IsT a := by
  rcases h with ⟨c, rfl, h1, h2, _⟩ | ⟨x, y, rfl, h1, h2, h3⟩
  · exact .sign _ _ h1 h2 .nil
  · exact .code _ _ _ h1 h2 h3 .nil
theorem Atm.ne {B a : Tx} (h : Atm B a) : a ≠ [] := by
  rcases h with ⟨c, rfl, _⟩ | ⟨x, y, rfl, _⟩ <;> simp
theorem Atm.free {B a : Tx} (h : Atm B a) {d : Nat} (hd : d ∈ B) (h1 : d ≠ 126) (h2 : shexC d = false) : d ∉ a := by
  rcases h with ⟨c, rfl, _, _, h3⟩ | ⟨x, y, rfl, a1, a2, _⟩
  · simp only [List.mem_singleton]
    rintro rfl
    exact h3 hd
  · simp only [List.mem_cons, List.not_mem_nil, or_false, not_or]
    refine ⟨h1, fun e => ?_, fun e => ?_⟩
    · rw [e, a1] at h2; cases h2
    · rw [e, a2] at h2; cases h2
theorem isT_flat {l : List Tx} (h : ∀ a ∈ l, IsT a) : IsT l.flatten := by
  induction l with
  | nil => exact .nil
  | cons a r ih => exact (h a (by simp)).app (ih fun x hx => h x (by simp [hx]))
structure Piece (B : Tx) (p : List Tx) : Prop where
  ne : p ≠ []
  at_ : ∀ a ∈ p, Atm B a
theorem Piece.flat_ne {B : Tx} {p : List Tx} (h : Piece B p) : p.flatten ≠ [] := by
  cases p with
  | nil => exact absurd rfl h.ne
  | cons a r =>
    intro e
    rw [List.flatten_cons] at e
    exact (h.at_ a (by simp)).ne (List.append_eq_nil_iff.mp e).1
theorem Piece.isT {B : Tx} {p : List Tx} (h : Piece B p) : IsT p.flatten := isT_flat fun a ha => (h.at_ a ha).isT
theorem Piece.free {B : Tx} {p : List Tx} (h : Piece B p) {d : Nat} (hd : d ∈ B) (h1 : d ≠ 126) (h2 : shexC d = false) : d ∉ p.flatten := by
  intro z
  obtain ⟨a, ha, hz⟩ := List.mem_flatten.mp z
  exact (h.at_ a ha).free hd h1 h2 hz
def wordC (c : Nat) : Bool := smallC c || figC c || decide (c = 45)
theorem wordC_host {c : Nat} (h : wordC c = true) : hostC c = true ∧ lowC c = c := by
  simp only [wordC, Bool.or_eq_true, decide_eq_true_eq, smallC_iff, figC_iff] at h
  refine ⟨by rw [hostC_iff]; omega, ?_⟩
  unfold lowC
  rw [if_neg]
  rw [capC_iff]
  omega
structure WfCt (c : Ct) : Prop where
  kind : c.kind = leafT ∨ c.kind = sealT
  hne : c.host ≠ []
  host : ∀ w ∈ c.host, w ≠ [] ∧ w.all wordC = true
  hhd : 2 < c.host.length → c.host.head? ≠ some www
  gate : c.gate < 100000
  parts : ∀ p ∈ c.parts, Piece BP p ∧ okPart p.flatten
  asks : ∀ p ∈ c.asks, Piece BA p
def pgC (c : Ct) : Pg := ⟨c.kind, joinC 46 c.host, c.gate, c.parts.map List.flatten, sortT (c.asks.map List.flatten)⟩
theorem WfCt.words {c : Ct} (w : WfCt c) : ∀ p ∈ c.host, p ≠ [] ∧ p.all hostC = true ∧ low p = p ∧ 46 ∉ p := by
  intro p hp
  have q := w.host p hp
  have z := List.all_eq_true.mp q.2
  refine ⟨q.1, List.all_eq_true.mpr fun c hc => (wordC_host (z c hc)).1, ?_, fun h => ?_⟩
  · have : p.map lowC = p.map id := List.map_congr_left fun c hc => (wordC_host (z c hc)).2
    show p.map lowC = p
    rw [this, List.map_id]
  · have := hostC_free (wordC_host (z _ h)).1
    omega
theorem WfCt.fin {c : Ct} (w : WfCt c) : hostL c.host = c.host := by
  by_cases h : c.host.length ≤ 2
  · exact hostL_short h
  · have := hostL_rep (l := c.host) (by omega) (fun z => w.hhd z) 0
    simpa using this
theorem WfCt.pg {c : Ct} (w : WfCt c) : WfPg (pgC c) := by
  have hw := w.words
  have hs : splitC 46 (joinC 46 c.host) = c.host := splitC_join w.hne fun p hp => (hw p hp).2.2.2
  refine ⟨w.kind, isHostL_join w.hne fun p hp => ⟨(hw p hp).1, (hw p hp).2.1⟩, ?_, ?_, w.gate, ?_, ?_, sortT_idem _⟩
  · show low (joinC 46 c.host) = _
    rw [join_low 46 (by decide)]
    have : c.host.map low = c.host.map id := List.map_congr_left fun p hp => (hw p hp).2.2.1
    rw [this, List.map_id]
    rfl
  · show hostL (splitC 46 (joinC 46 c.host)) = splitC 46 (joinC 46 c.host)
    rw [hs, w.fin]
  · intro p hp
    obtain ⟨q, hq, rfl⟩ := List.mem_map.mp hp
    have z := w.parts q hq
    exact ⟨z.1.isT, z.1.free (by simp) (by decide) (by decide), z.1.free (by simp) (by decide) (by decide), z.1.free (by simp) (by decide) (by decide), z.2⟩
  · intro p hp
    obtain ⟨q, hq, rfl⟩ := List.mem_map.mp ((sortT_perm _).mem_iff.mp hp)
    have z := w.asks q hq
    exact ⟨z.isT, z.free (by simp) (by decide) (by decide), z.free (by simp) (by decide) (by decide), z.flat_ne⟩
/-! ### ways to write -/
/-- w writes the told text p; no sign of B stands in it -/
structure Cod (B : Tx) (p w : Tx) : Prop where
  isw : isW w = true
  told : toldL w = p
  free : ∀ d ∈ w, d ∉ B
theorem Cod.nil {B : Tx} : Cod B [] [] := ⟨rfl, rfl, by simp⟩
theorem Cod.app {B p q w v : Tx} (h : Cod B p w) (k : Cod B q v) : Cod B (p ++ q) (w ++ v) :=
  ⟨by rw [isW_app h.isw]; exact k.isw, by rw [toldL_app h.isw, h.told, k.told], fun d hd => (List.mem_append.mp hd).elim (h.free d) (k.free d)⟩
def NoHex (B : Tx) : Prop := 126 ∉ B ∧ ∀ d ∈ B, hexC d = false
theorem noHexP : NoHex BP := ⟨by decide, by decide⟩
theorem noHexA : NoHex BA := ⟨by decide, by decide⟩
theorem cod_hex {B : Tx} (nB : NoHex B) {x y x' y' : Nat} (hx : hexC x' = true) (hy : hexC y' = true) (ex : lowC x' = x) (ey : lowC y' = y) (hp : plainC (hx2 x y) = false) : Cod B [126, x, y] [126, x', y'] := by
  refine ⟨(isW_code hx hy).trans rfl, ?_, ?_⟩
  · rw [toldL_code]
    show codeT x' y' ++ [] = _
    rw [List.append_nil, codeT, if_neg, ex, ey]
    rw [← hx2_low hx hy, ex, ey, hp]
    exact Bool.false_ne_true
  · intro d hd z
    have := nB.2 d z
    simp only [List.mem_cons, List.not_mem_nil, or_false] at hd
    rcases hd with e | e | e
    · exact nB.1 (e ▸ z)
    · rw [e, hx] at this; cases this
    · rw [e, hy] at this; cases this
theorem cod_plain {B : Tx} (nB : NoHex B) {c x' y' : Nat} (hx : hexC x' = true) (hy : hexC y' = true) (e : hx2 x' y' = c) (hp : plainC c = true) : Cod B [c] [126, x', y'] := by
  refine ⟨(isW_code hx hy).trans rfl, ?_, ?_⟩
  · rw [toldL_code]
    show codeT x' y' ++ [] = _
    rw [List.append_nil, codeT, if_pos (by rw [e]; exact hp), e]
  · intro d hd z
    have := nB.2 d z
    simp only [List.mem_cons, List.not_mem_nil, or_false] at hd
    rcases hd with e | e | e
    · exact nB.1 (e ▸ z)
    · rw [e, hx] at this; cases this
    · rw [e, hy] at this; cases this
theorem cod_sign {B : Tx} {c : Nat} (h1 : 33 ≤ c) (h2 : c ≤ 125) (h3 : c ∉ B) : Cod B [c] [c] := by
  refine ⟨by rw [isW_sign (by omega)]; exact ⟨⟨h1, by omega⟩, rfl⟩, by rw [toldL_sign _ (by omega)] <;> rfl, ?_⟩
  intro d hd
  rw [List.mem_singleton.mp hd]
  exact h3
/-- segs, each written with a slash ahead, make the parts -/
structure WayW (segs : List Tx) (ps : List Tx) : Prop where
  ok : ∀ s ∈ segs, isW s = true ∧ ∀ d ∈ s, d ∉ BP
  fold : (segs.map toldL).foldl stepW [] = ps
/-- q, behind the ?, writes the asks -/
structure AskW (q : Tx) (ps : List Tx) : Prop where
  isw : isW q = true
  free : 35 ∉ q
  perm : ((splitC 38 (toldL q)).filter fun p => decide (p ≠ [])).Perm ps
/-- t is written of c -/
structure Wr (c : Ct) (t : Tx) : Prop where
  ex : ∃ (k : Tx) (ws : List Tx) (n : Nat) (g : Tx) (segs : List Tx) (a s : Tx), t = k ++ (58 :: 47 :: 47 :: (joinC 46 ws ++ (g ++ (wayP segs ++ (a ++ s))))) ∧ low k = c.kind ∧ ws.map low = List.replicate n www ++ c.host ∧ (∀ w ∈ ws, w.all hostC = true) ∧ (c.host.length ≤ 1 → n = 0) ∧
    ((g = [] ∧ c.gate = ownG c.kind) ∨ ∃ r, g = 58 :: r ∧ isGateL r = true ∧ NumText.digitsVal r = c.gate) ∧ WayW segs (c.parts.map List.flatten) ∧ ((a = [] ∧ c.asks = []) ∨ ∃ q, a = 63 :: q ∧ AskW q (c.asks.map List.flatten)) ∧ (s = [] ∨ ∃ r, s = 35 :: r)
theorem low_free {k : Tx} {x : Tx} (h : low k = x) (hx : x = leafT ∨ x = sealT) : 58 ∉ k := by
  intro z
  have : lowC 58 ∈ low k := List.mem_map.mpr ⟨58, z, rfl⟩
  rw [h] at this
  have e : lowC 58 = 58 := by decide
  rw [e] at this
  rcases hx with rfl | rfl
  · exact absurd this (by decide)
  · exact absurd this (by decide)
theorem wr_vals {c : Ct} (w : WfCt c) {t : Tx} (h : Wr c t) : valsOf t = some (pgC c) := by
  obtain ⟨k, ws, n, g, segs, a, s, rfl, hk, hws, hall, hn, hg, hw, ha, hs⟩ := h.ex
  have hw0 := w.words
  have hwsl : ∀ x ∈ ws, x ≠ [] ∧ x.all hostC = true := by
    intro x hx
    refine ⟨fun e => ?_, hall x hx⟩
    have : low x ∈ ws.map low := List.mem_map.mpr ⟨x, hx, rfl⟩
    rw [hws, e] at this
    rcases List.mem_append.mp this with z | z
    · have := (List.mem_replicate.mp z).2
      cases this
    · exact (hw0 _ z).1 rfl
  have hwne : ws ≠ [] := by
    intro e
    rw [e] at hws
    have := (List.append_eq_nil_iff.mp hws.symm).2
    exact w.hne this
  have hh := isHostL_join hwne hwsl
  have hg1 : g = [] ∨ ∃ r, g = 58 :: r ∧ isGateL r = true := by
    rcases hg with ⟨e, _⟩ | ⟨r, e, q, _⟩
    · exact .inl e
    · exact .inr ⟨r, e, q⟩
  have nP : ∀ d, d ∈ BP → d ≠ 47 → d ∉ wayP segs := by
    intro d hd hd2 z
    cases e : segs with
    | nil => rw [e] at z; cases z
    | cons p r =>
      rw [e, wayP_eq (by simp)] at z
      rcases List.mem_cons.mp z with z | z
      · exact hd2 z
      · rcases joinC_mem z with z | ⟨q, hq, z⟩
        · exact hd2 z
        · exact (hw.ok q (by rw [e]; exact hq)).2 d z hd
  have s47 : ∀ p ∈ segs.map toldL, 47 ∉ p := by
    intro p hp
    obtain ⟨q, hq, rfl⟩ := List.mem_map.mp hp
    exact told_free (by decide) (by decide) (by decide) (hw.ok q hq).1 fun z => (hw.ok q hq).2 47 z (by simp)
  have ww : isW ((wayP segs).drop 1) = true := by
    rw [wayP_drop]
    exact isW_join (by decide) (by decide) fun p hp => (hw.ok p hp).1
  have ha1 : a = [] ∨ ∃ r, a = 63 :: r := by
    rcases ha with ⟨e, _⟩ | ⟨q, e, _⟩
    · exact .inl e
    · exact .inr ⟨q, e⟩
  have ha2 : 35 ∉ a := by
    rcases ha with ⟨e, _⟩ | ⟨q, e, z⟩
    · rw [e]; simp
    · rw [e]
      simp only [List.mem_cons, not_or]
      exact ⟨by decide, z.free⟩
  have ha3 : isW (a.drop 1) = true := by
    rcases ha with ⟨e, _⟩ | ⟨q, e, z⟩
    · rw [e] <;> rfl
    · rw [e]; exact z.isw
  unfold valsOf
  rw [cutL_app (low_free hk w.kind) (by rw [hk]; exact w.kind) hh hg1 (wayP_hd segs) ⟨nP 63 (by simp) (by decide), nP 35 (by simp) (by decide)⟩ ww ha1 ha2 ha3 hs]
  show some (valsC _) = some (pgC c)
  unfold valsC pgC
  simp only []
  have e1 : hostL (splitC 46 (low (joinC 46 ws))) = c.host := by
    rw [join_low 46 (by decide), hws, splitC_join (by intro e; exact w.hne (List.append_eq_nil_iff.mp e).2) ?_]
    · by_cases h1 : c.host.length ≤ 1
      · rw [hn h1, List.replicate_zero, List.nil_append]
        exact w.fin
      · exact hostL_rep (by omega) (fun z => w.hhd z) n
    · intro p hp
      rcases List.mem_append.mp hp with z | z
      · rw [(List.mem_replicate.mp z).2]
        decide
      · exact (hw0 p z).2.2.2
  have e2 : (if g.drop 1 = [] then ownG (low k) else NumText.digitsVal (g.drop 1)) = c.gate := by
    rcases hg with ⟨e, q⟩ | ⟨r, e, q, z⟩
    · rw [e, hk, q] <;> rfl
    · rw [e]
      show (if r = [] then ownG (low k) else NumText.digitsVal r) = c.gate
      rw [if_neg, z]
      intro e0
      rw [e0] at q
      exact absurd q (by decide)
  have e3 : wayL ((wayP segs).drop 1) = c.parts.map List.flatten := by
    rw [wayP_drop]
    unfold wayL
    rw [told_join (by decide) (by decide) fun p hp => (hw.ok p hp).1]
    cases e : segs with
    | nil =>
      have := hw.fold
      rw [e] at this
      rw [← this]
      rfl
    | cons p r =>
      rw [e] at s47
      rw [splitC_join (by simp) s47, ← e]
      exact hw.fold
  have e4 : asksL (a.drop 1) = sortT (c.asks.map List.flatten) := by
    unfold asksL
    rcases ha with ⟨e, q⟩ | ⟨q, e, z⟩
    · rw [e, q] <;> rfl
    · rw [e]
      exact sortT_congr z.perm
  rw [e1, e2, e3, e4, hk]
end Kp
namespace Kp
open PySem PySem.Spec PyProof.Rows L2 TL
variable {P : Program} {w : World} {K : PySem.W.Frag} {mg : Str → Option Value} {base : Heap}
theorem seen_in {s : Str} {f : Nat → Bool} (h : ∀ c, c < 128 → (c ∈ tl s ↔ f c = true)) (hs : ∀ c ∈ tl s, c < 128) (hf : ∀ c, f c = true → c < 128) (c : Nat) : decide (c ∈ s.cps.toList) = f c := by
  have e : (c ∈ tl s) ↔ f c = true := by
    by_cases hc : c < 128
    · exact h c hc
    · exact ⟨fun z => absurd (hs c z) hc, fun z => absurd (hf c z) hc⟩
  have e2 : (c ∈ s.cps.toList) ↔ f c = true := e
  cases q : f c with
  | true => exact decide_eq_true (e2.mpr q)
  | false => exact decide_eq_false fun z => by rw [e2.mp z] at q; cases q
theorem in_host (c : Nat) : decide (c ∈ hostSigns.cps.toList) = hostC c :=
  seen_in (by decide +kernel) (by decide +kernel) (fun c h => by rw [hostC_iff] at h; omega) c
theorem in_fig (c : Nat) : decide (c ∈ figures.cps.toList) = figC c :=
  seen_in (by decide +kernel) (by decide +kernel) (fun c h => by rw [figC_iff] at h; omega) c
theorem in_code (c : Nat) : decide (c ∈ codeSigns.cps.toList) = hexC c :=
  seen_in (by decide +kernel) (by decide +kernel) (fun c h => by rw [hexC_iff] at h; omega) c
/-- a text of one sign -/
abbrev S1 (c : Nat) : Str := ⟨#[c]⟩
/-! ### [test of sign for sign in text] -/
/-- lc over a text whose element is a bool of the sign, told by f; the list is what all(..) asks -/
theorem lc_signs {K : PySem.W.Frag} {g : TG} {te : TE} {vs : List Nat} {σ : L2.St} {H1 : Hp} {D : Addr} {Qd : Hp → Prop} (x : Str) (f : Nat → Bool) (i0 : Nat) (hg : g = gName i0) (hD : H1 D = none) (hx : x.length < 100000)
    (hw : ∀ v, wipe ((wipe σ vs).set i0 (some v)) vs = wipe σ vs)
    (he : ∀ (c : Nat) (H : Hp) (Q : VK), Q (.bl (f c)) H → te ((wipe σ vs).set i0 (some (.str (S1 c)))) H Q)
    (hd : Qd (upd H1 D (.lst (((tl x).map f).map V.bl)))) :
    ∃ W : Nat → Nat → Hp → Prop, (∃ m, W 0 m (upd H1 D (.lst []))) ∧ ∀ i m H, W i m H →
  ((Its x).stop i H ∧ Qd H) ∨ ((Its x).go i H ∧ ∃ Nx : Hp → Prop, (∀ H', Nx H' → ∃ m', m' < m ∧ W (i + 1) m' H') ∧ ∀ y H', (Its x).yld i H y H' → g y (wipe σ vs) H' fun σ2 H2 => wipe σ2 vs = wipe σ vs ∧ tYes σ2 H2 fun b H3 =>
    if b = true then te σ2 H3 fun y H4 => ∃ acc, H4 D = some (.lst acc) ∧ acc.length < sizeLine ∧ Nx (upd H4 D (.lst (acc ++ [y]))) else Nx H3) := by
  subst hg
  have hl : x.cps.size = (tl x).length := by simp [tl]
  have hx' : (tl x).length < 100000 := by rw [← len_tl]; exact hx
  refine ⟨fun i m H => m = (tl x).length - i ∧ i ≤ (tl x).length ∧ H = upd H1 D (.lst ((((tl x).take i).map f).map V.bl)), ⟨_, rfl, Nat.zero_le _, by simp⟩, ?_⟩
  rintro i m H ⟨rfl, hi, rfl⟩
  by_cases hlt : i < (tl x).length
  · refine .inr ⟨by show i < x.cps.size; omega, fun H => H = upd H1 D (.lst ((((tl x).take (i + 1)).map f).map V.bl)), fun H' e => ⟨(tl x).length - (i + 1), by omega, rfl, hlt, e⟩, ?_⟩
    rintro y H' ⟨rfl, c, hc, rfl⟩
    refine ⟨hw _, ?_⟩
    show te _ _ _
    refine he c _ _ ⟨_, upd_same, ?_, ?_⟩
    · simp only [List.length_map, List.length_take]
      have : min i (tl x).length ≤ 100000 := by omega
      exact Nat.lt_of_le_of_lt this (by rw [sizeLine_eq]; decide)
    · show upd (upd H1 D _) D _ = _
      rw [upd_upd]
      have e : (tl x)[i]? = some c := by
        rw [← hc]
        simp [tl]
      rw [List.take_add_one, e]
      simp
  · have e : i = (tl x).length := by omega
    subst e
    refine .inl ⟨by show x.cps.size ≤ _; omega, ?_⟩
    rw [List.take_length]
    exact hd
theorem rd_all {K : PySem.W.Frag} {j i0 : Nat} {te : TE} {σ : L2.St} {H : Hp} {Q : VK} (x : Str) (f : Nat → Bool) (hj : σ[j]? = some (some (.str x))) (hx : x.length < 100000) (hw : ∀ v, wipe ((wipe σ [i0]).set i0 (some v)) [i0] = wipe σ [i0])
    (he : ∀ (c : Nat) (H : Hp) (Q : VK), Q (.bl (f c)) H → te ((wipe σ [i0]).set i0 (some (.str (S1 c)))) H Q)
    (k : ∀ H', Same H H' → Q (.bl ((tl x).all f)) H') : tCB (rAll K) (tCons (tLc (iStr (tVar j)) (gName i0) tYes te [i0]) tNil) σ H Q := by
  refine ⟨_, hj, x, rfl, fun D hD => lc_signs (K := K) (g := gName i0) x f i0 rfl hD hx hw he ?_⟩
  refine ⟨D, (tl x).map f, rfl, SqL.of upd_same, ?_⟩
  have e : ((tl x).map f).all id = (tl x).all f := by rw [List.all_map]; rfl
  rw [e]
  exact k _ (Same.new (Same.refl H) hD)
/-! ### is_gate -/
abbrev sIsGate : Stmt := top 13
abbrev NIsGate : List Str := ["text", "sign"]
theorem scIsGate : FnScope NIsGate ["text"] (defScope sIsGate) := ⟨rfl, rfl, rfl, by decide +kernel, rfl, by decide +kernel, by decide +kernel⟩
def spIsGate : Sp := fun vs H Q _ => ∃ x : Str, vs = [.str x] ∧ x.length < 100000 ∧ ∀ H', Same H H' → Q (.bl (isGateL (tl x))) H'
theorem ok_is_gate (D : DefAt K mg "is_gate" sIsGate) (GL : Glb K w mg) : FnAt P w K mg base CX0 "is_gate" ["text"] [] 1 spIsGate := by
  refine D.ok scIsGate (fun _ _ _ _ _ _ us hl => match us, hl with | [_], _ => rfl) (fun vs H Q E h => ?_) (fun f cdv A outer s H vs Q E hr h => ?_)
  · obtain ⟨x, rfl, _⟩ := h
    rfl
  · obtain ⟨x, rfl, hx, k⟩ := h
    refine ⟨_, (pss_one (ps_ret (pe_and (pe_chain op_le op_le pe_int (pe_callB call_len_str (by rfl) GL.len (by decide +kernel) (pa_cons (pv 0) pa_nil)) (pe_globI rfl GL.MOST_GATE)) (pe_one (pe_callB (cr_all rfl) (by rfl) GL.all (by decide +kernel) (pa_cons (pe_lc (own := [("sign", 1)]) (g := gName 1) rfl scIsGate.nd (pi_str (pv 0)) (blkOk_by (own := [("sign", 1)]) (N := NIsGate) (sc := defScope sIsGate) (by decide +kernel)) (fun _ _ _ _ _ => pg_name (i := 1) scIsGate.nd rfl (Or.inl rfl)) (fun _ _ _ _ _ => pts_nil) (fun _ _ _ _ _ => (pe_cmpR op_in_sign (pv 1) (pe_globS rfl GL.FIGURES) (by rfl)))) pa_nil)))))), ?_⟩
    have hl := len_tl x
    have hsz : x.length ≤ sizeLine := by rw [sizeLine_eq]; omega
    refine ⟨_, rfl, _, rfl, hsz, _, _, rfl, rfl, _, rfl, ?_⟩
    have e1 : (decide ((1 : Int) ≤ (x.length : Int))) = decide (1 ≤ (tl x).length) := decide_eq_decide.mpr (by omega)
    have e2 : (decide ((x.length : Int) ≤ (5 : Int))) = decide ((tl x).length ≤ 5) := decide_eq_decide.mpr (by omega)
    unfold isGateL at k
    rw [e1]
    cases q1 : decide (1 ≤ (tl x).length) with
    | false =>
      rw [q1] at k
      exact iteF ⟨_, rfl, iteF (k H (Same.refl H))⟩
    | true =>
      rw [q1] at k
      refine iteT ⟨_, _, rfl, rfl, _, rfl, ?_⟩
      rw [e2]
      cases q2 : decide ((tl x).length ≤ 5) with
      | false =>
        rw [q2] at k
        exact iteF (k H (Same.refl H))
      | true =>
        rw [q2] at k
        refine iteT (rd_all x figC rfl hx (fun _ => rfl) (fun c H Q q => ?_) k)
        refine ⟨_, rfl, c, figures, rfl, rfl, ?_⟩
        rw [in_fig]
        exact q
/-! ### is_host -/
abbrev sIsHost : Stmt := top 12
abbrev NIsHost : List Str := ["text", "part", "sign"]
theorem scIsHost : FnScope NIsHost ["text"] (defScope sIsHost) := ⟨rfl, rfl, rfl, by decide +kernel, rfl, by decide +kernel, by decide +kernel⟩
def spIsHost : Sp := fun vs H Q _ => ∃ x : Str, vs = [.str x] ∧ x.length < 100000 ∧ ∀ H', Same H H' → Q (.bl (isHostL (tl x))) H'
theorem split1 (x : Str) {y : Str} {d : Nat} (e : tl y = [d]) (hk : y.cps.all (· < 256) = true := by decide +kernel) : (Txt.split x y).map tl = splitC d (tl x) := by
  rw [split_spl x y (by rw [e]; simp) (kind_ok hk), e, spl_split]
theorem split1_len (x : Str) {y : Str} {d : Nat} (e : tl y = [d]) (hk : y.cps.all (· < 256) = true := by decide +kernel) : (Txt.split x y).length ≤ x.length + 1 := by
  have h := congrArg List.length (split1 x e hk)
  rw [List.length_map] at h
  rw [h, len_tl]
  exact splitC_len _
theorem ok_is_host (D : DefAt K mg "is_host" sIsHost) (GL : Glb K w mg) : FnAt P w K mg base CX0 "is_host" ["text"] [] 1 spIsHost := by
  refine D.ok scIsHost (fun _ _ _ _ _ _ us hl => match us, hl with | [_], _ => rfl) (fun vs H Q E h => ?_) (fun f cdv A outer s H vs Q E hr h => ?_)
  · obtain ⟨x, rfl, _⟩ := h
    rfl
  · obtain ⟨x, rfl, hx, k⟩ := h
    refine ⟨_, (pss_cons (ps_for PassesOwn.never rfl (pi_list (pe_split (pv 0) pe_str)) (pg_name (i := 1) scIsHost.nd rfl (Or.inl rfl)) (pss_one (ps_if (PW.pt (pw_or (pt_cmpR op_eq (pv 1) pe_str (nomark _)) (pw_or1 (pt_not (pt_val (pe_callB (cr_all rfl) (by rfl) GL.all (by decide +kernel) (pa_cons (pe_lc (own := [("sign", 2)]) (g := gName 2) rfl scIsHost.nd (pi_str (pv 1)) (blkOk_by (own := [("sign", 2)]) (N := NIsHost) (sc := defScope sIsHost) (by decide +kernel)) (fun _ _ _ _ _ => pg_name (i := 2) scIsHost.nd rfl (Or.inl rfl)) (fun _ _ _ _ _ => pts_nil) (fun _ _ _ _ _ => (pe_cmpR op_in_sign (pv 2) (pe_globS rfl GL.HOST_SIGNS) (by rfl)))) pa_nil))))))) (pss_one (ps_ret pe_bl)) pss_nil)))
      (pss_one (ps_ret pe_bl))), ?_⟩
    have hl := len_tl x
    have hsz : x.length + 2 ≤ sizeLine := by rw [sizeLine_eq]; omega
    have sp := split1 x (y := ".") (d := 46) (by decide +kernel)
    refine ⟨_, rfl, ⟨_, rfl⟩, x, _, rfl, rfl, by decide +kernel, hsz, fun p hp => ?_⟩
    refine ⟨p, rfl, ⟨_, SqL.of upd_same⟩, for_list (K := K) (a := p) (xs := (Txt.split x ".").map V.str) (fun i σ H' => (∃ u v, σ = [some (.str x), u, v]) ∧ Same (upd H p (.lst ((Txt.split x ".").map V.str))) H' ∧ isHostL (tl x) = ((splitC 46 (tl x)).drop i).all fun p => decide (p ≠ []) && p.all hostC)
      ⟨⟨_, _, rfl⟩, Same.refl _, rfl⟩ (fun i σ H' _ ⟨_, s1, _⟩ => SqL.of (s1 _ _ upd_same)) ?_ ?_⟩
    · rintro i y σ H' hi ⟨⟨u, v, rfl⟩, s1, e⟩
      obtain ⟨z, hz, rfl⟩ : ∃ z, (Txt.split x ".")[i]? = some z ∧ y = .str z := by
        rw [List.getElem?_map] at hi
        cases q : (Txt.split x ".")[i]? with
        | none => rw [q] at hi; cases hi
        | some z => rw [q] at hi; exact ⟨z, rfl, (Option.some.inj hi).symm⟩
      have hz2 : (splitC 46 (tl x))[i]? = some (tl z) := by rw [← sp, List.getElem?_map, hz]; rfl
      have ed : (splitC 46 (tl x)).drop i = tl z :: (splitC 46 (tl x)).drop (i + 1) := by
        obtain ⟨h1, h2⟩ := List.getElem?_eq_some_iff.mp hz2
        rw [List.drop_eq_getElem_cons h1, h2]
      rw [ed, List.all_cons] at e
      have zl : z.length < 100000 := by
        have : (tl z).length ≤ (tl x).length := by
          have hm : tl z ∈ splitC 46 (tl x) := List.mem_of_getElem? hz2
          exact split_part_len hm
        have h2 := len_tl z
        omega
      have sH : Same H H' := (Same.new (Same.refl H) hp).trans s1
      refine ⟨_, rfl, rfl, _, rfl, ?_⟩
      by_cases q0 : z = ""
      · have e0 : tl z = [] := by rw [q0]; decide +kernel
        rw [e0] at e
        rw [decide_eq_true (show V.str z = V.str "" by rw [q0])]
        refine iteT (iteT ?_)
        show Q (.bl false) H'
        have h2 := k H' sH
        rw [e] at h2
        exact h2
      · have e0 : tl z ≠ [] := fun h => q0 (ext_tl (by rw [h]; decide +kernel))
        rw [decide_eq_true e0, Bool.true_and] at e
        rw [decide_eq_false (show ¬ V.str z = V.str "" from fun h => q0 (V.str.inj h))]
        refine iteF (rd_all z hostC rfl zl (fun _ => rfl) (fun c H Q q => ?_) fun H2 s2 => ⟨_, rfl, ?_⟩)
        · refine ⟨_, rfl, c, hostSigns, rfl, rfl, ?_⟩
          rw [in_host]
          exact q
        · cases q1 : (tl z).all hostC with
          | false =>
            rw [q1, Bool.false_and] at e
            refine iteT ?_
            show Q (.bl false) H2
            have h2 := k H2 (sH.trans s2)
            rw [e] at h2
            exact h2
          | true =>
            rw [q1, Bool.true_and] at e
            exact iteF ⟨⟨_, _, rfl⟩, s1.trans s2, e⟩
    · rintro σ H' ⟨⟨u, v, rfl⟩, s1, e⟩
      have e2 : (splitC 46 (tl x)).drop ((Txt.split x ".").map V.str).length = [] := by
        rw [← sp]
        simp
      rw [e2] at e
      have h2 := k H' ((Same.new (Same.refl H) hp).trans s1)
      rw [e] at h2
      exact h2
end Kp
namespace Kp
open PySem PySem.Spec PyProof.Rows L2 TL
variable {P : Program} {w : World} {K : PySem.W.Frag} {mg : Str → Option Value} {base : Heap}
theorem for_enumS {x : Str} {g : TG} {tb : TS} {D : Ends} {σ : L2.St} {H : Hp} (Pv : Nat → L2.St → Hp → Prop) (h0 : Pv 0 σ H)
    (hs : ∀ (i c : Nat) σ H T, (tl x)[i]? = some c → Pv i σ H → H T = none → g (.ref T) σ (upd H T (.tup [.int (i : Nat), .str (S1 c)])) fun σ2 H2 => tb { D with nx := Pv (i + 1), ct := Pv (i + 1), bk := D.nx } σ2 H2) (hd : ∀ σ H, Pv (tl x).length σ H → D.nx σ H) :
    ∃ W : Nat → Nat → L2.St → Hp → Prop, (∃ m, W 0 m σ H) ∧ ∀ i m σ H, W i m σ H →
      ((IteS x).stop i H ∧ D.nx σ H) ∨ ((IteS x).go i H ∧ ∃ N : L2.St → Hp → Prop, (∀ σ' H', N σ' H' → ∃ m', m' < m ∧ W (i + 1) m' σ' H') ∧ ∀ y H', (IteS x).yld i H y H' → g y σ H' fun σ2 H2 => tb { D with nx := N, ct := N, bk := D.nx } σ2 H2) := by
  have hl : x.cps.size = (tl x).length := by simp [tl]
  refine ⟨fun i m σ H => m = (tl x).length - i ∧ i ≤ (tl x).length ∧ Pv i σ H, ⟨(tl x).length, by simp, Nat.zero_le _, h0⟩, ?_⟩
  rintro i m σ H ⟨rfl, hi, p⟩
  by_cases hlt : i < (tl x).length
  · refine .inr ⟨by show i < x.cps.size; omega, Pv (i + 1), fun σ' H' p' => ⟨(tl x).length - (i + 1), by omega, rfl, hlt, p'⟩, ?_⟩
    rintro y H' ⟨T, c, rfl, hT, rfl, hc⟩
    exact hs i c σ H T (by rw [← hc]; simp [tl]) p hT
  · have e : i = (tl x).length := by omega
    subst e
    exact .inl ⟨by show x.cps.size ≤ _; omega, hd σ H p⟩
theorem cut_some (l : Tx) (a b : Nat) (z : Str) (h : tl z = l) : tl (cutS z (some (a : Int)) (some (b : Int))) = (l.drop a).take (b - a) := by
  show (cutS z _ _).cps.toList = _
  subst h
  unfold cutS
  rw [HT.sIx_nat, HT.sIx_nat]
  have hl := len_tl z
  show (List.take _ (List.drop _ (tl z))) = _
  rw [hl]
  by_cases h1 : a ≤ (tl z).length
  · have ma : min a (tl z).length = a := by omega
    rw [ma]
    by_cases h2 : b ≤ (tl z).length
    · have mb : min b (tl z).length = b := by omega
      rw [mb]
    · have mb : min b (tl z).length = (tl z).length := by omega
      rw [mb, List.take_of_length_le (by rw [List.length_drop]; omega), List.take_of_length_le (by rw [List.length_drop]; omega)]
  · have ma : min a (tl z).length = (tl z).length := by omega
    rw [ma, List.drop_of_length_le (Nat.le_refl _), List.drop_of_length_le (by omega)]
    simp
theorem cut_from (l : Tx) (a : Nat) (z : Str) (h : tl z = l) : tl (cutS z (some (a : Int)) none) = l.drop a := by
  show (cutS z _ _).cps.toList = _
  subst h
  unfold cutS
  rw [HT.sIx_nat, HT.sIx_none]
  have hl := len_tl z
  show (List.take _ (List.drop _ (tl z))) = _
  rw [hl]
  by_cases h1 : a ≤ (tl z).length
  · have ma : min a (tl z).length = a := by omega
    rw [ma, List.take_of_length_le (by rw [List.length_drop]; omega)]
  · have ma : min a (tl z).length = (tl z).length := by omega
    rw [ma, List.drop_of_length_le (Nat.le_refl _), List.drop_of_length_le (by omega)]
    simp
theorem cut_to (l : Tx) (b : Nat) (z : Str) (h : tl z = l) : tl (cutS z none (some (b : Int))) = l.take b := by
  show (cutS z _ _).cps.toList = _
  subst h
  unfold cutS
  rw [HT.sIx_nat, HT.sIx_none]
  have hl := len_tl z
  show (List.take _ (List.drop _ (tl z))) = _
  rw [hl, List.drop_zero, Nat.sub_zero]
  by_cases h1 : b ≤ (tl z).length
  · have ma : min b (tl z).length = b := by omega
    rw [ma]
  · have ma : min b (tl z).length = (tl z).length := by omega
    rw [ma, List.take_of_length_le (Nat.le_refl _), List.take_of_length_le (by omega)]
/-! ### is_written -/
abbrev sIsWritten : Stmt := top 14
abbrev NIsWritten : List Str := ["text", "at", "sign", "code", "one"]
theorem scIsWritten : FnScope NIsWritten ["text"] (defScope sIsWritten) := ⟨rfl, rfl, rfl, by decide +kernel, rfl, by decide +kernel, by decide +kernel⟩
def spIsWritten : Sp := fun vs H Q _ => ∃ x : Str, vs = [.str x] ∧ x.length < 100000 ∧ ∀ H', Same H H' → Q (.bl (isW (tl x))) H'
theorem le_sign (a c : Nat) : (!decide (((S1 c).cps.toList : List Nat) < ((S1 a).cps.toList))) = decide (a ≤ c) := by
  show (!decide (([c] : List Nat) < [a])) = _
  have e : (([c] : List Nat) < [a]) ↔ c < a := by
    constructor
    · intro h
      cases h with
      | rel h => exact h
      | cons h => cases h
    · intro h
      exact .rel h
  by_cases h : c < a
  · rw [decide_eq_true (e.mpr h), decide_eq_false (by omega)]; rfl
  · rw [decide_eq_false (fun z => h (e.mp z)), decide_eq_true (by omega)]; rfl
theorem ok_is_written (D : DefAt K mg "is_written" sIsWritten) (GL : Glb K w mg) : FnAt P w K mg base CX0 "is_written" ["text"] [] 1 spIsWritten := by
  refine D.ok scIsWritten (fun _ _ _ _ _ _ us hl => match us, hl with | [_], _ => rfl) (fun vs H Q E h => ?_) (fun f cdv A outer s H vs Q E hr h => ?_)
  · obtain ⟨x, rfl, _⟩ := h
    rfl
  · obtain ⟨x, rfl, hx, k⟩ := h
    refine ⟨_, (pss_cons (ps_for PassesOwn.never rfl (pi_enumS (by rfl) GL.enumerate (pa_cons (pv 0) pa_nil)) (pg_tup rfl (pgs_cons (pg_name (i := 1) scIsWritten.nd rfl (Or.inl rfl)) (pgs_cons (pg_name (i := 2) scIsWritten.nd rfl (Or.inl rfl)) pgs_nil))) (pss_cons (ps_if (pt_not (pt_chain op_le_str op_le_str pe_str (pv 2) pe_str)) (pss_one (ps_ret pe_bl)) pss_nil)
      (pss_one (ps_if (pt_cmpR op_eq (pv 2) pe_str (nomark _)) (pss_cons (ps_set (i := 3) scIsWritten.nd rfl (Or.inl rfl) (pe_slice sl_str (pv 0) (po_some (pe_op op_add (pv 1) pe_int)) (po_some (pe_op op_add (pv 1) pe_int))))
      (pss_one (ps_if (PW.pt (pw_or (pt_cmpR op_lt (pe_callB call_len_str (by rfl) GL.len (by decide +kernel) (pa_cons (pv 3) pa_nil)) pe_int (nomark _)) (pw_or1 (pt_not (pt_val (pe_callB (cr_all rfl) (by rfl) GL.all (by decide +kernel) (pa_cons (pe_lc (own := [("one", 4)]) (g := gName 4) rfl scIsWritten.nd (pi_str (pv 3)) (blkOk_by (own := [("one", 4)]) (N := NIsWritten) (sc := defScope sIsWritten) (by decide +kernel)) (fun _ _ _ _ _ => pg_name (i := 4) scIsWritten.nd rfl (Or.inl rfl)) (fun _ _ _ _ _ => pts_nil) (fun _ _ _ _ _ => (pe_cmpR op_in_sign (pv 4) (pe_globS rfl GL.CODE_SIGNS) (by rfl)))) pa_nil))))))) (pss_one (ps_ret pe_bl)) pss_nil))) pss_nil))))
      (pss_one (ps_ret pe_bl))), ?_⟩
    have hl := len_tl x
    have hsz : x.length ≤ sizeLine := by rw [sizeLine_eq]; omega
    refine ⟨_, rfl, x, rfl, for_enumS (x := x) (fun i σ H' => (∃ u v u2 v2, σ = [some (.str x), u, v, u2, v2]) ∧ Same H H' ∧ isW (tl x) = isW ((tl x).drop i)) ⟨⟨_, _, _, _, rfl⟩, Same.refl _, rfl⟩ ?_ ?_⟩
    · rintro i c σ H' T hc ⟨⟨u, v, u2, v2, rfl⟩, s1, e⟩ hT
      have ed : (tl x).drop i = c :: (tl x).drop (i + 1) := by
        obtain ⟨h1, h2⟩ := List.getElem?_eq_some_iff.mp hc
        rw [List.drop_eq_getElem_cons h1, h2]
      have s2 : Same H (upd H' T (.tup [.int (i : Nat), .str (S1 c)])) := Same.new s1 hT
      refine ⟨T, _, rfl, SqT.of upd_same, rfl, _, _, rfl, _, _, rfl, rfl, ?_⟩
      rw [ed] at e
      have no : ∀ {H2 : Hp}, Same H H2 → isW (tl x) = false → Q (.bl false) H2 := fun s3 z => by
        have h2 := k _ s3
        rw [z] at h2
        exact h2
      have lo : (!decide (((S1 c).cps.toList : List Nat) < ((Str.ofString "!").cps.toList))) = decide (33 ≤ c) := le_sign 33 c
      have hi : (!decide (((Str.ofString "~").cps.toList : List Nat) < ((S1 c).cps.toList))) = decide (c ≤ 126) := le_sign c 126
      refine ⟨_, rfl, _, _, rfl, rfl, _, rfl, ?_⟩
      rw [lo]
      cases q1 : decide (33 ≤ c) with
      | false =>
        refine iteF ⟨_, rfl, iteT (no s2 ?_)⟩
        rw [e, isW, q1]; rfl
      | true =>
        refine iteT ⟨_, _, rfl, rfl, _, rfl, ?_⟩
        rw [hi]
        cases q2 : decide (c ≤ 126) with
        | false =>
          refine iteT (no s2 ?_)
          rw [e, isW, q1, q2]; rfl
        | true =>
          refine iteF ⟨_, rfl, rfl, _, rfl, ?_⟩
          by_cases q3 : c = 126
          · subst q3
            rw [decide_eq_true (show V.str (S1 126) = V.str "~" by congr 1)]
            refine iteT ⟨_, rfl, _, rfl, _, _, rfl, rfl, _, rfl, _, rfl, _, _, rfl, rfl, _, rfl, _, rfl, hsz, ?_⟩
            have ec : tl (cutS x (some ((i : Int) + 1)) (some ((i : Int) + 3))) = ((tl x).drop (i + 1)).take 2 := by
              have := cut_some (tl x) (i + 1) (i + 3) x rfl
              rw [show i + 3 - (i + 1) = 2 by omega] at this
              exact this
            generalize cutS x (some ((i : Int) + 1)) (some ((i : Int) + 3)) = z at ec ⊢
            have zl := len_tl z
            rw [ec] at zl
            have zl2 : z.length ≤ 2 := by rw [zl, List.length_take]; omega
            refine ⟨_, rfl, _, rfl, (by rw [sizeLine_eq]; omega), _, _, rfl, rfl, _, rfl, ?_⟩
            have e3 : (decide ((z.length : Int) < 2)) = !decide (2 ≤ ((tl x).drop (i + 1)).length) := by
              rw [← decide_not]
              refine decide_eq_decide.mpr ?_
              rw [List.length_take] at zl
              omega
            rw [e3]
            cases q4 : decide (2 ≤ ((tl x).drop (i + 1)).length) with
            | false =>
              refine iteT (iteT (no s2 ?_))
              rw [e, isW, q4]; simp
            | true =>
              refine iteF (rd_all z hexC rfl (by omega) (fun _ => rfl) (fun c H Q q => ?_) fun H2 s3 => ⟨_, rfl, ?_⟩)
              · refine ⟨_, rfl, c, codeSigns, rfl, rfl, ?_⟩
                rw [in_code]
                exact q
              · rw [ec]
                cases q5 : (((tl x).drop (i + 1)).take 2).all hexC with
                | false =>
                  refine iteT (no (s2.trans s3) ?_)
                  rw [e, isW, q5]; simp
                | true =>
                  refine iteF ⟨⟨_, _, _, _, rfl⟩, s2.trans s3, ?_⟩
                  rw [e, isW, q1, q2, q4, q5]; simp
          · rw [decide_eq_false (show ¬ V.str (S1 c) = V.str "~" from fun h => q3 (by have := congrArg tl (V.str.inj h); exact (List.cons.inj this).1))]
            refine iteF ⟨⟨_, _, _, _, rfl⟩, s2, ?_⟩
            rw [e, isW, q1, q2]; simp [q3]
    · rintro σ H' ⟨⟨u, v, u2, v2, rfl⟩, s1, e⟩
      rw [List.drop_length] at e
      have h2 := k H' s1
      rw [e] at h2
      exact h2
end Kp
namespace Kp
open PySem PySem.Spec PyProof.Rows L2 TL
variable {P : Program} {w : World} {K : PySem.W.Frag} {mg : Str → Option Value} {base : Heap}
/-! ### sign_of -/
abbrev sSignOf : Stmt := top 16
abbrev NSignOf : List Str := ["number", "first", "signs"]
theorem scSignOf : FnScope NSignOf ["number"] (defScope sSignOf) := ⟨rfl, rfl, rfl, by decide +kernel, rfl, by decide +kernel, by decide +kernel⟩
def sgn (n : Nat) : Str := if plainC n = true then S1 n else ""
def spSignOf : Sp := fun vs H Q _ => ∃ n : Nat, vs = [.int (n : Int)] ∧ ∀ H', Same H H' → Q (.str (sgn n)) H'
def rngs : List (Nat × Str) := [(48, figures), (65, "ABCDEFGHIJKLMNOPQRSTUVWXYZ"), (97, "abcdefghijklmnopqrstuvwxyz"), (45, "-."), (95, "_")]
theorem rngs_at : ∀ p ∈ rngs, p.2.length ≤ 26 ∧ ∀ j, j < p.2.length → (tl p.2)[j]? = some (p.1 + j) ∧ plainC (p.1 + j) = true := by decide +kernel
theorem rngs_no (n : Nat) (h : ∀ p ∈ rngs, ¬ (p.1 ≤ n ∧ n < p.1 + p.2.length)) : plainC n = false := by
  rw [Bool.eq_false_iff]
  intro z
  rw [plainC_iff] at z
  have e1 : figures.length = 10 := by decide +kernel
  have e2 : (Str.ofString "ABCDEFGHIJKLMNOPQRSTUVWXYZ").length = 26 := by decide +kernel
  have e3 : (Str.ofString "abcdefghijklmnopqrstuvwxyz").length = 26 := by decide +kernel
  have e4 : (Str.ofString "-.").length = 2 := by decide +kernel
  have e5 : (Str.ofString "_").length = 1 := by decide +kernel
  have h1 := h (48, figures) (by simp [rngs])
  have h2 := h (65, "ABCDEFGHIJKLMNOPQRSTUVWXYZ") (by simp [rngs])
  have h3 := h (97, "abcdefghijklmnopqrstuvwxyz") (by simp [rngs])
  have h4 := h (45, "-.") (by simp [rngs])
  have h5 := h (95, "_") (by simp [rngs])
  simp only [e1, e2, e3, e4, e5] at h1 h2 h3 h4 h5
  omega
theorem Glb.code (GL : Glb K w mg) {i : Nat} {x : V} (h : (GL.aFs.map V.ref)[i]? = some x) : ∃ p r, x = .ref p ∧ rngs[i]? = some r ∧ ∀ H : Hp, SqT K H p [.int (r.1 : Int), .str r.2] := by
  obtain ⟨a, b, c, d, e, ea, ha, hb, hc, hd, he⟩ := GL.f_each
  rw [ea] at h
  match i, h with
  | 0, h => cases h; exact ⟨a, _, rfl, rfl, ha⟩
  | 1, h => cases h; exact ⟨b, _, rfl, rfl, hb⟩
  | 2, h => cases h; exact ⟨c, _, rfl, rfl, hc⟩
  | 3, h => cases h; exact ⟨d, _, rfl, rfl, hd⟩
  | 4, h => cases h; exact ⟨e, _, rfl, rfl, he⟩
  | n + 5, h => simp at h
theorem Glb.code_len (GL : Glb K w mg) : (GL.aFs.map V.ref).length = 5 := by
  obtain ⟨a, b, c, d, e, ea, _⟩ := GL.f_each
  rw [ea]; rfl
theorem ok_sign_of (D : DefAt K mg "sign_of" sSignOf) (GL : Glb K w mg) : FnAt P w K mg base CX0 "sign_of" ["number"] [] 1 spSignOf := by
  refine D.ok scSignOf (fun _ _ _ _ _ _ us hl => match us, hl with | [_], _ => rfl) (fun vs H Q E h => ?_) (fun f cdv A outer s H vs Q E hr h => ?_)
  · obtain ⟨n, rfl, _⟩ := h
    rfl
  · obtain ⟨n, rfl, k⟩ := h
    refine ⟨_, (pss_cons (ps_for PassesOwn.never rfl (pi_tup (pe_globR rfl GL.FIRST_CODES)) (pg_tup rfl (pgs_cons (pg_name (i := 1) scSignOf.nd rfl (Or.inl rfl)) (pgs_cons (pg_name (i := 2) scSignOf.nd rfl (Or.inl rfl)) pgs_nil))) (pss_one (ps_if (pt_chain op_le op_lt (pv 1) (pv 0) (pe_op op_add (pv 1) (pe_callB call_len_str (by rfl) GL.len (by decide +kernel) (pa_cons (pv 2) pa_nil)))) (pss_one (ps_ret (pe_ix ix_str (pv 2) (pe_op op_sub (pv 0) (pv 1)) (fun _ _ => rfl)))) pss_nil)))
      (pss_one (ps_ret pe_str))), ?_⟩
    refine ⟨GL.aF, rfl, ⟨_, GL.f_all H⟩, for_tup (K := K) (a := GL.aF) (xs := GL.aFs.map V.ref) (fun i σ H' => (∃ u v, σ = [some (.int (n : Int)), u, v]) ∧ Same H H' ∧ ∀ j p, j < i → rngs[j]? = some p → ¬ (p.1 ≤ n ∧ n < p.1 + p.2.length))
      ⟨⟨_, _, rfl⟩, Same.refl _, fun j p z => absurd z (Nat.not_lt_zero j)⟩ (fun i σ H' _ _ => GL.f_all H') ?_ ?_⟩
    · rintro i y σ H' hi ⟨⟨u, v, rfl⟩, s1, no⟩
      obtain ⟨p, r, rfl, hr2, hp⟩ := GL.code hi
      have rg := rngs_at r (List.mem_of_getElem? hr2)
      have hz : r.2.length ≤ sizeLine := by rw [sizeLine_eq]; omega
      refine ⟨p, _, rfl, hp H', rfl, _, _, rfl, _, _, rfl, rfl, ?_⟩
      refine ⟨_, rfl, _, rfl, _, _, rfl, rfl, _, rfl, ?_⟩
      have e1 : decide ((r.1 : Int) ≤ (n : Int)) = decide (r.1 ≤ n) := decide_eq_decide.mpr (by omega)
      rw [e1]
      have more : ¬ (r.1 ≤ n ∧ n < r.1 + r.2.length) → ∀ j p, j < i + 1 → rngs[j]? = some p → ¬ (p.1 ≤ n ∧ n < p.1 + p.2.length) := fun z j q hj hq => by
        by_cases e : j = i
        · subst e
          rw [hr2] at hq
          cases hq
          exact z
        · exact no j q (by omega) hq
      cases q1 : decide (r.1 ≤ n) with
      | false =>
        have q1' := of_decide_eq_false q1
        exact iteF ⟨_, rfl, iteF ⟨⟨_, _, rfl⟩, s1, more fun z => q1' z.1⟩⟩
      | true =>
        have q1' := of_decide_eq_true q1
        refine iteT ⟨_, rfl, _, rfl, _, rfl, hz, _, _, rfl, rfl, _, _, rfl, rfl, _, rfl, ?_⟩
        have e2 : decide ((n : Int) < (r.1 : Int) + (r.2.length : Int)) = decide (n < r.1 + r.2.length) := decide_eq_decide.mpr (by omega)
        rw [e2]
        cases q2 : decide (n < r.1 + r.2.length) with
        | false =>
          have q2' := of_decide_eq_false q2
          exact iteF ⟨⟨_, _, rfl⟩, s1, more fun z => q2' z.2⟩
        | true =>
          have q2' := of_decide_eq_true q2
          have rj := rg.2 (n - r.1) (by omega)
          have e3 : r.1 + (n - r.1) = n := by omega
          rw [e3] at rj
          refine iteT ⟨_, rfl, _, rfl, _, rfl, _, _, rfl, rfl, r.2, _, n, rfl, rfl, hz, by rw [show (n : Int) - (r.1 : Int) = ((n - r.1 : Nat) : Int) by omega]; exact atI_nat rj.1, ?_⟩
          have h2 := k H' s1
          unfold sgn at h2
          rw [if_pos rj.2] at h2
          exact h2
    · rintro σ H' ⟨⟨u, v, rfl⟩, s1, no⟩
      have h2 := k H' s1
      have hn := rngs_no n fun p hp => by
        obtain ⟨j, hj⟩ := List.getElem?_of_mem hp
        refine no j p ?_ hj
        rw [GL.code_len]
        exact (List.getElem?_eq_some_iff.mp hj).1
      unfold sgn at h2
      rw [if_neg (by rw [hn]; exact Bool.false_ne_true)] at h2
      exact h2
/-! ### told_signs -/
abbrev sTold : Stmt := top 17
abbrev NTold : List Str := ["text", "pieces_cut", "found", "piece", "sign"]
theorem scTold : FnScope NTold ["text"] (defScope sTold) := ⟨rfl, rfl, rfl, by decide +kernel, rfl, by decide +kernel, by decide +kernel⟩
def spTold : Sp := fun vs H Q _ => ∃ x : Str, vs = [.str x] ∧ x.length < 100000 ∧ isW (tl x) = true ∧ ∀ r H', Same H H' → tl r = toldL (tl x) → Q (.str r) H'
theorem told_len {x : Tx} (h : isW x = true) : (toldL x).length ≤ x.length :=
  isW_rec (P := fun x => (toldL x).length ≤ x.length) h (Nat.le_refl _) (fun c r h1 _ _ _ ih => by rw [toldL_sign _ h1]; simp only [List.length_cons]; omega) (fun a b r _ _ _ ih => by
    rw [toldL_code, List.length_append]
    have : (codeT a b).length ≤ 3 := by
      unfold codeT
      split <;> simp
    simp only [List.length_cons]
    omega)
theorem hexC_isHex {c : Nat} (h : hexC c = true) : Hx.IsHex c := by
  rw [hexC_iff] at h
  exact h
theorem strs_at {ys : List Str} {i : Nat} {y : V} (h : (ys.map V.str)[i]? = some y) : ∃ z, ys[i]? = some z ∧ y = .str z := by
  rw [List.getElem?_map] at h
  cases q : ys[i]? with
  | none => rw [q] at h; cases h
  | some z => rw [q] at h; exact ⟨z, rfl, (Option.some.inj h).symm⟩
theorem tl_app (a b : Str) : tl (a ++ b) = tl a ++ tl b := tl_append a b
theorem low_tl (z : Str) (h : ∀ c ∈ tl z, c < 128) : tl (Txt.lower z) = low (tl z) := by
  rw [lower_ascii h]
  show (z.cps.map lo1).toList = (tl z).map lowC
  rw [Array.toList_map]
  refine List.map_congr_left fun c _ => ?_
  unfold lo1 lowC
  by_cases q : 65 ≤ c ∧ c ≤ 90
  · rw [if_pos (capC_iff.mpr q), if_pos (by simpa using q)]
  · rw [if_neg (fun z => q (capC_iff.mp z)), if_neg (by simpa using q)]
theorem sgn_tl (n : Nat) : tl (sgn n) = if plainC n = true then [n] else [] := by
  unfold sgn
  split
  · rfl
  · decide +kernel
theorem ok_told_signs (D : DefAt K mg "told_signs" sTold) (GL : Glb K w mg) (F_sign_of : FnAt P w K mg base CX0 "sign_of" ["number"] [] 1 spSignOf) : FnAt P w K mg base CX0 "told_signs" ["text"] [] 2 spTold := by
  refine D.ok scTold (fun _ _ _ _ _ _ us hl => match us, hl with | [_], _ => rfl) (fun vs H Q E h => ?_) (fun f cdv A outer s H vs Q E hr h => ?_)
  · obtain ⟨x, rfl, _⟩ := h
    rfl
  · obtain ⟨x, rfl, hx, hw, k⟩ := h
    refine ⟨_, (pss_cons (ps_set (i := 1) scTold.nd rfl (Or.inl rfl) (pe_split (pv 0) pe_str))
      (pss_cons (ps_set (i := 2) scTold.nd rfl (Or.inl rfl) (pe_ix ix_list (pv 1) pe_int (fun _ _ => rfl)))
      (pss_cons (ps_for PassesOwn.never rfl (pi_list (pe_slice sl_list (pv 1) (po_some pe_int) po_none)) (pg_name (i := 3) scTold.nd rfl (Or.inl rfl)) (pss_cons (ps_set (i := 4) scTold.nd rfl (Or.inl rfl) (pe_cf F_sign_of (hr.mono (by decide)) pass0 (pa_cons (pe_callTy call_int_hex (by rfl) GL.int (by decide +kernel) (pa_cons (pe_slice sl_str (pv 3) po_none (po_some pe_int)) (pa_cons pe_int pa_nil))) pa_nil)))
      (pss_cons (ps_if (pt_cmpR op_eq (pv 4) pe_str (nomark _)) (pss_one (ps_set (i := 4) scTold.nd rfl (Or.inl rfl) (pe_op op_add_str pe_str (pe_lower (pe_slice sl_str (pv 3) po_none (po_some pe_int)))))) pss_nil)
      (pss_one (ps_aug (i := 2) scTold.nd rfl (Or.inl rfl) (pe_op op_add_str (pv 4) (pe_slice sl_str (pv 3) (po_some pe_int) po_none)) (pip_of iop_add_str))))))
      (pss_one (ps_ret (pv 2)))))), ?_⟩
    have hl := len_tl x
    have hsz : x.length + 2 ≤ sizeLine := by rw [sizeLine_eq]; omega
    have sp := split1 x (y := "~") (d := 126) (by decide +kernel)
    obtain ⟨p0, ps, e1, e2, e3⟩ := told_pieces hw
    have tlen := told_len hw
    refine ⟨_, rfl, ⟨_, rfl⟩, x, _, rfl, rfl, by decide +kernel, hsz, fun a ha => ?_⟩
    generalize Txt.split x "~" = zs at sp
    rw [e1] at sp
    obtain ⟨z0, zr, rfl⟩ : ∃ z0 zr, zs = z0 :: zr := by
      cases zs with
      | nil => simp at sp
      | cons z0 zr => exact ⟨z0, zr, rfl⟩
    have sp0 : tl z0 = p0 := (List.cons.inj sp).1
    have spr : zr.map tl = ps := (List.cons.inj sp).2
    refine ⟨_, rfl, a, (z0 :: zr).map V.str, 0, .str z0, rfl, rfl, SqL.of upd_same, atI_nat (j := 0) rfl, ?_⟩
    refine ⟨_, rfl, _, rfl, a, _, rfl, SqL.of upd_same, fun b hb => ?_⟩
    have ecut : cutV ((z0 :: zr).map V.str) (some 1) none = zr.map V.str := by
      unfold cutV
      have h1 : HT.sIx ((z0 :: zr).map V.str).length 0 (some ((1 : Nat) : Int)) = 1 := by rw [HT.sIx_nat]; simp
      have h1' : HT.sIx ((z0 :: zr).map V.str).length 0 (some (1 : Int)) = 1 := h1
      rw [h1', HT.sIx_none]
      simp
      rw [List.take_of_length_le (by simp)]
    rw [ecut]
    refine ⟨b, rfl, ⟨_, SqL.of upd_same⟩, for_list (K := K) (a := b) (xs := zr.map V.str) (fun i σ H' => (∃ (f : Str) (u v : Option V), σ = [some (.str x), some (.ref a), some (.str f), u, v] ∧ toldL (tl x) = tl f ++ ((ps.drop i).map pieceT).flatten) ∧ Same (upd (upd H a (.lst ((z0 :: zr).map V.str))) b (.lst (zr.map V.str))) H')
      ⟨⟨z0, _, _, rfl, by rw [e3, sp0]; rfl⟩, Same.refl _⟩ (fun i σ H' _ ⟨_, s1⟩ => SqL.of (s1 _ _ upd_same)) ?_ ?_⟩
    · rintro i y σ H' hi ⟨⟨f, u, v, rfl, ef⟩, s1⟩
      obtain ⟨z, hz, rfl⟩ := strs_at hi
      have hz2 : ps[i]? = some (tl z) := by rw [← spr, List.getElem?_map, hz]; rfl
      obtain ⟨c1, c2, r, ez, hc1, hc2⟩ := e2 (tl z) (List.mem_of_getElem? hz2)
      have ed : ps.drop i = tl z :: ps.drop (i + 1) := by
        obtain ⟨h1, h2⟩ := List.getElem?_eq_some_iff.mp hz2
        rw [List.drop_eq_getElem_cons h1, h2]
      rw [ed, List.map_cons, List.flatten_cons] at ef
      have zlen := len_tl z
      have zl : z.length < 100000 := by
        have hm : tl z ∈ splitC 126 (tl x) := by rw [e1]; simp [List.mem_of_getElem? hz2]
        have := split_part_len hm
        omega
      have et : tl (cutS z none (some 2)) = [c1, c2] := by
        have := cut_to (tl z) 2 z rfl
        rw [ez] at this
        exact this
      have ed2 : tl (cutS z (some 2) none) = r := by
        have := cut_from (tl z) 2 z rfl
        rw [ez] at this
        exact this
      have eS : cutS z none (some 2) = SX.S [c1, c2] := ext_tl et
      have fl : (tl f).length + (pieceT (tl z)).length ≤ x.length := by
        have := congrArg List.length ef
        simp only [List.length_append] at this
        omega
      have flen := len_tl f
      have hsz2 : z.length ≤ sizeLine := by rw [sizeLine_eq]; omega
      refine ⟨_, rfl, _, rfl, _, rfl, hsz2, [c1, c2], by rw [eS], by simp, by simp, ?_, hx2 c1 c2, rfl, fun H2 s2 => ?_⟩
      · intro c hc
        simp only [List.mem_cons, List.not_mem_nil, or_false] at hc
        rcases hc with rfl | rfl
        · exact hexC_isHex hc1
        · exact hexC_isHex hc2
      have sg := sgn_tl (hx2 c1 c2)
      have pT : pieceT (tl z) = (if plainC (hx2 c1 c2) = true then [hx2 c1 c2] else [126, lowC c1, lowC c2]) ++ r := by
        rw [ez]; rfl
      have z2l := cutS_length z (some 2) none
      have zfl := cutS_length z none (some 2)
      rw [pT, List.length_append] at fl
      have rl : (cutS z (some 2) none).length = r.length := by rw [len_tl, ed2]
      refine ⟨_, rfl, rfl, _, rfl, ?_⟩
      cases q : plainC (hx2 c1 c2) with
      | true =>
        rw [q] at sg pT fl
        rw [if_pos rfl] at pT fl sg
        have ne : ¬ V.str (sgn (hx2 c1 c2)) = V.str "" := fun h => by
          have := congrArg tl (V.str.inj h)
          rw [sg] at this
          cases this
        rw [decide_eq_false ne]
        have sl := len_tl (sgn (hx2 c1 c2))
        rw [sg] at sl
        have sl2 : (sgn (hx2 c1 c2)).length = 1 := sl
        refine iteF ⟨_, rfl, _, rfl, _, rfl, _, rfl, _, rfl, hsz2, _, _, rfl, rfl, (by rw [sizeLine_eq]; omega), _, _, rfl, rfl, ?_, ?_⟩
        · have l1 := len_tl (sgn (hx2 c1 c2) ++ cutS z (some 2) none)
          rw [tl_app, List.length_append, ← len_tl, ← len_tl] at l1
          rw [sizeLine_eq]
          omega
        · refine ⟨⟨_, _, _, rfl, ?_⟩, s1.trans s2⟩
          rw [ef, pT, tl_app, tl_app, sg, ed2]
          simp
      | false =>
        rw [q] at sg pT fl
        rw [if_neg Bool.false_ne_true] at pT fl
        have ee : V.str (sgn (hx2 c1 c2)) = V.str "" := congrArg V.str (ext_tl (by rw [sg, if_neg Bool.false_ne_true]; decide +kernel))
        rw [decide_eq_true ee]
        have lw : tl (Txt.lower (cutS z none (some 2))) = [lowC c1, lowC c2] := by
          have b1 := hexC_iff.mp hc1
          have b2 := hexC_iff.mp hc2
          rw [low_tl _ (by rw [et]; intro c hc; simp only [List.mem_cons, List.not_mem_nil, or_false] at hc; omega), et]
          rfl
        have lwl := len_tl (Txt.lower (cutS z none (some 2)))
        rw [lw] at lwl
        have lwl2 : (Txt.lower (cutS z none (some 2))).length = 2 := lwl
        have tld : (Str.ofString "~").length = 1 := by decide +kernel
        refine iteT ⟨_, rfl, _, rfl, _, rfl, hsz2, ⟨_, rfl⟩, _, rfl, rfl, by omega, _, _, rfl, rfl, (by rw [sizeLine_eq]; omega), ?_⟩
        have ts : tl (Str.ofString "~" ++ Txt.lower (cutS z none (some 2))) = [126, lowC c1, lowC c2] := by
          rw [tl_app, lw]
          show (tl (Str.ofString "~")) ++ _ = _
          have : tl (Str.ofString "~") = [126] := by decide +kernel
          rw [this]; rfl
        have tsl := len_tl (Str.ofString "~" ++ Txt.lower (cutS z none (some 2)))
        rw [ts] at tsl
        have tsl2 : (Str.ofString "~" ++ Txt.lower (cutS z none (some 2))).length = 3 := tsl
        refine ⟨_, rfl, _, rfl, _, rfl, _, rfl, _, rfl, hsz2, _, _, rfl, rfl, (by rw [sizeLine_eq]; omega), _, _, rfl, rfl, ?_, ?_⟩
        · have l1 := len_tl (Str.ofString "~" ++ Txt.lower (cutS z none (some 2)) ++ cutS z (some 2) none)
          rw [tl_app, List.length_append, ← len_tl, ← len_tl] at l1
          rw [sizeLine_eq]
          omega
        · refine ⟨⟨_, _, _, rfl, ?_⟩, s1.trans s2⟩
          rw [ef, pT, tl_app, tl_app, ts, ed2]
          simp
    · rintro σ H' ⟨⟨f, u, v, rfl, ef⟩, s1⟩
      have e4 : (ps.drop (zr.map V.str).length) = [] := by
        rw [← spr]
        simp
      rw [e4] at ef
      refine ⟨_, rfl, k f H' ((Same.new (Same.new (Same.refl H) ha) hb).trans s1) ?_⟩
      rw [ef]
      simp
end Kp
namespace Kp
open PySem PySem.Spec PyProof.Rows L2 TL
variable {P : Program} {w : World} {K : PySem.W.Frag} {mg : Str → Option Value} {base : Heap}
/-! ### data that is compared -/
def okS (y : Str) : Prop := ∀ c ∈ tl y, c < 128
theorem okS_strOk {y : Str} (h : okS y) : PyData.strOk y = true := by
  unfold PyData.strOk
  rw [← Array.all_toList]
  exact List.all_eq_true.mpr fun c hc => decide_eq_true (Nat.lt_trans (h c hc) (by decide))
theorem lay_strs : ∀ {ys : List Str}, (∀ y ∈ ys, okS y) → PyData.canLayAll0 (ys.map .str) = true
  | [], _ => rfl
  | y :: r, h => by
    show (PyData.canLay0 (.str y) && PyData.canLayAll0 (r.map .str)) = true
    rw [lay_strs fun x hx => h x (by simp [hx])]
    show (PyData.strOk y && true) = true
    rw [okS_strOk (h y (by simp))]; rfl
theorem depth_strs : ∀ ys : List Str, PyData.depthAll (ys.map .str) = 0
  | [] => rfl
  | y :: r => by
    show max (PyData.depth (.str y)) (PyData.depthAll (r.map .str)) = 0
    rw [depth_strs r]; rfl
theorem shaped_strs {ys : List Str} (h : ∀ y ∈ ys, okS y) : SeqAt.shaped (.list (ys.map .str)) = true ∧ SeqAt.shaped (.tuple (ys.map .str)) = true := by
  unfold SeqAt.shaped
  have e1 : PyData.canLay0 (.list (ys.map .str)) = PyData.canLayAll0 (ys.map .str) := by simp [PyData.canLay0]
  have e2 : PyData.canLay0 (.tuple (ys.map .str)) = PyData.canLayAll0 (ys.map .str) := by simp [PyData.canLay0]
  have d1 : PyData.depth (.list (ys.map .str)) ≤ 64 := by simp only [PyData.depth, depth_strs]; decide
  have d2 : PyData.depth (.tuple (ys.map .str)) ≤ 64 := by simp only [PyData.depth, depth_strs]; decide
  rw [e1, e2, lay_strs h, decide_eq_true d1, decide_eq_true d2]
  exact ⟨rfl, rfl⟩
theorem dp_strs {H : Hp} : ∀ ys : List Str, DpAll K H (ys.map V.str) (ys.map .str)
  | [] => .nil
  | y :: r => .cons (.str y) (dp_strs r)
theorem eqv_nil : ∀ ds : List PyData, PyData.eqvAll ds [] = ds.isEmpty
  | [] => rfl
  | d :: r => by simp [PyData.eqvAll]
theorem isEmpty_map {α β : Type} (f : α → β) (l : List α) : (l.map f).isEmpty = l.isEmpty := by cases l <;> rfl
/-! ### sizes of what is cut -/
def sumL (ps : List Tx) : Nat := (ps.map List.length).sum
theorem sumL_cons (p : Tx) (ps : List Tx) : sumL (p :: ps) = p.length + sumL ps := by simp [sumL]
theorem sumL_app (ps qs : List Tx) : sumL (ps ++ qs) = sumL ps + sumL qs := by simp [sumL]
theorem splitC_sum (d : Nat) : ∀ l : Tx, sumL (splitC d l) + (splitC d l).length = l.length + 1
  | [] => rfl
  | c :: r => by
    have ih := splitC_sum d r
    by_cases hc : c = d
    · subst hc
      rw [splitC_hit, sumL_cons]
      simp only [List.length_nil, List.length_cons]
      omega
    · cases e : splitC d r with
      | nil => exact absurd e (splitC_ne d r)
      | cons h t =>
        rw [e] at ih
        rw [splitC_miss hc e, sumL_cons]
        rw [sumL_cons] at ih
        simp only [List.length_cons] at ih ⊢
        omega
theorem len_strs (ys : List Str) : (ys.map (·.length)).sum = sumL (ys.map tl) := by
  unfold sumL
  rw [List.map_map]
  congr 1
theorem joinC_len (d : Nat) : ∀ ps : List Tx, (joinC d ps).length ≤ sumL ps + ps.length
  | [] => by simp [joinC]
  | [p] => by simp [joinC, sumL]
  | p :: q :: r => by
    have ih := joinC_len d (q :: r)
    rw [joinC, List.length_append, sumL_cons]
    simp only [List.length_cons] at ih ⊢
    omega
theorem sum_drop (ps : List Tx) : sumL (ps.drop 1) ≤ sumL ps := by
  cases ps with
  | nil => exact Nat.le_refl _
  | cons p r => rw [sumL_cons]; show sumL r ≤ _; omega
theorem join1 {y : Str} {d : Nat} (e : tl y = [d]) (ps : List Str) : tl (Txt.join y ps) = joinC d (ps.map tl) := by
  rw [join_eq, tl_join, e, joinL_joinC]
theorem join0 (ps : List Str) : tl (Txt.join "" ps) = (ps.map tl).flatten := by
  rw [join_eq, tl_join]
  have e : tl (Str.ofString "") = [] := by decide +kernel
  rw [e]
  generalize ps.map tl = qs
  clear ps e
  induction qs with
  | nil => rfl
  | cons p r ih =>
    cases r with
    | nil => simp [joinL]
    | cons q t =>
      show p ++ ([] ++ joinL [] (q :: t)) = _
      rw [ih]
      simp
theorem cutV_nat (xs : List V) (n : Nat) : cutV xs (some (n : Int)) none = xs.drop n := by
  unfold cutV
  rw [HT.sIx_nat, HT.sIx_none]
  by_cases h : n ≤ xs.length
  · have e : min n xs.length = n := by omega
    rw [e, List.take_of_length_le (by rw [List.length_drop]; omega)]
  · have e : min n xs.length = xs.length := by omega
    rw [e, List.drop_of_length_le (Nat.le_refl _), List.drop_of_length_le (by omega)]
    simp
theorem cutV_one (xs : List V) : cutV xs (some 1) none = xs.drop 1 := by
  have h := cutV_nat xs 1
  exact h
theorem cutV_to (xs : List V) (n : Nat) : cutV xs none (some (n : Int)) = xs.take n := by
  unfold cutV
  rw [HT.sIx_nat, HT.sIx_none, List.drop_zero, Nat.sub_zero]
  by_cases h : n ≤ xs.length
  · have e : min n xs.length = n := by omega
    rw [e]
  · have e : min n xs.length = xs.length := by omega
    rw [e, List.take_of_length_le (Nat.le_refl xs.length), List.take_of_length_le (by omega)]
theorem cutV_last (xs : List V) : cutV xs none (some (-1)) = xs.dropLast := by
  unfold cutV
  rw [HT.sIx_none]
  have e : HT.sIx xs.length xs.length (some (-1)) = xs.length - 1 := by
    show (if (-1 : Int) < 0 then ((-1 : Int) + (xs.length : Int)).toNat else min (-1 : Int).toNat xs.length) = _
    rw [if_pos (by decide)]
    omega
  rw [e, List.drop_zero, Nat.sub_zero, List.dropLast_eq_take]
/-! ### told_host -/
abbrev sToldHost : Stmt := top 18
abbrev NToldHost : List Str := ["host", "host_parts"]
theorem scToldHost : FnScope NToldHost ["host"] (defScope sToldHost) := ⟨rfl, rfl, rfl, by decide +kernel, rfl, by decide +kernel, by decide +kernel⟩
def spToldHost : Sp := fun vs H Q _ => ∃ x : Str, vs = [.str x] ∧ x.length < 100000 ∧ ∀ r H', Same H H' → tl r = joinC 46 (hostL (splitC 46 (tl x))) → Q (.str r) H'
theorem ok_told_host (D : DefAt K mg "told_host" sToldHost) (GL : Glb K w mg) : FnAt P w K mg base CX0 "told_host" ["host"] [] 1 spToldHost := by
  refine D.ok scToldHost (fun _ _ _ _ _ _ us hl => match us, hl with | [_], _ => rfl) (fun vs H Q E h => ?_) (fun f cdv A outer s H vs Q E hr h => ?_)
  · obtain ⟨x, rfl, _⟩ := h
    rfl
  · obtain ⟨x, rfl, hx, k⟩ := h
    refine ⟨_, (pss_cons (ps_set (i := 1) scToldHost.nd rfl (Or.inl rfl) (pe_split (pv 0) pe_str))
      (pss_cons (ps_while PassesOwn.never (PW.pt (pw_and (pt_cmpR op_gt (pe_callB call_len_seq (by rfl) GL.len (by decide +kernel) (pa_cons (pv 1) pa_nil)) pe_int (nomark _)) (pw_and1 (pt_cmpR op_eq (pe_ix ix_list (pv 1) pe_int (fun _ _ => rfl)) pe_str (nomark _))))) (pss_one (ps_set (i := 1) scToldHost.nd rfl (Or.inl rfl) (pe_slice sl_list (pv 1) (po_some pe_int) po_none))))
      (pss_one (ps_ret (pe_join pe_str (pv 1)))))), ?_⟩
    have hl := len_tl x
    have hsz : x.length + 2 ≤ sizeLine := by rw [sizeLine_eq]; omega
    have sp := split1 x (y := ".") (d := 46) (by decide +kernel)
    have ssum := splitC_sum 46 (tl x)
    refine ⟨_, rfl, ⟨_, rfl⟩, x, _, rfl, rfl, by decide +kernel, hsz, fun a ha => ?_⟩
    generalize Txt.split x "." = zs at sp
    refine ⟨fun m σ H' => ∃ (p : Addr) (ys : List Str), σ = [some (.str x), some (.ref p)] ∧ H' p = some (.lst (ys.map V.str)) ∧ Same H H' ∧ hostL (ys.map tl) = hostL (splitC 46 (tl x)) ∧ m = ys.length ∧ sumL (ys.map tl) + ys.length ≤ x.length + 1,
      ⟨zs.length, a, zs, rfl, upd_same, Same.new (Same.refl H) ha, by rw [sp], rfl, ?_⟩, ?_⟩
    · rw [sp]
      have := congrArg List.length sp
      rw [List.length_map] at this
      omega
    · rintro m σ H' ⟨p, ys, rfl, hp, s1, eh, rfl, hsum⟩
      refine ⟨_, rfl, p, _, rfl, .inl (SqL.of hp), _, _, rfl, rfl, _, rfl, ?_⟩
      have fin : hostL (ys.map tl) = ys.map tl → tRet (tM1 (fun x xs H Q => ∃ a p, ∃ ys : List Str, x = .str a ∧ xs = [.ref p] ∧ (SqL K H p (ys.map V.str) ∨ SqT K H p (ys.map V.str)) ∧ (ys.map (·.length)).sum + ys.length * a.length ≤ 16777216 ∧ Q (.str (Txt.join a ys)) H) (tC (.str ".")) (tVar 1)) { nx := fun _ H' => Q .non H', rt := Q } [some (.str x), some (.ref p)] H' := fun e => by
        refine ⟨⟨_, rfl⟩, _, rfl, _, p, ys, rfl, rfl, .inl (SqL.of hp), ?_, ?_⟩
        · rw [len_strs]
          have : (Str.ofString ".").length = 1 := by decide +kernel
          rw [this]
          omega
        · refine k _ H' s1 ?_
          rw [join1 (d := 46) (by decide +kernel), ← e, eh]
      match ys, hp, eh, hsum, fin with
      | [], hp, eh, hsum, fin => exact iteF (fin rfl)
      | [_], hp, eh, hsum, fin => exact iteF (fin rfl)
      | [_, _], hp, eh, hsum, fin => exact iteF (fin rfl)
      | y0 :: y1 :: y2 :: yr, hp, eh, hsum, fin =>
        have e3 : decide ((2 : Int) < (((y0 :: y1 :: y2 :: yr).map V.str).length : Int)) = true := by
          refine decide_eq_true ?_
          simp only [List.length_map, List.length_cons]
          omega
        rw [e3]
        refine iteT ⟨_, rfl, p, _, 0, .str y0, rfl, rfl, SqL.of hp, atI_nat (j := 0) rfl, rfl, _, rfl, ?_⟩
        have ew : tl (Str.ofString "www") = www := by decide +kernel
        by_cases q : y0 = "www"
        · rw [decide_eq_true (show V.str y0 = V.str "www" by rw [q])]
          refine iteT ⟨_, fun _ _ n => n, ?_⟩
          refine ⟨_, rfl, _, rfl, p, _, rfl, SqL.of hp, fun b hb => ?_⟩
          have ecut : cutV ((y0 :: y1 :: y2 :: yr).map V.str) (some 1) none = (y1 :: y2 :: yr).map V.str := cutV_one _
          rw [ecut]
          refine ⟨(y1 :: y2 :: yr).length, by simp, b, y1 :: y2 :: yr, rfl, upd_same, Same.new s1 hb, ?_, rfl, ?_⟩
          · rw [← eh]
            simp only [List.map_cons]
            rw [q, ew, hostL_www]
          · rw [List.map_cons, sumL_cons] at hsum
            simp only [List.length_cons] at hsum ⊢
            omega
        · rw [decide_eq_false (show ¬ V.str y0 = V.str "www" from fun h => q (V.str.inj h))]
          refine iteF (fin ?_)
          simp only [List.map_cons]
          exact hostL_other fun h => q (ext_tl (h.trans ew.symm))
/-! ### way_parts -/
theorem wayL_sum {t : Tx} (h : isW t = true) : sumL (wayL t) ≤ t.length ∧ (wayL t).length ≤ t.length + 1 := by
  have h1 := told_len h
  have h2 := splitC_sum 47 (toldL t)
  have h3 := way_len (splitC 47 (toldL t)) []
  have h4 : ∀ (ps f : List Tx), sumL (ps.foldl stepW f) ≤ sumL f + sumL ps := by
    intro ps
    induction ps with
    | nil => intro f; exact Nat.le_add_right _ _
    | cons p r ih =>
      intro f
      rw [List.foldl_cons, sumL_cons]
      have := ih (stepW f p)
      have h5 : sumL (stepW f p) ≤ sumL f + p.length := by
        unfold stepW
        split
        · have : sumL f.dropLast ≤ sumL f := by
            rw [List.dropLast_eq_take]
            have e := congrArg sumL (List.take_append_drop (f.length - 1) f)
            rw [sumL_app] at e
            omega
          omega
        · split
          · omega
          · rw [sumL_app, sumL_cons]
            simp [sumL]
      omega
  have h5 := h4 (splitC 47 (toldL t)) []
  have h6 : sumL ([] : List Tx) = 0 := rfl
  have h7 : 1 ≤ (splitC 47 (toldL t)).length := List.length_pos_iff.mpr (splitC_ne _ _)
  unfold wayL
  simp only [List.length_nil] at h3
  omega
abbrev sWayParts : Stmt := top 19
abbrev NWayParts : List Str := ["way", "found", "part"]
theorem scWayParts : FnScope NWayParts ["way"] (defScope sWayParts) := ⟨rfl, rfl, rfl, by decide +kernel, rfl, by decide +kernel, by decide +kernel⟩
def spWayParts : Sp := fun vs H Q _ => ∃ x : Str, vs = [.str x] ∧ x.length < 99990 ∧ isW (tl x) = true ∧ ∀ p (ys : List Str) H', Same H H' → H' p = some (.tup (ys.map V.str)) → ys.map tl = wayL (tl x) → Q (.ref p) H'
theorem ok_way_parts (D : DefAt K mg "way_parts" sWayParts) (GL : Glb K w mg) (F_told_signs : FnAt P w K mg base CX0 "told_signs" ["text"] [] 2 spTold) : FnAt P w K mg base CX0 "way_parts" ["way"] [] 3 spWayParts := by
  refine D.ok scWayParts (fun _ _ _ _ _ _ us hl => match us, hl with | [_], _ => rfl) (fun vs H Q E h => ?_) (fun f cdv A outer s H vs Q E hr h => ?_)
  · obtain ⟨x, rfl, _⟩ := h
    rfl
  · obtain ⟨x, rfl, hx, hw, k⟩ := h
    refine ⟨_, (pss_cons (ps_set (i := 1) scWayParts.nd rfl (Or.inl rfl) (pe_lst pa_nil))
      (pss_cons (ps_for PassesOwn.never rfl (pi_list (pe_split (pe_cf F_told_signs (hr.mono (by decide)) pass0 (pa_cons (pv 0) pa_nil)) pe_str)) (pg_name (i := 2) scWayParts.nd rfl (Or.inl rfl)) (pss_one (ps_if (pt_cmpR op_eq (pv 2) pe_str (nomark _)) (pss_one (ps_set (i := 1) scWayParts.nd rfl (Or.inl rfl) (pe_slice sl_list (pv 1) po_none (po_some (pe_un un_neg pe_int))))) (pss_one (ps_if (pt_cmpR op_notIn_seq (pv 2) (pe_tup (pa_cons pe_str (pa_cons pe_str pa_nil))) (by rfl)) (pss_one (ps_expr (pe_bm PySem.F.plainAttrs_list PySem.F.slot_list_append PySem.F.type_list_append mt_append (pv 1) (pa_cons (pv 2) pa_nil)))) pss_nil)))))
      (pss_one (ps_ret (pe_callTy call_tuple_of (by rfl) GL.tuple (by decide +kernel) (pa_cons (pv 1) pa_nil)))))), ?_⟩
    have hl := len_tl x
    have tlen := told_len hw
    refine ⟨Nat.zero_le _, fun a ha => ?_⟩
    refine ⟨_, rfl, x, rfl, by omega, hw, fun r H1 s1 er => ?_⟩
    have rl := len_tl r
    rw [er] at rl
    have sp := split1 r (y := "/") (d := 47) (by decide +kernel)
    refine ⟨⟨_, rfl⟩, r, _, rfl, rfl, by decide +kernel, (by rw [sizeLine_eq]; omega), fun b hb => ?_⟩
    have spl := split1_len r (y := "/") (d := 47) (by decide +kernel)
    generalize Txt.split r "/" = zs at sp spl
    rw [er] at sp
    have ab : a ≠ b := ne_of_none (s1 a _ upd_same) hb
    have s0 : Same H H1 := fun c o q => s1 c o (by rw [upd_ne (ne_of_none q ha)]; exact q)
    refine ⟨b, rfl, ⟨_, SqL.of upd_same⟩, for_list (K := K) (a := b) (xs := zs.map V.str) (fun i σ H' => ∃ (p : Addr) (ys : List Str) (u : Option V), σ = [some (.str x), some (.ref p), u] ∧ H' p = some (.lst (ys.map V.str)) ∧ H p = none ∧ p ≠ b ∧ Same H H' ∧ H' b = some (.lst (zs.map V.str)) ∧ ys.length ≤ i ∧ ((splitC 47 (toldL (tl x))).drop i).foldl stepW (ys.map tl) = wayL (tl x))
      ⟨a, [], _, rfl, by rw [upd_ne ab]; exact s1 a _ upd_same, ha, ab, Same.new s0 hb, upd_same, Nat.zero_le _, rfl⟩ (fun i σ H' _ ⟨_, _, _, _, _, _, _, _, hb', _⟩ => SqL.of hb') ?_ ?_⟩
    · rintro i y σ H' hi ⟨p, ys, u, rfl, hp, hp0, pb, s2, hb', hlen, ef⟩
      obtain ⟨z, hz, rfl⟩ := strs_at hi
      have hz2 : (splitC 47 (toldL (tl x)))[i]? = some (tl z) := by rw [← sp, List.getElem?_map, hz]; rfl
      have ed : (splitC 47 (toldL (tl x))).drop i = tl z :: (splitC 47 (toldL (tl x))).drop (i + 1) := by
        obtain ⟨h1, h2⟩ := List.getElem?_eq_some_iff.mp hz2
        rw [List.drop_eq_getElem_cons h1, h2]
      rw [ed, List.foldl_cons] at ef
      have il : i < zs.length := (List.getElem?_eq_some_iff.mp hz).1
      refine ⟨_, rfl, rfl, _, rfl, ?_⟩
      by_cases q1 : z = ".."
      · rw [decide_eq_true (show V.str z = V.str ".." by rw [q1])]
        refine iteT ⟨_, rfl, _, rfl, _, rfl, p, _, rfl, SqL.of hp, fun c hc => ?_⟩
        rw [cutV_last]
        have cb : c ≠ b := fun e => by rw [e, hb'] at hc; cases hc
        refine ⟨c, ys.dropLast, _, rfl, by rw [upd_same, List.map_dropLast], s2.free hc, cb, Same.new s2 hc, by rw [upd_ne (Ne.symm cb)]; exact hb', by rw [List.length_dropLast]; omega, ?_⟩
        have e0 : tl z = [46, 46] := by rw [q1]; decide +kernel
        rw [← ef, e0, List.map_dropLast]
        rfl
      · rw [decide_eq_false (show ¬ V.str z = V.str ".." from fun h => q1 (V.str.inj h))]
        have e1 : tl z ≠ [46, 46] := fun h => q1 (ext_tl (by rw [h]; decide +kernel))
        refine iteF ⟨_, rfl, (by show 2 ≤ sizeLine; decide), fun c hc => ?_⟩
        refine ⟨c, _, rfl, .inr (SqT.of upd_same), rfl, rfl, _, rfl, ?_⟩
        have cb : c ≠ b := fun e => by rw [e, hb'] at hc; cases hc
        have cp : c ≠ p := fun e => by rw [e, hp] at hc; cases hc
        have ein : inV (V.str z) [V.str "", V.str "."] = decide (tl z = [] ∨ tl z = [46]) := by
          have t1 : tl (Str.ofString "") = [] := by decide +kernel
          have t2 : tl (Str.ofString ".") = [46] := by decide +kernel
          have b1 : eqV (V.str "") (V.str z) = decide (tl z = []) := by
            show ((Str.ofString "") == z) = _
            by_cases q : tl z = []
            · rw [decide_eq_true q, beq_iff_eq]
              exact ext_tl (t1.trans q.symm)
            · rw [decide_eq_false q, beq_eq_false_iff_ne]
              exact fun h => q (by rw [← h]; exact t1)
          have b2 : eqV (V.str ".") (V.str z) = decide (tl z = [46]) := by
            show ((Str.ofString ".") == z) = _
            by_cases q : tl z = [46]
            · rw [decide_eq_true q, beq_iff_eq]
              exact ext_tl (t2.trans q.symm)
            · rw [decide_eq_false q, beq_eq_false_iff_ne]
              exact fun h => q (by rw [← h]; exact t2)
          show (eqV (V.str "") (V.str z) || (eqV (V.str ".") (V.str z) || false)) = _
          rw [b1, b2, Bool.or_false, Bool.decide_or]
        rw [ein]
        by_cases q2 : tl z = [] ∨ tl z = [46]
        · rw [decide_eq_true q2]
          refine iteF ⟨p, ys, _, rfl, by rw [upd_ne (Ne.symm cp)]; exact hp, hp0, pb, Same.new s2 hc, by rw [upd_ne (Ne.symm cb)]; exact hb', by omega, ?_⟩
          rw [← ef, stepW, if_neg e1, if_pos q2]
        · rw [decide_eq_false q2]
          refine iteT ⟨_, rfl, .inl ⟨rfl, _, SqL.of (by rw [upd_ne (Ne.symm cp)]; exact hp)⟩, _, rfl, p, _, _, rfl, rfl, (by rw [upd_ne (Ne.symm cp)]; exact hp), ?_, ?_⟩
          · rw [List.length_map, sizeLine_eq]
            omega
          · refine ⟨p, ys ++ [z], _, rfl, by rw [upd_same, List.map_append]; rfl, hp0, pb, Same.put (Same.new s2 hc) hp0, by rw [upd_ne (Ne.symm pb), upd_ne (Ne.symm cb)]; exact hb', by simp; omega, ?_⟩
            rw [← ef, List.map_append, stepW, if_neg e1, if_neg q2]
            rfl
    · rintro σ H' ⟨p, ys, u, rfl, hp, hp0, pb, s2, hb', hlen, ef⟩
      have e2 : (splitC 47 (toldL (tl x))).drop (zs.map V.str).length = [] := by
        rw [← sp]
        simp
      rw [e2] at ef
      exact ⟨_, rfl, p, _, rfl, .inl ⟨SqL.of hp, fun l hl2 => k l ys _ (Same.new s2 hl2) upd_same ef⟩⟩
end Kp
namespace Kp
open PySem PySem.Spec PyProof.Rows L2 TL
variable {P : Program} {w : World} {K : PySem.W.Frag} {mg : Str → Option Value} {base : Heap}
theorem str_is (z s : Str) (l : Tx) (h : tl s = l) : decide (V.str z = V.str s) = decide (tl z = l) := by
  by_cases q : tl z = l
  · rw [decide_eq_true q, decide_eq_true_eq]
    exact congrArg V.str (ext_tl (q.trans h.symm))
  · rw [decide_eq_false q, decide_eq_false_iff_not]
    exact fun e => q (by rw [V.str.inj e]; exact h)
theorem sumL_filter (f : Tx → Bool) : ∀ ps : List Tx, sumL (ps.filter f) ≤ sumL ps
  | [] => Nat.le_refl _
  | p :: r => by
    have ih := sumL_filter f r
    rw [List.filter_cons, sumL_cons]
    split
    · rw [sumL_cons]; omega
    · omega
theorem sumL_perm {ps qs : List Tx} (h : ps.Perm qs) : sumL ps = sumL qs := (h.map List.length).sum_nat
theorem asksL_sum {t : Tx} (h : isW t = true) : sumL (asksL t) ≤ t.length ∧ (asksL t).length ≤ t.length + 1 := by
  have h1 := told_len h
  have h2 := splitC_sum 38 (toldL t)
  obtain ⟨L, e, h3, h4⟩ : ∃ L, asksL t = sortT L ∧ sumL L ≤ sumL (splitC 38 (toldL t)) ∧ L.length ≤ (splitC 38 (toldL t)).length := ⟨_, rfl, sumL_filter _ _, List.length_filter_le _ _⟩
  rw [e, sumL_perm (sortT_perm _), (sortT_perm _).length_eq]
  have h7 : 1 ≤ (splitC 38 (toldL t)).length := List.length_pos_iff.mpr (splitC_ne _ _)
  omega
/-! ### ask_parts -/
abbrev sAskParts : Stmt := top 20
abbrev NAskParts : List Str := ["asks", "without", "found", "ask"]
theorem scAskParts : FnScope NAskParts ["asks", "without"] (defScope sAskParts) := ⟨rfl, rfl, rfl, by decide +kernel, rfl, by decide +kernel, by decide +kernel⟩
def spAskParts (K : PySem.W.Frag) : Sp := fun vs H Q _ => ∃ (x : Str) (wp : Addr), vs = [.str x, .ref wp] ∧ SqT K H wp [] ∧ x.length < 99990 ∧ isW (tl x) = true ∧ ∀ p (ys : List Str) H', Same H H' → H' p = some (.tup (ys.map V.str)) → ys.map tl = asksL (tl x) → Q (.ref p) H'
theorem Same.seqT {H H' : Hp} {a : Addr} {xs : List V} (e : Same H H') (h : SqT K H a xs) : SqT K H' a xs := by
  rcases h with (h | ⟨o, h⟩) | h
  · exact .inl (.inl (e _ _ h))
  · exact .inl (.inr ⟨o, e _ _ h⟩)
  · exact .inr h
theorem ok_ask_parts (D : DefAt K mg "ask_parts" sAskParts) (GL : Glb K w mg) (F_told_signs : FnAt P w K mg base CX0 "told_signs" ["text"] [] 2 spTold) : FnAt P w K mg base CX0 "ask_parts" ["asks", "without"] [] 3 (spAskParts K) := by
  refine D.ok scAskParts (fun _ _ _ _ _ _ us hl => match us, hl with | [_, _], _ => rfl) (fun vs H Q E h => ?_) (fun f cdv A outer s H vs Q E hr h => ?_)
  · obtain ⟨x, wp, rfl, _⟩ := h
    rfl
  · obtain ⟨x, wp, rfl, hwp, hx, hw, k⟩ := h
    refine ⟨_, (pss_cons (ps_set (i := 2) scAskParts.nd rfl (Or.inl rfl) (pe_lst pa_nil))
      (pss_cons (ps_for PassesOwn.never rfl (pi_list (pe_split (pe_cf F_told_signs (hr.mono (by decide)) pass0 (pa_cons (pv 0) pa_nil)) pe_str)) (pg_name (i := 3) scAskParts.nd rfl (Or.inl rfl)) (pss_one (ps_if (PW.pt (pw_and (pt_cmpR op_ne (pv 3) pe_str (nomark _)) (pw_and1 (pt_cmpR op_notIn_seq (pe_ix ix_tup (pe_partition (pv 3) pe_str) pe_int (fun _ _ => rfl)) (pv 1) (by rfl))))) (pss_one (ps_expr (pe_bm PySem.F.plainAttrs_list PySem.F.slot_list_append PySem.F.type_list_append mt_append (pv 2) (pa_cons (pv 3) pa_nil)))) pss_nil)))
      (pss_one (ps_ret (pe_callTy call_tuple_of (by rfl) GL.tuple (by decide +kernel) (pa_cons (pe_callB cr_sortedSA (by rfl) GL.sorted (by decide +kernel) (pa_cons (pv 2) pa_nil)) pa_nil)))))), ?_⟩
    have hl := len_tl x
    have tlen := told_len hw
    refine ⟨Nat.zero_le _, fun a ha => ?_⟩
    refine ⟨_, rfl, x, rfl, by omega, hw, fun r H1 s1 er => ?_⟩
    have rl := len_tl r
    rw [er] at rl
    have sp := split1 r (y := "&") (d := 38) (by decide +kernel)
    refine ⟨⟨_, rfl⟩, r, _, rfl, rfl, by decide +kernel, (by rw [sizeLine_eq]; omega), fun b hb => ?_⟩
    have spl := split1_len r (y := "&") (d := 38) (by decide +kernel)
    generalize Txt.split r "&" = zs at sp spl
    rw [er] at sp
    have ab : a ≠ b := ne_of_none (s1 a _ upd_same) hb
    have s0 : Same H H1 := fun c o q => s1 c o (by rw [upd_ne (ne_of_none q ha)]; exact q)
    refine ⟨b, rfl, ⟨_, SqL.of upd_same⟩, for_list (K := K) (a := b) (xs := zs.map V.str) (fun i σ H' => ∃ (ys : List Str) (u : Option V), σ = [some (.str x), some (.ref wp), some (.ref a), u] ∧ H' a = some (.lst (ys.map V.str)) ∧ Same H H' ∧ H' b = some (.lst (zs.map V.str)) ∧ ys.length ≤ i ∧ ys.map tl = ((splitC 38 (toldL (tl x))).take i).filter fun p => decide (p ≠ []))
      ⟨[], _, rfl, by rw [upd_ne ab]; exact s1 a _ upd_same, Same.new s0 hb, upd_same, Nat.zero_le _, rfl⟩ (fun i σ H' _ ⟨_, _, _, _, _, hb', _⟩ => SqL.of hb') ?_ ?_⟩
    · rintro i y σ H' hi ⟨ys, u, rfl, hp, s2, hb', hlen, ef⟩
      obtain ⟨z, hz, rfl⟩ := strs_at hi
      have hz2 : (splitC 38 (toldL (tl x)))[i]? = some (tl z) := by rw [← sp, List.getElem?_map, hz]; rfl
      have ed : (splitC 38 (toldL (tl x))).take (i + 1) = (splitC 38 (toldL (tl x))).take i ++ [tl z] := by
        rw [List.take_add_one, hz2]
        rfl
      have il : i < zs.length := (List.getElem?_eq_some_iff.mp hz).1
      have zl := len_tl z
      have zl2 : (tl z).length ≤ (toldL (tl x)).length := split_part_len (List.mem_of_getElem? hz2)
      refine ⟨_, rfl, rfl, _, rfl, ?_⟩
      rw [str_is z "" [] (by decide +kernel)]
      by_cases q1 : tl z = []
      · rw [decide_eq_true q1]
        refine iteF (iteF ⟨ys, _, rfl, hp, s2, hb', by omega, ?_⟩)
        rw [ed, List.filter_append, ef, q1]
        simp
      · rw [decide_eq_false q1]
        refine iteT ⟨_, rfl, ⟨_, rfl⟩, z, _, rfl, rfl, by decide +kernel, (by rw [sizeLine_eq]; omega), fun c hc => ?_⟩
        have cb : c ≠ b := fun e => by rw [e, hb'] at hc; cases hc
        have ca : c ≠ a := fun e => by rw [e, hp] at hc; cases hc
        refine ⟨c, _, 0, _, rfl, rfl, SqT.of upd_same, atI_nat (j := 0) rfl, ?_⟩
        refine ⟨_, rfl, wp, _, rfl, .inr (Same.seqT (Same.new s2 hc) hwp), rfl, rfl, _, rfl, ?_⟩
        refine iteT ⟨_, rfl, .inl ⟨rfl, _, SqL.of (by rw [upd_ne (Ne.symm ca)]; exact hp)⟩, _, rfl, a, _, _, rfl, rfl, (by rw [upd_ne (Ne.symm ca)]; exact hp), ?_, ?_⟩
        · rw [List.length_map, sizeLine_eq]
          omega
        · refine ⟨ys ++ [z], _, rfl, by rw [upd_same, List.map_append]; rfl, Same.put (Same.new s2 hc) ha, by rw [upd_ne (Ne.symm ab), upd_ne (Ne.symm cb)]; exact hb', by simp; omega, ?_⟩
          rw [ed, List.filter_append, ← ef]
          simp [q1]
    · rintro σ H' ⟨ys, u, rfl, hp, s2, hb', hlen, ef⟩
      have e2 : (splitC 38 (toldL (tl x))).take (zs.map V.str).length = splitC 38 (toldL (tl x)) := by
        rw [← sp]
        simp
        rw [← List.map_take, List.take_of_length_le (Nat.le_refl _)]
      rw [e2] at ef
      refine ⟨_, rfl, a, ys, rfl, SqL.of hp, fun vs' c hperm hsort hc => ?_⟩
      have s3 := Same.new (o := .lst (vs'.map V.str)) s2 hc
      refine ⟨c, _, rfl, .inl ⟨SqL.of upd_same, fun l hl2 => k l vs' _ (Same.new s3 hl2) upd_same ?_⟩⟩
      rw [sortedS_sortT hperm hsort, ef]
      rfl
end Kp
namespace Kp
open PySem PySem.Spec PyProof.Rows L2 TL
variable {P : Program} {w : World} {K : PySem.W.Frag} {mg : Str → Option Value} {base : Heap}
/-! ### comprehensions that only read -/
theorem take_snoc {α β : Type} (f : α → β) {xs : List α} {i : Nat} {x : α} (h : xs[i]? = some x) : (xs.take (i + 1)).map f = (xs.take i).map f ++ [f x] := by
  rw [List.take_add_one, h]
  simp
theorem lcT_pure {K : PySem.W.Frag} {a : Addr} {xs : List V} {i0 : Nat} {te : TE} {σ : L2.St} {vs : List Nat} {H1 : Hp} {Q : VK} (f : V → V) (ha : SqT K H1 a xs) (hw : ∀ v, wipe ((wipe σ vs).set i0 (some v)) vs = wipe σ vs) (hl : xs.length < 100000)
    (he : ∀ v H' (Q' : VK), v ∈ xs → Same H1 H' → (∀ H'', Same H' H'' → Q' (f v) H'') → te ((wipe σ vs).set i0 (some v)) H' Q')
    (k : ∀ D H', H1 D = none → Same H1 H' → H' D = some (.lst (xs.map f)) → Q (.ref D) H') : ∀ D, H1 D = none → ∃ W : Nat → Nat → Hp → Prop, (∃ m, W 0 m (upd H1 D (.lst []))) ∧ ∀ i m H, W i m H →
  ((Itt K a).stop i H ∧ Q (.ref D) H) ∨ ((Itt K a).go i H ∧ ∃ Nx : Hp → Prop, (∀ H', Nx H' → ∃ m', m' < m ∧ W (i + 1) m' H') ∧ ∀ x H', (Itt K a).yld i H x H' → gName i0 x (wipe σ vs) H' fun σ2 H2 => wipe σ2 vs = wipe σ vs ∧ tYes σ2 H2 fun b H3 =>
    if b = true then te σ2 H3 fun y H4 => ∃ acc, H4 D = some (.lst acc) ∧ acc.length < sizeLine ∧ Nx (upd H4 D (.lst (acc ++ [y]))) else Nx H3) := fun D hD =>
  lc_tup (K := K) (a := a) (xs := xs) (g := gName i0) (fun i H' => Same H1 H' ∧ H' D = some (.lst ((xs.take i).map f))) ⟨Same.new (Same.refl H1) hD, upd_same⟩ (fun i H' _ p => Same.seqT p.1 ha) (fun i x H' hi p => by
    refine ⟨hw x, ?_⟩
    show te _ _ _
    refine he x H' _ (List.mem_of_getElem? hi) p.1 fun H'' s => ⟨_, s _ _ p.2, ?_, Same.put (p.1.trans s) hD, ?_⟩
    · rw [List.length_map, List.length_take, sizeLine_eq]
      omega
    · rw [upd_same, take_snoc f hi]) (fun H' p => k D H' hD p.1 (by rw [p.2, List.take_length]))
theorem lcL_pure {K : PySem.W.Frag} {a : Addr} {xs : List V} {i0 : Nat} {te : TE} {σ : L2.St} {vs : List Nat} {H1 : Hp} {Q : VK} (f : V → V) (ha : SqL K H1 a xs) (hw : ∀ v, wipe ((wipe σ vs).set i0 (some v)) vs = wipe σ vs) (hl : xs.length < 100000)
    (he : ∀ v H' (Q' : VK), v ∈ xs → Same H1 H' → (∀ H'', Same H' H'' → Q' (f v) H'') → te ((wipe σ vs).set i0 (some v)) H' Q')
    (k : ∀ D H', H1 D = none → Same H1 H' → H' D = some (.lst (xs.map f)) → Q (.ref D) H') : ∀ D, H1 D = none → ∃ W : Nat → Nat → Hp → Prop, (∃ m, W 0 m (upd H1 D (.lst []))) ∧ ∀ i m H, W i m H →
  ((Itl K a).stop i H ∧ Q (.ref D) H) ∨ ((Itl K a).go i H ∧ ∃ Nx : Hp → Prop, (∀ H', Nx H' → ∃ m', m' < m ∧ W (i + 1) m' H') ∧ ∀ x H', (Itl K a).yld i H x H' → gName i0 x (wipe σ vs) H' fun σ2 H2 => wipe σ2 vs = wipe σ vs ∧ tYes σ2 H2 fun b H3 =>
    if b = true then te σ2 H3 fun y H4 => ∃ acc, H4 D = some (.lst acc) ∧ acc.length < sizeLine ∧ Nx (upd H4 D (.lst (acc ++ [y]))) else Nx H3) := fun D hD =>
  lc_list (K := K) (a := a) (xs := xs) (g := gName i0) (fun i H' => Same H1 H' ∧ H' D = some (.lst ((xs.take i).map f))) ⟨Same.new (Same.refl H1) hD, upd_same⟩ (fun i H' _ p => p.1.seq ha) (fun i x H' hi p => by
    refine ⟨hw x, ?_⟩
    show te _ _ _
    refine he x H' _ (List.mem_of_getElem? hi) p.1 fun H'' s => ⟨_, s _ _ p.2, ?_, Same.put (p.1.trans s) hD, ?_⟩
    · rw [List.length_map, List.length_take, sizeLine_eq]
      omega
    · rw [upd_same, take_snoc f hi]) (fun H' p => k D H' hD p.1 (by rw [p.2, List.take_length]))
theorem rd_lcT {K : PySem.W.Frag} {j i0 : Nat} {te : TE} {vs : List Nat} {σ : L2.St} {H1 : Hp} {Q : VK} (a : Addr) (xs : List V) (f : V → V) (hj : σ[j]? = some (some (.ref a))) (ha : SqT K H1 a xs) (hw : ∀ v, wipe ((wipe σ vs).set i0 (some v)) vs = wipe σ vs) (hl : xs.length < 100000)
    (he : ∀ v H' (Q' : VK), v ∈ xs → Same H1 H' → (∀ H'', Same H' H'' → Q' (f v) H'') → te ((wipe σ vs).set i0 (some v)) H' Q')
    (k : ∀ D H', H1 D = none → Same H1 H' → H' D = some (.lst (xs.map f)) → Q (.ref D) H') : tLc (iTup K (tVar j)) (gName i0) tYes te vs σ H1 Q :=
  ⟨_, hj, a, rfl, ⟨xs, ha⟩, lcT_pure (K := K) (i0 := i0) (te := te) (σ := σ) (vs := vs) (Q := Q) f ha hw hl he k⟩
theorem rd_lcL {K : PySem.W.Frag} {j i0 : Nat} {te : TE} {vs : List Nat} {σ : L2.St} {H1 : Hp} {Q : VK} (a : Addr) (xs : List V) (f : V → V) (hj : σ[j]? = some (some (.ref a))) (ha : SqL K H1 a xs) (hw : ∀ v, wipe ((wipe σ vs).set i0 (some v)) vs = wipe σ vs) (hl : xs.length < 100000)
    (he : ∀ v H' (Q' : VK), v ∈ xs → Same H1 H' → (∀ H'', Same H' H'' → Q' (f v) H'') → te ((wipe σ vs).set i0 (some v)) H' Q')
    (k : ∀ D H', H1 D = none → Same H1 H' → H' D = some (.lst (xs.map f)) → Q (.ref D) H') : tLc (iList K (tVar j)) (gName i0) tYes te vs σ H1 Q :=
  ⟨_, hj, a, rfl, ⟨xs, ha⟩, lcL_pure (K := K) (i0 := i0) (te := te) (σ := σ) (vs := vs) (Q := Q) f ha hw hl he k⟩
/-! ### the gates -/
theorem kdct_gate (GL : Glb K w mg) {k : Str} (h : tl k = leafT ∨ tl k = sealT) : KDct K w GL.aG k (.int (ownG (tl k) : Nat)) := by
  obtain ⟨t1, e1⟩ := GL.g_leaf
  obtain ⟨t2, e2⟩ := GL.g_seal
  rcases h with h | h
  · have e : k = "leaf" := ext_tl (by rw [h]; decide +kernel)
    rw [h, e]
    exact ⟨GL.esG, GL.nG, _, GL.kdGATES.at_, GL.kdGATES.lit, e1, ⟨t1, rfl⟩⟩
  · have e : k = "seal" := ext_tl (by rw [h]; decide +kernel)
    rw [h, e]
    exact ⟨GL.esG, GL.nG, _, GL.kdGATES.at_, GL.kdGATES.lit, e2, ⟨t2, rfl⟩⟩
/-! ### form_by -/
abbrev sFormBy : Stmt := top 21
abbrev NFormBy : List Str := ["kind", "host", "gate", "parts", "asks", "told", "part"]
theorem scFormBy : FnScope NFormBy ["kind", "host", "gate", "parts", "asks"] (defScope sFormBy) := ⟨rfl, rfl, rfl, by decide +kernel, rfl, by decide +kernel, by decide +kernel⟩
structure PgAt (K : PySem.W.Frag) (H : Hp) (v : Pg) (k h : Str) (pp ap : Addr) : Prop where
  kind : tl k = v.kind
  host : tl h = v.host
  parts : ∃ ps : List Str, SqT K H pp (ps.map V.str) ∧ ps.map tl = v.parts
  asks : ∃ as : List Str, SqT K H ap (as.map V.str) ∧ as.map tl = v.asks
theorem PgAt.same {H H' : Hp} {v : Pg} {k h : Str} {pp ap : Addr} (s : Same H H') (x : PgAt K H v k h pp ap) : PgAt K H' v k h pp ap := by
  obtain ⟨a, b, ⟨ps, h1, h2⟩, ⟨as, h3, h4⟩⟩ := x
  exact ⟨a, b, ⟨ps, Same.seqT s h1, h2⟩, ⟨as, Same.seqT s h3, h4⟩⟩
def spFormBy (K : PySem.W.Frag) : Sp := fun vs H Q _ => ∃ (v : Pg) (k h : Str) (pp ap : Addr), vs = [.str k, .str h, .int (v.gate : Nat), .ref pp, .ref ap] ∧ WfPg v ∧ (formL v).length < 100000 ∧ PgAt K H v k h pp ap ∧ ∀ r H', Same H H' → tl r = formL v → Q (.str r) H'
theorem wayP_len (ps : List Tx) : (wayP ps).length = sumL ps + ps.length := by
  unfold wayP
  induction ps with
  | nil => rfl
  | cons p r ih =>
    rw [List.map_cons, List.flatten_cons, List.length_append, ih, sumL_cons]
    simp only [List.length_cons]
    omega
theorem ok_form_by (D : DefAt K mg "form_by" sFormBy) (GL : Glb K w mg) : FnAt P w K mg base CX0 "form_by" ["kind", "host", "gate", "parts", "asks"] [] 1 (spFormBy K) := by
  refine D.ok scFormBy (fun _ _ _ _ _ _ us hl => match us, hl with | [_, _, _, _, _], _ => rfl) (fun vs H Q E h => ?_) (fun f cdv A outer s H vs Q E hr h => ?_)
  · obtain ⟨v, k, h, pp, ap, rfl, _⟩ := h
    rfl
  · obtain ⟨v, k, h, pp, ap, rfl, wf, hsz, ⟨ek, eh, ⟨ps, hps, eps⟩, ⟨as, has, eas⟩⟩, kk⟩ := h
    refine ⟨_, (pss_cons (ps_set (i := 5) scFormBy.nd rfl (Or.inl rfl) (pe_op op_add_str (pe_op op_add_str (pv 0) pe_str) (pv 1)))
      (C8.pss_cut (ps_if (pt_cmpR op_ne (pv 2) (pe_ix ix_kdict (pe_globR rfl GL.GATES) (pv 0) (fun _ _ => rfl)) (nomark _)) (pss_one (ps_aug (i := 5) scFormBy.nd rfl (Or.inl rfl) (pe_op op_add_str pe_str (pe_callTy call_str_int (by rfl) GL.str (by decide +kernel) (pa_cons (pv 2) pa_nil))) (pip_of iop_add_str))) pss_nil)
      (pss_cons (ps_aug (i := 5) scFormBy.nd rfl (Or.inl rfl) (pe_join pe_str (pe_lc (own := [("part", 6)]) (g := gName 6) rfl scFormBy.nd (pi_tup (pv 3)) (blkOk_by (own := [("part", 6)]) (N := NFormBy) (sc := defScope sFormBy) (by decide +kernel)) (fun _ _ _ _ _ => pg_name (i := 6) scFormBy.nd rfl (Or.inl rfl)) (fun _ _ _ _ _ => pts_nil) (fun _ _ _ _ _ => (pe_op op_add_str pe_str (pv 6))))) (pip_of iop_add_str))
      (C8.pss_cut (ps_if (pt_cmpR (op_neD hr.units) (pv 4) (pe_tup pa_nil) (nomark _)) (pss_one (ps_aug (i := 5) scFormBy.nd rfl (Or.inl rfl) (pe_op op_add_str pe_str (pe_join pe_str (pv 4))) (pip_of iop_add_str))) pss_nil)
      (pss_one (ps_ret (pv 5))))))), ?_⟩
    have kl := len_tl k
    have hl := len_tl h
    have hk2 : tl k = leafT ∨ tl k = sealT := by rw [ek]; exact wf.kind
    have fl : (formL v).length = (tl k).length + (3 + ((tl h).length + ((gateP v).length + ((wayP v.parts).length + (askP v.asks).length)))) := by
      unfold formL
      rw [ek, eh]
      simp only [List.length_append, List.length_cons]
      omega
    have c3 : (Str.ofString "://").length = 3 := by decide +kernel
    have t3 : tl (Str.ofString "://") = [58, 47, 47] := by decide +kernel
    have l1 := len_tl (k ++ "://")
    rw [tl_app, List.length_append, t3] at l1
    have l1' : (k ++ ("://" : Str)).length = (tl k).length + 3 := l1
    have l2 := len_tl (k ++ "://" ++ h)
    rw [tl_app, List.length_append, ← len_tl, l1'] at l2
    refine ⟨_, rfl, _, _, rfl, rfl, (by rw [sizeLine_eq]; omega), _, rfl, _, _, rfl, rfl, (by rw [sizeLine_eq]; omega), ?_⟩
    have tc : tl (Str.ofString ":") = [58] := by decide +kernel
    have tq : tl (Str.ofString "?") = [63] := by decide +kernel
    have te : tl (Str.ofString "") = [] := by decide +kernel
    have tsl : tl (Str.ofString "/") = [47] := by decide +kernel
    refine ⟨fun σ H' => ∃ (t : Str) (u : Option V), σ = [some (.str k), some (.str h), some (.int (v.gate : Nat)), some (.ref pp), some (.ref ap), some (.str t), u] ∧ Same H H' ∧ tl t = v.kind ++ (58 :: 47 :: 47 :: (v.host ++ gateP v)), ?_, ?_⟩
    · refine ⟨_, rfl, _, rfl, _, _, _, rfl, rfl, kdct_gate GL hk2, rfl, _, rfl, ?_⟩
      rw [ek]
      have eg : decide (V.int (v.gate : Nat) = V.int (ownG v.kind : Nat)) = decide (v.gate = ownG v.kind) := by
        refine decide_eq_decide.mpr ⟨fun e => ?_, fun e => by rw [e]⟩
        have := V.int.inj e
        omega
      rw [eg]
      by_cases q : v.gate = ownG v.kind
      · rw [decide_eq_true q]
        refine iteF ⟨_, _, rfl, Same.refl H, ?_⟩
        rw [tl_app, tl_app, ek, eh, t3, gateP, if_pos q]
        simp
      · rw [decide_eq_false q]
        have gl : gateP v = 58 :: numL v.gate := by rw [gateP, if_neg q]
        have tn : tl (toString ((v.gate : Nat) : Int) : Str) = numL v.gate := tl_num v.gate
        have ln := len_tl (toString ((v.gate : Nat) : Int) : Str)
        rw [tn] at ln
        rw [gl] at fl
        simp only [List.length_cons] at fl
        have lc : (Str.ofString ":").length = 1 := by decide +kernel
        have l4 := len_tl (Str.ofString ":" ++ (toString ((v.gate : Nat) : Int) : Str))
        rw [tl_app, List.length_append, ← len_tl, ← len_tl, lc] at l4
        refine iteT ⟨_, rfl, _, rfl, _, rfl, ?_, _, _, rfl, rfl, (by rw [sizeLine_eq]; omega), _, _, rfl, rfl, (by rw [sizeLine_eq]; omega), ?_⟩
        · have h1 : v.gate < 2 ^ 17 := Nat.lt_of_lt_of_le wf.gate (by decide)
          have h2 : ((v.gate : Nat) : Int).natAbs = v.gate := rfl
          rw [h2]
          by_cases z : v.gate = 0
          · rw [z]; decide
          · exact Nat.lt_of_lt_of_le ((Nat.log2_lt z).mpr h1) (by decide)
        · refine ⟨_, _, rfl, Same.refl H, ?_⟩
          rw [tl_app, tl_app, tl_app, tl_app, ek, eh, t3, tc, tn, gl]
          simp
    · rintro σ H' ⟨t, u, rfl, s1, et⟩
      have tlen := len_tl t
      rw [et] at tlen
      have tlen2 : t.length = (tl k).length + (3 + ((tl h).length + (gateP v).length)) := by
        rw [tlen, ek, eh]
        simp only [List.length_append, List.length_cons]
        omega
      have wl := wayP_len v.parts
      refine ⟨_, rfl, ⟨_, rfl⟩, rd_lcT pp (ps.map V.str) (fun y => match y with | .str z => .str ((Str.ofString "/") ++ z) | y => y) rfl (Same.seqT s1 hps) (fun _ => rfl) ?_ (fun y H2 Q' hy s2 q => ?_) fun D2 H2 hD s2 hD2 => ?_⟩
      · have := congrArg List.length eps
        rw [List.length_map] at this
        rw [List.length_map]
        omega
      · obtain ⟨z, hz, rfl⟩ := List.mem_map.mp hy
        have zl : (tl z).length ≤ sumL v.parts := by
          rw [← eps]
          clear eps wl fl hps q hy
          induction ps with
          | nil => cases hz
          | cons y r ih =>
            rw [List.map_cons, sumL_cons]
            rcases List.mem_cons.mp hz with e | hz
            · subst e; omega
            · have := ih hz; omega
        have zl2 := len_tl z
        have lc : (Str.ofString "/").length = 1 := by decide +kernel
        exact ⟨_, rfl, _, _, rfl, rfl, (by rw [sizeLine_eq]; omega), q H2 (Same.refl H2)⟩
      · have em : (ps.map V.str).map (fun y => match y with | .str z => V.str ((Str.ofString "/") ++ z) | y => y) = (ps.map fun z => (Str.ofString "/") ++ z).map V.str := by
          rw [List.map_map, List.map_map]
          rfl
        rw [em] at hD2
        have ew : ((ps.map fun z => (Str.ofString "/") ++ z).map tl) = v.parts.map (47 :: ·) := by
          rw [← eps, List.map_map, List.map_map]
          refine List.map_congr_left fun z _ => ?_
          show tl (Str.ofString "/" ++ z) = 47 :: tl z
          rw [tl_app, tsl]; rfl
        have esum : sumL (v.parts.map (47 :: ·)) = (wayP v.parts).length := by
          rw [wl]
          generalize v.parts = qs
          induction qs with
          | nil => rfl
          | cons p r ih =>
            rw [List.map_cons, sumL_cons, sumL_cons, ih]
            simp only [List.length_cons]
            omega
        have le0 : (Str.ofString "").length = 0 := by decide +kernel
        have tj : tl (Txt.join "" (ps.map fun z => (Str.ofString "/") ++ z)) = wayP v.parts := by
          rw [join0, ew]; rfl
        have tjl := len_tl (Txt.join "" (ps.map fun z => (Str.ofString "/") ++ z))
        rw [tj] at tjl
        refine ⟨_, D2, _, rfl, rfl, .inl (SqL.of hD2), ?_, _, _, rfl, rfl, ?_, ?_⟩
        · rw [len_strs, ew, esum, le0]; omega
        · rw [sizeLine_eq]
          omega
        · refine ⟨fun σ H' => ∃ (t : Str) (u : Option V), σ = [some (.str k), some (.str h), some (.int (v.gate : Nat)), some (.ref pp), some (.ref ap), some (.str t), u] ∧ Same H H' ∧ tl t = formL v, ?_, ?_⟩
          · refine ⟨_, rfl, Nat.zero_le _, fun c hc => ?_⟩
            have s3 := (s1.trans s2)
            have okas : ∀ y ∈ as, okS y := by
              intro y hy c hc
              have hm : tl y ∈ v.asks := by rw [← eas]; exact List.mem_map.mpr ⟨y, hy, rfl⟩
              have := isW_bound (wf.asks _ hm).1.w c hc
              omega
            refine ⟨_, _, Dp.tup (Same.seqT (Same.new s3 hc) has) (dp_strs as), Dp.tup (SqT.of upd_same) .nil, (shaped_strs okas).2, by decide +kernel, _, rfl, ?_⟩
            have ee : (!PyData.eqv (.tuple (as.map .str)) (.tuple [])) = !as.isEmpty := by
              show (!PyData.eqvAll (as.map .str) []) = _
              rw [eqv_nil, isEmpty_map]
            rw [ee]
            have tt2 : tl (t ++ Txt.join "" (ps.map fun z => (Str.ofString "/") ++ z)) = v.kind ++ (58 :: 47 :: 47 :: (v.host ++ (gateP v ++ wayP v.parts))) := by
              rw [tl_app, et, tj]
              simp
            have tl2 := len_tl (t ++ Txt.join "" (ps.map fun z => (Str.ofString "/") ++ z))
            rw [tl_app, List.length_append, tj, ← len_tl] at tl2
            cases as with
            | nil =>
              have e0 : v.asks = [] := eas.symm
              refine iteF ⟨_, _, rfl, Same.new s3 hc, ?_⟩
              rw [tt2, formL, e0]
              simp [askP]
            | cons a0 ar =>
              have e0 : v.asks ≠ [] := by rw [← eas]; simp
              have al : (askP v.asks).length = 1 + (joinC 38 v.asks).length := by rw [askP, if_neg e0]; simp only [List.length_cons]; omega
              have tja : tl (Txt.join "&" (a0 :: ar)) = joinC 38 v.asks := by rw [join1 (d := 38) (by decide +kernel), eas]
              have tjal := len_tl (Txt.join "&" (a0 :: ar))
              rw [tja] at tjal
              have lq : (Str.ofString "?").length = 1 := by decide +kernel
              have la : (Str.ofString "&").length = 1 := by decide +kernel
              have lqq := len_tl (Str.ofString "?" ++ Txt.join "&" (a0 :: ar))
              rw [tl_app, List.length_append, tq, tja] at lqq
              have lqq2 : (Str.ofString "?" ++ Txt.join "&" (a0 :: ar)).length = 1 + (joinC 38 v.asks).length := lqq
              have jl : sumL v.asks + v.asks.length = (joinC 38 v.asks).length + 1 := by
                have hs := splitC_sum 38 (joinC 38 v.asks)
                rw [splitC_join e0 fun p hp => (wf.asks p hp).2.2.1] at hs
                exact hs
              refine iteT ⟨_, rfl, ⟨_, rfl⟩, _, rfl, _, ap, _, rfl, rfl, .inr (Same.seqT (Same.new s3 hc) has), ?_, _, _, rfl, rfl, (by rw [sizeLine_eq]; omega), _, _, rfl, rfl, (by rw [sizeLine_eq]; omega), ?_⟩
              · rw [len_strs, eas, la]
                have := congrArg List.length eas
                rw [List.length_map] at this
                rw [this]
                omega
              · refine ⟨_, _, rfl, Same.new s3 hc, ?_⟩
                rw [tl_app, tt2, tl_app, tq, tja, formL, askP, if_neg e0]
                simp
          · rintro σ H3 ⟨t, u, rfl, s4, et4⟩
            exact ⟨_, rfl, kk t H3 s4 et4⟩
end Kp
namespace Kp
open PySem PySem.Spec PyProof.Rows L2 TL
variable {P : Program} {w : World} {K : PySem.W.Frag} {mg : Str → Option Value} {base : Heap}
theorem bef_all {d : Nat} {l : Tx} (h : d ∉ l) : bef d l = l ∧ aft d l = [] := ⟨bef_free h, by unfold aft; rw [fro_free h]; rfl⟩
theorem part1 (x : Str) {y : Str} {d : Nat} (e : tl y = [d]) : tl (Txt.partition x y).1 = bef d (tl x) ∧ tl (Txt.partition x y).2.1 = (if d ∈ tl x then [d] else []) ∧ tl (Txt.partition x y).2.2 = aft d (tl x) := by
  have te : tl Str.empty = [] := rfl
  rw [partition_par x y (by rw [e]; simp), e, par_one]
  by_cases h : d ∈ tl x
  · rw [if_pos h, if_pos h]
    exact ⟨rfl, e, rfl⟩
  · rw [if_neg h, if_neg h]
    have := bef_all h
    exact ⟨this.1.symm, te, by rw [this.2]; exact te⟩
theorem fro_mem (d : Nat) (l : Tx) : decide (fro d l = []) = !decide (d ∈ l) := by
  by_cases h : d ∈ l
  · rw [decide_eq_true h]
    refine decide_eq_false fun z => ?_
    have e := bef_fro d l
    rw [z, List.append_nil] at e
    exact bef_no d l (by rw [e]; exact h)
  · rw [decide_eq_false h]
    exact decide_eq_true (fro_free h)
/-! ### cut_address -/
abbrev sCut : Stmt := top 15
abbrev NCut : List Str := ["text", "kind", "mark", "rest", "ahead", "ask_mark", "asks", "place", "way_mark", "way", "host", "gate_mark", "gate"]
theorem scCut : FnScope NCut ["text"] (defScope sCut) := ⟨rfl, rfl, rfl, by decide +kernel, rfl, by decide +kernel, by decide +kernel⟩
def CutAt (H : Hp) (p : Addr) (c : Cut) : Prop := ∃ k h g w a : Str, H p = some (.tup [.str k, .str h, .str g, .str w, .str a]) ∧ tl k = c.kind ∧ tl h = c.host ∧ tl g = c.gate ∧ tl w = c.way ∧ tl a = c.asks
def spCut : Sp := fun vs H Q _ => ∃ x : Str, vs = [.str x] ∧ x.length < 99000 ∧ okS x ∧ (cutL (tl x) = none → ∀ H', Same H H' → Q .non H') ∧ (∀ c, cutL (tl x) = some c → ∀ p H', Same H H' → CutAt H' p c → Q (.ref p) H')
theorem bef_ok {d : Nat} {l : Tx} (h : ∀ c ∈ l, c < 128) : ∀ c ∈ bef d l, c < 128 := fun c hc => h c (bef_sub hc)
theorem aft_ok {d : Nat} {l : Tx} (h : ∀ c ∈ l, c < 128) : ∀ c ∈ aft d l, c < 128 := fun c hc => h c (aft_sub hc)
theorem par_sub : ∀ {S acc l a b : Tx}, par S acc l = some (a, b) → (∀ c ∈ a, c ∈ acc ∨ c ∈ l) ∧ (∀ c ∈ b, c ∈ l) ∧ a.length ≤ acc.length + l.length ∧ b.length ≤ l.length
  | S, acc, [], a, b, h => by cases h
  | S, acc, c :: r, a, b, h => by
    by_cases hp : pre S (c :: r) = true
    · rw [par_hit hp] at h
      cases h
      refine ⟨fun x hx => .inl hx, fun x hx => List.mem_of_mem_drop hx, by omega, by rw [List.length_drop]; omega⟩
    · rw [par_miss (Bool.eq_false_iff.mpr hp)] at h
      obtain ⟨h1, h2, h3, h4⟩ := par_sub h
      refine ⟨fun x hx => ?_, fun x hx => List.mem_cons_of_mem _ (h2 x hx), ?_, ?_⟩
      · rcases h1 x hx with z | z
        · rcases List.mem_append.mp z with z | z
          · exact .inl z
          · rw [List.mem_singleton.mp z]; exact .inr (by simp)
        · exact .inr (by simp [z])
      · simp only [List.length_append, List.length_cons, List.length_nil] at h3 ⊢; omega
      · simp only [List.length_cons]; omega
theorem ok_cut_address (D : DefAt K mg "cut_address" sCut) (GL : Glb K w mg) (F_is_host : FnAt P w K mg base CX0 "is_host" ["text"] [] 1 spIsHost) (F_is_gate : FnAt P w K mg base CX0 "is_gate" ["text"] [] 1 spIsGate) (F_is_written : FnAt P w K mg base CX0 "is_written" ["text"] [] 1 spIsWritten) : FnAt P w K mg base CX0 "cut_address" ["text"] [] 2 spCut := by
  refine D.ok scCut (fun _ _ _ _ _ _ us hl => match us, hl with | [_], _ => rfl) (fun vs H Q E h => ?_) (fun f cdv A outer s H vs Q E hr h => ?_)
  · obtain ⟨x, rfl, _⟩ := h
    rfl
  · obtain ⟨x, rfl, hx, okx, kn, ks⟩ := h
    refine ⟨_, (pss_cons (ps_asg (pe_partition (pv 0) pe_str) (pg_tup rfl (pgs_cons (pg_name (i := 1) scCut.nd rfl (Or.inl rfl)) (pgs_cons (pg_name (i := 2) scCut.nd rfl (Or.inl rfl)) (pgs_cons (pg_name (i := 3) scCut.nd rfl (Or.inl rfl)) pgs_nil)))))
      (pss_cons (ps_if (PW.pt (pw_or (pt_cmpR op_eq (pv 2) pe_str (nomark _)) (pw_or1 (pt_cmpR (op_notIn_kd GL.kdGATES) (pe_lower (pv 1)) (pe_globR rfl GL.GATES) (by rfl))))) (pss_one (ps_ret pe_non)) pss_nil)
      (pss_cons (ps_asg (pe_partition (pe_ix ix_tup (pe_partition (pv 3) pe_str) pe_int (fun _ _ => rfl)) pe_str) (pg_tup rfl (pgs_cons (pg_name (i := 4) scCut.nd rfl (Or.inl rfl)) (pgs_cons (pg_name (i := 5) scCut.nd rfl (Or.inl rfl)) (pgs_cons (pg_name (i := 6) scCut.nd rfl (Or.inl rfl)) pgs_nil)))))
      (pss_cons (ps_asg (pe_partition (pv 4) pe_str) (pg_tup rfl (pgs_cons (pg_name (i := 7) scCut.nd rfl (Or.inl rfl)) (pgs_cons (pg_name (i := 8) scCut.nd rfl (Or.inl rfl)) (pgs_cons (pg_name (i := 9) scCut.nd rfl (Or.inl rfl)) pgs_nil)))))
      (pss_cons (ps_asg (pe_partition (pv 7) pe_str) (pg_tup rfl (pgs_cons (pg_name (i := 10) scCut.nd rfl (Or.inl rfl)) (pgs_cons (pg_name (i := 11) scCut.nd rfl (Or.inl rfl)) (pgs_cons (pg_name (i := 12) scCut.nd rfl (Or.inl rfl)) pgs_nil)))))
      (C8.pss_cut (ps_if (PW.pt (pw_or (pt_not (pt_val (pe_cf F_is_host (hr.mono (by decide)) pass0 (pa_cons (pv 10) pa_nil)))) (pw_or1 (PW.pt (pw_and (pt_cmpR op_ne (pv 11) pe_str (nomark _)) (pw_and1 (pt_not (pt_val (pe_cf F_is_gate (hr.mono (by decide)) pass0 (pa_cons (pv 12) pa_nil)))))))))) (pss_one (ps_ret pe_non)) pss_nil)
      (pss_cons (ps_if (PW.pt (pw_or (pt_not (pt_val (pe_cf F_is_written (hr.mono (by decide)) pass0 (pa_cons (pv 9) pa_nil)))) (pw_or1 (pt_not (pt_val (pe_cf F_is_written (hr.mono (by decide)) pass0 (pa_cons (pv 6) pa_nil))))))) (pss_one (ps_ret pe_non)) pss_nil)
      (pss_one (ps_ret (pe_tup (pa_cons (pe_lower (pv 1)) (pa_cons (pe_lower (pv 10)) (pa_cons (pv 12) (pa_cons (pv 9) (pa_cons (pv 6) pa_nil))))))))))))))), ?_⟩
    have hl := len_tl x
    have t3 : tl (Str.ofString "://") = [58, 47, 47] := by decide +kernel
    refine ⟨_, rfl, ⟨_, rfl⟩, x, _, rfl, rfl, by decide +kernel, (by rw [sizeLine_eq]; omega), fun p1 hp1 => ?_⟩
    refine ⟨p1, _, rfl, SqT.of upd_same, rfl, _, _, rfl, _, _, rfl, _, _, rfl, rfl, ?_⟩
    have pp := partition_par x "://" (by rw [t3]; simp)
    rw [t3] at pp
    generalize Txt.partition x "://" = tp at pp
    obtain ⟨z1, z2, z3⟩ := tp
    have s1 := Same.new (o := HO.tup [V.str z1, V.str z2, V.str z3]) (Same.refl H) hp1
    refine ⟨_, rfl, rfl, _, rfl, ?_⟩
    rw [str_is z2 "" [] (by decide +kernel)]
    cases ec : par [58, 47, 47] [] (tl x) with
    | none =>
      rw [ec] at pp
      have e2 : z2 = Str.empty := congrArg (fun t => t.2.1) pp
      subst e2
      refine iteT (iteT (kn ?_ _ s1))
      unfold cutL
      rw [ec]
    | some kr =>
      obtain ⟨kk, rest⟩ := kr
      rw [ec] at pp
      have e1 : tl z1 = kk := by rw [show z1 = ⟨kk.toArray⟩ from congrArg (fun t => t.1) pp]
      have e2 : tl z2 = [58, 47, 47] := by rw [show z2 = Str.ofString "://" from congrArg (fun t => t.2.1) pp, t3]
      have e3 : tl z3 = rest := by rw [show z3 = ⟨rest.toArray⟩ from congrArg (fun t => t.2.2) pp]
      obtain ⟨su1, su2, su3, su4⟩ := par_sub ec
      have ok1 : ∀ c ∈ tl z1, c < 128 := fun c hc => by
        rw [e1] at hc
        rcases su1 c hc with z | z
        · cases z
        · exact okx c z
      have ok3 : ∀ c ∈ rest, c < 128 := fun c hc => okx c (su2 c hc)
      have l1 := len_tl z1
      rw [e1] at l1
      have l3 := len_tl z3
      rw [e3] at l3
      simp only [List.length_nil] at su3
      rw [e2]
      refine iteF ⟨_, rfl, ⟨_, rfl⟩, z1, rfl, rfl, by omega, ?_⟩
      have lz := low_tl z1 ok1
      rw [e1] at lz
      have lzl := len_tl (Txt.lower z1)
      have hcut : cutL (tl x) = (if low kk = leafT ∨ low kk = sealT then (if okL (cutR rest).1 (cutR rest).2.1 (cutR rest).2.2.1 (cutR rest).2.2.2 = true then some ⟨low kk, low (cutR rest).1, (cutR rest).2.1.drop 1, (cutR rest).2.2.1, (cutR rest).2.2.2⟩ else none) else none) := by
        unfold cutL
        rw [ec]
      by_cases hk : low kk = leafT ∨ low kk = sealT
      · rw [if_pos hk] at hcut
        have hg : ∃ r : Option Value, PySem.W.nsIn K GL.aG (Txt.lower z1) = some r ∧ r.isSome = true := by
          rcases hk with h | h
          · have e : Txt.lower z1 = "leaf" := ext_tl (by rw [lz, h]; decide +kernel)
            obtain ⟨t, q⟩ := GL.g_leaf
            exact ⟨_, by rw [e]; exact q, rfl⟩
          · have e : Txt.lower z1 = "seal" := ext_tl (by rw [lz, h]; decide +kernel)
            obtain ⟨t, q⟩ := GL.g_seal
            exact ⟨_, by rw [e]; exact q, rfl⟩
        obtain ⟨rr, hrr, hs⟩ := hg
        refine ⟨_, rr, rfl, rfl, hrr, _, rfl, ?_⟩
        rw [hs]
        refine iteF ?_
        have lk : ∀ {a b : Str} {d : Nat}, (∃ t : Tx, tl a = bef d t ∧ t.length ≤ b.length) → a.length ≤ b.length := fun {a b d} ⟨t, e, h⟩ => by rw [len_tl a, e]; exact Nat.le_trans (bef_len d t) h
        have hd : (Str.ofString "#").length = 1 := by decide +kernel
        refine ⟨_, rfl, ⟨_, rfl⟩, z3, _, rfl, rfl, by decide +kernel, (by rw [sizeLine_eq]; omega), fun p2 hp2 => ?_⟩
        have a1 := part1 z3 (y := "#") (d := 35) (by decide +kernel)
        generalize Txt.partition z3 "#" = tp2 at a1
        obtain ⟨y1, y2, y3⟩ := tp2
        rw [e3] at a1
        have b1 : tl y1 = bef 35 rest := a1.1
        have ly1 := len_tl y1
        rw [b1] at ly1
        have lb1 := bef_len 35 rest
        have s2 := Same.new (o := HO.tup [V.str y1, V.str y2, V.str y3]) s1 hp2
        refine ⟨p2, _, 0, _, rfl, rfl, SqT.of upd_same, atI_nat (j := 0) rfl, ?_⟩
        refine ⟨⟨_, rfl⟩, y1, _, rfl, rfl, by decide +kernel, (by rw [sizeLine_eq]; omega), fun p3 hp3 => ?_⟩
        refine ⟨p3, _, rfl, SqT.of upd_same, rfl, _, _, rfl, _, _, rfl, _, _, rfl, rfl, ?_⟩
        have a2 := part1 y1 (y := "?") (d := 63) (by decide +kernel)
        generalize Txt.partition y1 "?" = tp3 at a2
        obtain ⟨x1, x2, x3⟩ := tp3
        rw [b1] at a2
        obtain ⟨a21, _, a23⟩ := a2
        have s3 := Same.new (o := HO.tup [V.str x1, V.str x2, V.str x3]) s2 hp3
        have lx1 := len_tl x1
        rw [a21] at lx1
        have lb2 := bef_len 63 (bef 35 rest)
        have lx3 := len_tl x3
        rw [a23] at lx3
        have lb3 := aft_len 63 (bef 35 rest)
        refine ⟨_, rfl, ⟨_, rfl⟩, x1, _, rfl, rfl, by decide +kernel, (by rw [sizeLine_eq]; omega), fun p4 hp4 => ?_⟩
        refine ⟨p4, _, rfl, SqT.of upd_same, rfl, _, _, rfl, _, _, rfl, _, _, rfl, rfl, ?_⟩
        have a3 := part1 x1 (y := "/") (d := 47) (by decide +kernel)
        generalize Txt.partition x1 "/" = tp4 at a3
        obtain ⟨w1, w2, w3⟩ := tp4
        rw [a21] at a3
        obtain ⟨a31, _, a33⟩ := a3
        have s4 := Same.new (o := HO.tup [V.str w1, V.str w2, V.str w3]) s3 hp4
        have lw1 := len_tl w1
        rw [a31] at lw1
        have lb4 := bef_len 47 (bef 63 (bef 35 rest))
        have lw3 := len_tl w3
        rw [a33] at lw3
        have lb5 := aft_len 47 (bef 63 (bef 35 rest))
        refine ⟨_, rfl, ⟨_, rfl⟩, w1, _, rfl, rfl, by decide +kernel, (by rw [sizeLine_eq]; omega), fun p5 hp5 => ?_⟩
        refine ⟨p5, _, rfl, SqT.of upd_same, rfl, _, _, rfl, _, _, rfl, _, _, rfl, rfl, ?_⟩
        have a4 := part1 w1 (y := ":") (d := 58) (by decide +kernel)
        generalize Txt.partition w1 ":" = tp5 at a4
        obtain ⟨h1, h2, h3⟩ := tp5
        rw [a31] at a4
        obtain ⟨a41, a42, a43⟩ := a4
        have s5 := Same.new (o := HO.tup [V.str h1, V.str h2, V.str h3]) s4 hp5
        have lh1 := len_tl h1
        rw [a41] at lh1
        have lb6 := bef_len 58 (bef 47 (bef 63 (bef 35 rest)))
        have lh3 := len_tl h3
        rw [a43] at lh3
        have lb7 := aft_len 58 (bef 47 (bef 63 (bef 35 rest)))
        refine ⟨fun σ H' => σ = [some (.str x), some (.str z1), some (.str z2), some (.str z3), some (.str x1), some (.str x2), some (.str x3), some (.str w1), some (.str w2), some (.str w3), some (.str h1), some (.str h2), some (.str h3)] ∧ Same H H' ∧ isHostL (bef 58 (bef 47 (bef 63 (bef 35 rest)))) = true ∧ (58 ∈ bef 47 (bef 63 (bef 35 rest)) → isGateL (aft 58 (bef 47 (bef 63 (bef 35 rest)))) = true), ?_, ?_⟩
        rotate_left
        · rintro σ H6 ⟨rfl, s6, gh, gg⟩
          refine ⟨_, rfl, w3, rfl, by omega, fun H7 s7 => ?_⟩
          have s7 := s6.trans s7
          rw [a33]
          refine ⟨_, rfl, ?_⟩
          have hok : cutR rest = (bef 58 (bef 47 (bef 63 (bef 35 rest))), fro 58 (bef 47 (bef 63 (bef 35 rest))), aft 47 (bef 63 (bef 35 rest)), aft 63 (bef 35 rest)) := rfl
          rw [hok] at hcut
          simp only at hcut
          have fm := fro_mem 58 (bef 47 (bef 63 (bef 35 rest)))
          rw [show (fro 58 (bef 47 (bef 63 (bef 35 rest)))).drop 1 = aft 58 (bef 47 (bef 63 (bef 35 rest))) from rfl] at hcut
          have okk : okL (bef 58 (bef 47 (bef 63 (bef 35 rest)))) (fro 58 (bef 47 (bef 63 (bef 35 rest)))) (aft 47 (bef 63 (bef 35 rest))) (aft 63 (bef 35 rest)) = (isW (aft 47 (bef 63 (bef 35 rest))) && isW (aft 63 (bef 35 rest))) := by
            unfold okL
            rw [gh, fm, show (fro 58 (bef 47 (bef 63 (bef 35 rest)))).drop 1 = aft 58 (bef 47 (bef 63 (bef 35 rest))) from rfl]
            by_cases q : 58 ∈ bef 47 (bef 63 (bef 35 rest))
            · rw [gg q]; simp
            · rw [decide_eq_false q]; simp
          rw [okk] at hcut
          cases ew : isW (aft 47 (bef 63 (bef 35 rest))) with
          | false =>
            rw [ew] at hcut
            exact iteT (iteT (kn hcut _ s7))
          | true =>
            rw [ew] at hcut
            refine iteF ?_
            refine ⟨_, rfl, x3, rfl, by omega, fun H8 s8 => ?_⟩
            have s8 := s7.trans s8
            rw [a23]
            refine ⟨_, rfl, ?_⟩
            cases ea : isW (aft 63 (bef 35 rest)) with
            | false =>
              rw [ea] at hcut
              refine iteT ?_
              exact kn hcut _ s8
            | true =>
              rw [ea] at hcut
              refine iteF ⟨_, rfl, ⟨_, rfl⟩, z1, rfl, rfl, by omega, _, rfl, ⟨_, rfl⟩, h1, rfl, rfl, by omega, _, rfl, _, rfl, _, rfl, (show 5 ≤ sizeLine by decide), fun p hp => ?_⟩
              have oklo : ∀ c ∈ tl h1, c < 128 := fun c hc => by
                rw [a41] at hc
                exact ok3 c (bef_sub (bef_sub (bef_sub (bef_sub hc))))
              refine ks _ hcut p _ (Same.new s8 hp) ⟨_, _, _, _, _, upd_same, lz, ?_, a43, a33, a23⟩
              rw [low_tl h1 oklo, a41]
        refine ⟨_, rfl, h1, rfl, by omega, fun H6 s6 => ?_⟩
        have s6 := s5.trans s6
        rw [a41]
        have hok : cutR rest = (bef 58 (bef 47 (bef 63 (bef 35 rest))), fro 58 (bef 47 (bef 63 (bef 35 rest))), aft 47 (bef 63 (bef 35 rest)), aft 63 (bef 35 rest)) := rfl
        rw [hok] at hcut
        simp only at hcut
        have fm := fro_mem 58 (bef 47 (bef 63 (bef 35 rest)))
        rw [show (fro 58 (bef 47 (bef 63 (bef 35 rest)))).drop 1 = aft 58 (bef 47 (bef 63 (bef 35 rest))) from rfl] at hcut
        generalize eL : bef 47 (bef 63 (bef 35 rest)) = pl at *
        refine ⟨_, rfl, ?_⟩
        cases eh : isHostL (bef 58 pl) with
        | false =>
          refine iteT (iteT (kn ?_ _ s6))
          rw [hcut, if_neg]
          unfold okL
          rw [eh]
          simp
        | true =>
          refine iteF ?_
          refine ⟨_, rfl, rfl, _, rfl, ?_⟩
          rw [str_is _ "" [] (by decide +kernel), a42]
          by_cases q58 : 58 ∈ pl
          · rw [if_pos q58]
            refine iteT ⟨_, rfl, h3, rfl, by omega, fun H7 s7 => ?_⟩
            have s7 := s6.trans s7
            rw [a43]
            refine ⟨_, rfl, ?_⟩
            cases eg : isGateL (aft 58 pl) with
            | false =>
              refine iteT ?_
              refine kn ?_ _ s7
              rw [hcut, if_neg]
              unfold okL
              rw [show (fro 58 pl).drop 1 = aft 58 pl from rfl, eg, fm, decide_eq_true q58]
              simp
            | true =>
              refine iteF ?_
              exact ⟨rfl, s7, rfl, fun _ => rfl⟩
          · rw [if_neg q58]
            refine iteF ?_
            exact ⟨rfl, s6, rfl, fun z => absurd z q58⟩
      · rw [if_neg hk] at hcut
        refine ⟨_, none, rfl, rfl, GL.g_none _ ?_ ?_, _, rfl, iteT (kn hcut _ s1)⟩
        · intro e
          refine hk (.inl ?_)
          rw [← lz, e]; decide +kernel
        · intro e
          refine hk (.inr ?_)
          rw [← lz, e]; decide +kernel
end Kp
namespace Kp
open PySem PySem.Spec PyProof.Rows L2 TL
/-! rules for own classes that the hand layer lacks -/
/-- KeptError.__init__(self, ..), KeptError an own class without __init__ over ValueError -/
structure BaseInit (K : PySem.W.Frag) (C : Addr) : Prop where
  rd : PySem.W.readsIn K C (.type "type") = true
  ga : PySem.W.specialIn K (.ref C) "__getattribute__" = some (some (.builtin "type.__getattribute__"))
  at_ : PySem.W.findCls K (.ref C) (.type "type") "__init__" = some (.val (.builtin "ValueError.__init__"))
section
variable {X : Cx} {e : Expr} {es : List Expr} {ta : TA} {p1 p2 pos : Pos} {x : Str} {B : Addr}
theorem pe_keinit {pl : Sem Bool} (hg : Gl X x) (hm : X.mg x = some (.ref B)) (vV : BaseInit X.K B) (ha : PA X (e :: es) ta) (hdb : (x == ("__debug__" : Str)) = false := by decide)
    (hc : eval (.Call (.Attribute (.Name x p1) "__init__" p2) (e :: es) [] pos) X.env = (do
      let ov ← eval (.Name x p1) X.env
      standAt p2.atName
      let (f, first) ← holding [ov] (getMethod ov "__init__" pl)
      callWith pos f first (backTo pos (starEach (e :: es) X.env)) (backToKw pos (keywordEach [] X.env))) := by rfl)
    (he : starEach (e :: es) X.env = (false, eval e X.env) :: starEach es X.env := by rfl) (hpl : (backTo pos (starEach es X.env)).any (·.1) = false := by rfl) :
    PE X (.Call (.Attribute (.Name x p1) "__init__" p2) (e :: es) [] pos) (tVeI X.K ta) := by
  refine ⟨fun pins s σ H Q I h => ?_⟩
  refine PySem.W.methodCall_KW (ld_glob I hg hm ?_ hdb) hc
  refine PySem.W.method_cls I.kIn vV.ga (PySem.W.cls_value I.kIn vV.rd vV.at_ rfl ?_)
  show wpAny _ _ (callWith pos (Value.builtin "ValueError.__init__") [] (backTo pos (starEach (e :: es) X.env)) []) _ _ _
  refine PyProof.Rows.callWith_method1 (thn (ha.run pos pins _ σ H _ (I.tok _) h) fun us s1 ⟨vs, H1, I1, r1, a, C, ws, ev, hl, T, ea, q⟩ => ?_) he hpl
  subst ev
  cases r1 with
  | @cons _ u0 _ ur ra rw' =>
    obtain rfl : u0 = Value.ref a := ra
    have hlen : ur.length ≤ sizeLine := by
      rw [← Paired.length rw', sizeLine_eq]
      omega
    exact oinit_ok T I1 ea hlen fun s' J => ⟨.non, H1, J, rfl, q⟩
end
/-! a method of an own class, found by its special name -/
structure MethAt (P : Program) (w : World) (K : PySem.W.Frag) (mg : Str → Option Value) (base : Heap) (C : Addr) (m : Str) (ps : List Str) (k : Nat) (sp : Sp) : Prop where
  ex : ∃ f fd, PySem.W.findIn K (.ref C) m = some (some (.ref f)) ∧ PySem.W.isFn K (.ref f) = true ∧ Binds K fd ps [] ∧ FnOk P w K mg base CX0 k f fd ps sp
section
variable {X : Cx} {C : Addr} {m : Str} {ps : List Str} {k : Nat} {sp : Sp}
theorem run_meth {pins : List (Addr × Obj)} {σ : L2.St} {H : Hp} {s : Shared} {A : Around} {f : Addr} {fd : FuncData} {us : List Value} {vs : List V} {Q : VK} {R : Value → Shared → Prop} (F : FnOk X.prog X.w X.K X.mg X.base CX0 k f fd ps sp) (hb : Binds X.K fd ps [])
    (hr : Room k A) (hf : A.frames = X.A.frames) (I : Inv X pins σ H s) (r : Vals vs us) (h : sp vs H Q E0) (hR : ∀ u s' v H', Inv X pins σ H' s' → RelV v u → Q v H' → R u s') : wpAny (model X.prog X.w) A (call (.ref f) us) R X.xe s := by
  have e := I.env0
  have e0 : Env0 X.prog X.w X.K X.mg X.base A X.stack s H := ⟨by rw [hf]; exact e.frames, e.mod, e.bs, e.bsz, e.funs, e.frf, e.hok, e.bare⟩
  have hl := F.len _ _ _ _ h
  have hb' := hb s us I.kIn (by rw [List.append_nil, ← r.length]; exact hl)
  rw [List.append_nil] at hb'
  refine wpAny_call (codeAny_mono (F.run A X.stack s H ⟨us, []⟩ us vs Q E0 hr e0 hb' r h) fun r s' hq => ?_)
  cases r with
  | error e => exact hq.elim
  | ok fl =>
    cases fl with
    | ret w =>
      obtain ⟨z, H', I', rz, q⟩ := I.after hq
      exact hR _ _ _ _ I' rz q
    | next => exact False.elim hq
    | brk => exact False.elim hq
    | cont => exact False.elim hq
/-- str(o), o's class with its own __str__ -/
def rStrOwn (C : Addr) (sp : Sp) : List V → Hp → VK → Prop := fun xs H Q => ∃ a dx fs, xs = [.ref a] ∧ H a = some (.ins C dx fs) ∧ sp [.ref a] H (fun v H' => ∃ y, v = .str y ∧ Q (.str y) H') E0
theorem call_str_own (M : MethAt X.prog X.w X.K X.mg X.base C "__str__" ps k sp) (hr : Room (k + 2) X.A) : CallR X (.type "str") (rStrOwn C sp) := by
  intro pins s σ H xs us Q I r h
  obtain ⟨a, dx, fs, rfl, ha, h⟩ := h
  obtain ⟨f, fd, hs, hf, hb, F⟩ := M.ex
  obtain rfl := Vals.ref1 r
  obtain ⟨mA, J, _⟩ := ins_get I.hok ha
  obtain ⟨od, J, _⟩ := J.look
  have hr1 : Room (k + 1) X.A.in1 := hr.in1
  have hr2 : Room k X.A.in1.in1 := hr1.in1
  refine PySem.W.kso_call hr2.units0 I.kIn J hs hf (run_meth (vs := [.ref a]) F hb hr2 rfl I (.cons (show L2.RelV (.ref a) _ from rfl) .nil) h fun u s' v H' I' rv q => ?_)
  obtain ⟨y, rfl, q⟩ := q
  obtain ⟨t, rfl⟩ := rv
  exact ⟨.str y, H', I', ⟨_, rfl⟩, q⟩
/-- x == y by the own __eq__, either answer -/
def rEqOwn (C : Addr) (sp : Sp) : R2 := fun x y H Q => ∃ a b dx dy fs gs, x = .ref a ∧ y = .ref b ∧ H a = some (.ins C dx fs) ∧ H b = some (.ins C dy gs) ∧ sp [.ref a, .ref b] H (fun v H' => ∃ c, v = .bl c ∧ Q (.bl c) H') E0
theorem op_eqOwn (M : MethAt X.prog X.w X.K X.mg X.base C "__eq__" ps k sp) (hr : Room k X.A) : OpR X (compareOp .Eq) (rEqOwn C sp) := by
  intro pins s σ H x y u v Q I rx ry h
  obtain ⟨a, b, dx, dy, fs, gs, rfl, rfl, ha, hb', h⟩ := h
  obtain ⟨f, fd, hs, hf, hb, F⟩ := M.ex
  cases rx
  cases ry
  obtain ⟨mA, J, _⟩ := ins_get I.hok ha
  obtain ⟨mB, J', _⟩ := ins_get I.hok hb'
  obtain ⟨od, J, _⟩ := J.look
  obtain ⟨od', J', _⟩ := J'.look
  obtain ⟨m, hF⟩ := I.fr
  show wpAny (model X.prog X.w) X.A (richCompare .Eq (.ref a) (.ref b)) (EP X pins σ Q) X.xe s
  refine PySem.W.cmp_K (op := .Eq) (tb := .ref C) hr.units0 hF I.ok.mod.kin J J'.type (by simp [PySem.W.notFirst]) hs hf ?_
  refine run_meth (vs := [.ref a, .ref b]) F hb hr rfl I (.cons (show L2.RelV (.ref a) _ from rfl) (.cons (show L2.RelV (.ref b) _ from rfl) .nil)) h fun u s' v H' I' rv q => ?_
  obtain ⟨c, rfl, q⟩ := q
  cases rv
  exact ⟨.bl c, H', I', rfl, q⟩
end
/-! list.extend(tuple) -/
section
open AutoSeq1 MeetsSeq MeetsSeq2 MeetsSeq3 SeqRoads2
theorem extend_tup (l : Addr) (items : Array Value) (n : Nat) (b : Addr) (items2 : Array Value) (n2 : Nat) (dd : Option Addr) (sl : Array (Option Value)) (hs0 : ¬(!items.isEmpty && Builtin.List.listTooLong (items.size + items2.size)) = true) (hs1 : items.size ≤ sizeLine) (hs2 : items.size + items2.size ≤ sizeLine + 1) :
    Meets (Builtin.«list.extend» ⟨[.ref l, .ref b], []⟩) (fun _ R s => s.heap.get? l = some { cls := .type "list", dict := none, data := .seq items n, slots := #[] } ∧ s.heap.get? b = some { cls := .type "tuple", dict := dd, data := .seq items2 n2, slots := sl } ∧ R (.ok (.ret Value.none)) { s with heap := s.heap.update l (Obj.mapSeq fun x => x ++ items2), toks := s.toks }) :=
  .of_wp fun prog w A R s h => by
    obtain ⟨hp, g, d, tk, os⟩ := s; obtain ⟨hl, hb, h⟩ := h; have f1 := AutoSeq1.idx_int; have f2 := AutoSeq1.sub_tuple_tuple; have f3 := AutoSeq1.sub_list_list; have f4 := AutoSeq1.sub_tuple_list; have f5 := AutoSeq1.sub_list_tuple;
    have hz' : (items ++ items2).size ≤ sizeLine + 1 := by rw [Array.size_append]; exact hs2
    wp_walk using (wpAny_updateSeq hl rfl (hz := hs1) (_hz' := hz')), wpAny_loadPart' hl, wpAny_loadPart' hb; exact ⟨_, rfl, h⟩
end
def rExtendT (K : PySem.W.Frag) : V → List V → Hp → VK → Prop := fun x vs H Q => ∃ l b xs zs, x = .ref l ∧ vs = [.ref b] ∧ H l = some (.lst xs) ∧ SqT K H b zs ∧ xs.length + zs.length ≤ sizeLine ∧ Q .non (upd H l (.lst (xs ++ zs)))
theorem mt_extendT {X : Cx} : MtR X "list.extend" (rExtendT X.K) := by
  intro pins s σ H x vs v us Q I rx rv h
  obtain ⟨l, b, xs, zs, rfl, rfl, hH, hB, hz, q⟩ := h
  cases rx
  obtain ⟨u, rfl, ru⟩ := rv.one
  cases ru
  obtain ⟨z, its, n, r, hl, e⟩ := I.lstM hH
  obtain ⟨its2, r2, e2, z2⟩ := I.tuple hB
  obtain ⟨⟨cls2, dd2, data2, sl2⟩, ho2, hc2, n2, hd2⟩ := e2
  simp only at hc2 hd2
  subst hc2 hd2
  have hl2 := r2.length
  have hsz : its.toArray.size + its2.toArray.size ≤ sizeLine := by rw [List.size_toArray, List.size_toArray]; omega
  have hlong : ¬ (!its.toArray.isEmpty && Builtin.List.listTooLong (its.toArray.size + its2.toArray.size)) = true := by
    rw [notLongL hsz, Bool.and_false]
    exact Bool.false_ne_true
  refine call_meets F.slot_list_extend ⟨_, e, rfl⟩ F.entry_list_extend (F.args_list_extend_2 _ _)
    (extend_tup l its.toArray n b its2.toArray n2 dd2 sl2 hlong (by rw [List.size_toArray]; omega) (by omega)) ⟨e, ho2, ?_⟩
  refine ⟨.non, _, I.lset (its' := its ++ its2) hH e (by simp) (r.append r2) ?_, rfl, q⟩
  rw [List.length_append]
  omega
/-! C(..), C's own __init__ may raise -/
structure MkAt (P : Program) (w : World) (K : PySem.W.Frag) (mg : Str → Option Value) (base : Heap) (CX : CXT) (x : Str) (C : Addr) (ps : List Str) (dvs : List V) (k : Nat) (sp : Sp) : Prop where
  ex : ∃ f fd ds, mg x = some (.ref C) ∧ Mk K C f ∧ Binds K fd ps ds ∧ Vals dvs ds ∧ FnOk P w K mg base CX k f fd ps sp
theorem pe_mkA {X : Cx} {CX : CXT} {k : Nat} {C : Addr} {ps : List Str} {sp : Sp} {dvs : List V} {E : XK} {x : Str} {p pos : Pos} {e : Expr} {es : List Expr} {t : TA} (M : MkAt X.prog X.w X.K X.mg X.base CX x C ps dvs k sp) (hr : Room (k + 1) X.A) (hx : Passes CX X E)
    (ha : PA X (e :: es) t) (hg : Gl X x := by rfl) (hdb : (x == ("__debug__" : Str)) = false := by decide) (he : starEach (e :: es) X.env = (false, eval e X.env) :: starEach es X.env := by rfl) (hpl : (backTo pos (starEach es X.env)).any (·.1) = false := by rfl) :
    PE X (.Call (.Name x p) (e :: es) [] pos) (tMake C sp dvs E t) := by
  obtain ⟨f, fd, ds, hm, m, hb, hd, F⟩ := M.ex
  exact pe_make m F hr hg hm hb hd hx ha hdb he hpl
end Kp
namespace Kp
open PySem PySem.Spec PyProof.Rows L2 TL
variable {P : Program} {w : World} {K : PySem.W.Frag} {mg : Str → Option Value} {base : Heap}
/-! ### methods -/
structure MDef (K : PySem.W.Frag) (C : Addr) (m qual : Str) (st : Stmt) : Prop where
  ex : ∃ f fd, PySem.W.findIn K (.ref C) m = some (some (.ref f)) ∧ PySem.W.isFn K (.ref f) = true ∧ Fun K m qual st f fd
theorem MDef.ok {C : Addr} {m qual : Str} {st : Stmt} {N ps : List Str} {k : Nat} {sp : Sp} (D : MDef K C m qual st) (S : FnScope N ps (defScope st))
    (hb : ∀ (kV doc pm : Value) (an : Option Addr) (cdv ct : Value) (us : List Value), us.length = ps.length → bindArgs (PySem.W.fnOf m qual (defArgs st) (defBody st) (defScope st) .none kV doc pm an cdv ct) ⟨us, []⟩ = pure (ps.zip us))
    (len : ∀ vs H Q E, sp vs H Q E → vs.length = ps.length)
    (hbody : ∀ (f : Addr) (cdv : Value) (A : Around) (outer : List Env) (s : Shared) (H : Hp) (vs : List V) (Q : VK) (E : XK), Room k (A.deeper (envOfC qual (defScope st) s.heap.objs.size f cdv)) → sp vs H Q E →
      ∃ t, PSs (cxOf CX0 P w K mg base N qual (defScope st) f cdv A outer s H E).nox (defBody st) t ∧ t { nx := fun _ H' => Q .non H', rt := Q } (start N vs) H) : MethAt P w K mg base C m ps (k + 1) sp := by
  obtain ⟨f, fd, hs, hf, F⟩ := D.ex
  exact ⟨f, fd, hs, hf, F.binds hb, F.ok S len (hbody f)⟩
/-! ### NoAddress -/
structure NaC (K : PySem.W.Frag) (mg : Str → Option Value) (N B : Addr) : Prop where
  gN : mg "NoAddress" = some (.ref N)
  gB : mg "KeptError" = some (.ref B)
  bi : BaseInit K B
  ox : OexC K N
  noT : PySem.W.findIn K (.ref N) "text" = some none
  ini : MDef K N "__init__" "NoAddress.__init__" (inClass (top 2) 0)
abbrev sNAI : Stmt := inClass (top 2) 0
abbrev NNAI : List Str := ["self", "text"]
theorem scNAI : FnScope NNAI ["self", "text"] (defScope sNAI) := ⟨rfl, rfl, rfl, by decide +kernel, rfl, by decide +kernel, by decide +kernel⟩
def spNAI (N : Addr) : Sp := fun vs H Q _ => ∃ (a : Addr) (y : V), vs = [.ref a, y] ∧ H a = some (exo a N none) ∧ ∀ dx, H dx = none → dx ≠ a → Q .non (upd (upd H dx (exd dx [(("text" : Str), y)])) a (exo a N (some dx)))
theorem ok_na_init {N B : Addr} (T : NaC K mg N B) : MethAt P w K mg base N "__init__" ["self", "text"] 1 (spNAI N) := by
  refine T.ini.ok scNAI (fun _ _ _ _ _ _ us hl => match us, hl with | [_, _], _ => rfl) (fun vs H Q E h => ?_) (fun f cdv A outer s H vs Q E hr h => ?_)
  · obtain ⟨a, y, rfl, _⟩ := h
    rfl
  · obtain ⟨a, y, rfl, ha, k⟩ := h
    refine ⟨_, (pss_cons (ps_expr (pe_keinit rfl T.gB T.bi (pa_cons (pv 0) (pa_cons pe_str pa_nil)))) (pss_one (ps_ost (pv 0) (pv 1)))), ?_⟩
    refine ⟨_, rfl, a, N, _, rfl, by decide, T.ox, ha, ?_⟩
    exact ⟨_, rfl, _, rfl, a, N, rfl, T.ox, T.noT, .inl ⟨ha, k⟩⟩
/-! ### lengths -/
theorem hostL_sum : ∀ l : List Tx, sumL (hostL l) + (hostL l).length ≤ sumL l + l.length
  | [] => by simp [hostL]
  | [p] => by simp [hostL]
  | [p, q] => by rw [hostL_short (by simp)]; exact Nat.le_refl _
  | p :: q :: r :: rest => by
    by_cases h : p = www
    · subst h
      rw [hostL_www]
      have := hostL_sum (q :: r :: rest)
      rw [sumL_cons www]
      simp only [List.length_cons] at this ⊢
      omega
    · rw [hostL_other h]; exact Nat.le_refl _
theorem par_lens {t : Tx} {k rest : Tx} (h : par [58, 47, 47] [] t = some (k, rest)) : k.length ≤ t.length ∧ rest.length ≤ t.length := by
  obtain ⟨_, _, h3, h4⟩ := par_sub h
  simp only [List.length_nil] at h3
  exact ⟨by omega, h4⟩
structure CutF (t : Tx) (c : Cut) : Prop where
  kind : c.kind = leafT ∨ c.kind = sealT
  gate : c.gate = [] ∨ isGateL c.gate = true
  way : isW c.way = true
  asks : isW c.asks = true
  hl : c.host.length ≤ t.length
  wl : c.way.length ≤ t.length
  al : c.asks.length ≤ t.length
theorem cut_facts {t : Tx} {c : Cut} (h : cutL t = some c) : CutF t c := by
  obtain ⟨k, rest, hp, hk, ho, rfl⟩ := cut_ok h
  unfold okL at ho
  simp only [Bool.and_eq_true, Bool.or_eq_true, decide_eq_true_eq] at ho
  obtain ⟨⟨⟨hh, hg⟩, hw⟩, ha⟩ := ho
  obtain ⟨_, hr⟩ := par_lens hp
  have l1 := bef_len 35 rest
  have l2 := bef_len 63 (bef 35 rest)
  have l3 := bef_len 47 (bef 63 (bef 35 rest))
  have l4 := bef_len 58 (bef 47 (bef 63 (bef 35 rest)))
  have l5 := aft_len 47 (bef 63 (bef 35 rest))
  have l6 := aft_len 63 (bef 35 rest)
  refine ⟨hk, ?_, hw, ha, ?_, ?_, ?_⟩
  · rcases hg with e | e
    · left
      show (cutR rest).2.1.drop 1 = []
      rw [e]; rfl
    · exact .inr e
  · show (low (bef 58 (bef 47 (bef 63 (bef 35 rest))))).length ≤ _
    unfold low
    rw [List.length_map]
    omega
  · show (aft 47 (bef 63 (bef 35 rest))).length ≤ _
    omega
  · show (aft 63 (bef 35 rest)).length ≤ _
    omega
theorem num_len {n : Nat} (h : n < 100000) : (numL n).length ≤ 5 := by
  have := digits_gate h
  unfold isGateL at this
  simp only [Bool.and_eq_true, decide_eq_true_eq] at this
  exact this.1.2
theorem form_len {t : Tx} {v : Pg} (h : valsOf t = some v) : (formL v).length ≤ 5 * t.length + 20 := by
  have wf := vals_wf h
  unfold valsOf at h
  cases e : cutL t with
  | none => rw [e] at h; cases h
  | some c =>
    rw [e] at h
    have e2 : valsC c = v := Option.some.inj h
    have F := cut_facts e
    have hk : v.kind.length = 4 := by rcases wf.kind with e | e <;> rw [e] <;> rfl
    have hg : (gateP v).length ≤ 6 := by
      unfold gateP
      split
      · simp
      · have := num_len wf.gate
        simp only [List.length_cons]
        omega
    have hh : v.host.length ≤ c.host.length + 1 := by
      rw [← e2]
      show (joinC 46 (hostL (splitC 46 c.host))).length ≤ _
      have h1 := joinC_len 46 (hostL (splitC 46 c.host))
      have h2 := hostL_sum (splitC 46 c.host)
      have h3 := splitC_sum 46 c.host
      omega
    have hw : (wayP v.parts).length ≤ 2 * c.way.length + 1 := by
      rw [wayP_len, ← e2]
      show sumL (wayL c.way) + (wayL c.way).length ≤ _
      have := wayL_sum F.way
      omega
    have ha : (askP v.asks).length ≤ 2 * c.asks.length + 2 := by
      unfold askP
      split
      · simp
      · rw [← e2]
        show (63 :: joinC 38 (asksL c.asks)).length ≤ _
        have h1 := joinC_len 38 (asksL c.asks)
        have := asksL_sum F.asks
        simp only [List.length_cons]
        omega
    have h1 := F.hl
    have h2 := F.wl
    have h3 := F.al
    unfold formL
    simp only [List.length_append, List.length_cons]
    omega
/-! ### Address -/
structure AdC (K : PySem.W.Frag) (mg : Str → Option Value) (C : Addr) : Prop where
  gC : mg "Address" = some (.ref C)
  cls : Cls K C
  n1 : NoAttr K C "kind"
  n2 : NoAttr K C "host"
  n3 : NoAttr K C "gate"
  n4 : NoAttr K C "parts"
  n5 : NoAttr K C "asks"
  ha : PySem.W.findIn K (.ref C) "__class__" = some (some (.builtin "object.__class__"))
  hn : PySem.W.specialIn K (.builtin "object.__class__") "__get__" = some (some (.builtin "getset_descriptor.__get__"))
  htk : PySem.W.takesIn K (.builtin "object.__class__") = some true
  hm : PySem.W.mroIn K C (.type "object") = some true
  me : PySem.W.kitOne K (.ref C) (.ref C) = some true
  ini : ∃ f fd, Mk K C f ∧ FunD K "__init__" "Address.__init__" (defArgs (inClass (top 22) 0)) (defBody (inClass (top 22) 0)) (defScope (inClass (top 22) 0)) [.non] [] f fd
  st : MDef K C "__str__" "Address.__str__" (inClass (top 22) 1)
  eq : MDef K C "__eq__" "Address.__eq__" (inClass (top 22) 3)
/-- the object at a is an address with these values -/
def AddrAt (K : PySem.W.Frag) (C : Addr) (H : Hp) (a : Addr) (v : Pg) : Prop := ∃ dx k h pp ap, H a = some (.ins C dx [("kind", .str k), ("host", .str h), ("gate", .int (v.gate : Nat)), ("parts", .ref pp), ("asks", .ref ap)]) ∧ PgAt K H v k h pp ap
theorem AddrAt.same {C : Addr} {H H' : Hp} {a : Addr} {v : Pg} (h : AddrAt K C H a v) (s : Same H H') : AddrAt K C H' a v := by
  obtain ⟨dx, k, h, pp, ap, h1, h2⟩ := h
  exact ⟨dx, k, h, pp, ap, s _ _ h1, PgAt.same s h2⟩
abbrev sAInit : Stmt := inClass (top 22) 0
abbrev NAInit : List Str := ["self", "text", "without", "cut", "kind", "host", "gate", "way", "asks"]
theorem scAInit : FnScope NAInit ["self", "text", "without"] (defScope sAInit) := ⟨rfl, rfl, rfl, by decide +kernel, rfl, by decide +kernel, by decide +kernel⟩
def spAInit (K : PySem.W.Frag) (C N : Addr) : Sp := fun vs H Q E => ∃ (a dx : Addr) (x : Str), vs = [.ref a, .str x, .non] ∧ H a = some (.ins C dx []) ∧ x.length < 19000 ∧ okS x ∧
  (valsOf (tl x) = none → ∀ d H', Kept [a] H H' → H' d = some (.xd [(("text" : Str), .str x)]) → E (.ref N) (some d) H') ∧ (∀ v, valsOf (tl x) = some v → ∀ H', Kept [a] H H' → AddrAt K C H' a v → Q .non H')
theorem ok_a_init {C N B : Addr} (T : AdC K mg C) (TN : NaC K mg N B) (GL : Glb K w mg) (F_cut_address : FnAt P w K mg base CX0 "cut_address" ["text"] [] 2 spCut) (F_told_host : FnAt P w K mg base CX0 "told_host" ["host"] [] 1 spToldHost)
    (F_way_parts : FnAt P w K mg base CX0 "way_parts" ["way"] [] 3 (spWayParts)) (F_ask_parts : FnAt P w K mg base CX0 "ask_parts" ["asks", "without"] [] 3 (spAskParts K)) {f : Addr} {fd : FuncData}
    (F : FunD K "__init__" "Address.__init__" (defArgs (inClass (top 22) 0)) (defBody (inClass (top 22) 0)) (defScope (inClass (top 22) 0)) [.non] [] f fd) : FnOk P w K mg base (L2.CX P w) 4 f fd ["self", "text", "without"] (spAInit K C N) := by
  obtain ⟨fN, fdN, iN, tN, bN, FN⟩ := (ok_na_init (P := P) (w := w) (base := base) TN).ex
  have tN := beq_iff_eq.mp tN
  have gN := TN.gN
  have TNo := TN.ox
  refine F.ok scAInit (fun vs H Q E h => ?_) (fun cdv A outer s H vs Q E hr h => ?_)
  · obtain ⟨a, dx, x, rfl, _⟩ := h
    rfl
  · obtain ⟨a, dx, x, rfl, ha, hx, okx, kn, ks⟩ := h
    refine ⟨_, (pss_cons (ps_set (i := 3) scAInit.nd rfl (Or.inl rfl) (pe_ifExp (pt_val (pe_callB call_isi (by rfl) GL.isinstance (by decide +kernel) (pa_cons (pv 1) (pa_cons (pe_bltn (v := .ty "str") (u := .type "str") rfl GL.str (by rfl) rfl) pa_nil)))) (pe_cf F_cut_address (hr.mono (by decide)) pass0 (pa_cons (pv 1) pa_nil)) pe_non))
      (pss_cons (ps_if (pt_cmpR op_isN (pv 3) pe_non (nomark _)) (pss_one (ps_raise rfl (takes_of rfl rfl rfl rfl) (pmk_oex TNo iN tN FN (hr.mono (by decide)) bN .nil pass0 rfl gN (pa_cons (pv 1) pa_nil)))) pss_nil)
      (pss_cons (ps_asg (pv 3) (pg_tup rfl (pgs_cons (pg_name (i := 4) scAInit.nd rfl (Or.inl rfl)) (pgs_cons (pg_name (i := 5) scAInit.nd rfl (Or.inl rfl)) (pgs_cons (pg_name (i := 6) scAInit.nd rfl (Or.inl rfl)) (pgs_cons (pg_name (i := 7) scAInit.nd rfl (Or.inl rfl)) (pgs_cons (pg_name (i := 8) scAInit.nd rfl (Or.inl rfl)) pgs_nil)))))))
      (pss_cons (ps_fld (pv 0) (pv 4) rfl)
      (pss_cons (ps_fld (pv 0) (pe_cf F_told_host (hr.mono (by decide)) pass0 (pa_cons (pv 5) pa_nil)) rfl)
      (C8.pss_cut (ps_fld (pv 0) (pe_ifExp (pt_cmpR op_eq (pv 6) pe_str (nomark _)) (pe_ix ix_kdict (pe_globR rfl GL.GATES) (pv 4) (fun _ _ => rfl)) (pe_callTy call_int_str (by rfl) GL.int (by decide +kernel) (pa_cons (pv 6) pa_nil))) rfl)
      (pss_cons (ps_fld (pv 0) (pe_cf F_way_parts (hr.mono (by decide)) pass0 (pa_cons (pv 7) pa_nil)) rfl)
      (pss_one (ps_fld (pv 0) (pe_cf F_ask_parts (hr.mono (by decide)) pass0 (pa_cons (pv 8) (pa_cons (pe_orT (pv 2) (pe_one (pe_tup pa_nil))) pa_nil))) rfl))))))))), ?_⟩
    refine ⟨_, rfl, _, _, _, _, true, rfl, .ty "str", .base (.str x), kit_ty (by decide +kernel), ?_⟩
    refine ⟨_, rfl, iteT ⟨_, rfl, x, rfl, by omega, okx, fun hn H1 s1 => ?_, fun c hc p H1 s1 ct => ?_⟩⟩
    · refine ⟨_, rfl, rfl, _, rfl, iteT ⟨_, rfl, (by show 1 ≤ 1000; decide), fun b hb => ⟨b, .str x, rfl, upd_same, fun d hd hne => ⟨rfl, d, [(("text" : Str), .str x)], upd_same, ?_, ?_, ?_⟩⟩⟩⟩
      · rw [upd_ne hne, upd_same]
      · rw [upd_ne hne] at hd
        exact hd
      · refine kn ?_ d _ ?_ upd_same
        · unfold valsOf
          rw [hn]
          rfl
        · intro q o hq ho
          have h1 := s1 _ _ ho
          rw [upd_ne hne] at hd
          have hqd : q ≠ d := ne_of_none h1 hd
          have hqb : q ≠ b := ne_of_none h1 hb
          rw [upd_ne hqd, del_ne hqb, upd_ne hqb, upd_ne hqd, upd_ne hqb]
          exact h1
    · obtain ⟨k, h, g, wy, as, hp, tk, th, tg, tw, ta⟩ := ct
      have Fc := cut_facts hc
      have hl := len_tl x
      have lh := len_tl h
      have lw := len_tl wy
      have la := len_tl as
      have lg := len_tl g
      rw [th] at lh
      rw [tw] at lw
      rw [ta] at la
      rw [tg] at lg
      have f1 := Fc.hl
      have f2 := Fc.wl
      have f3 := Fc.al
      have hk2 : tl k = leafT ∨ tl k = sealT := by rw [tk]; exact Fc.kind
      have hv : valsOf (tl x) = some (valsC c) := by
        unfold valsOf
        rw [hc]
        rfl
      have K1 : Kept [a] H H1 := Kept.same s1
      have ha1 := s1 _ _ ha
      refine ⟨_, rfl, rfl, _, rfl, iteF ?_⟩
      refine ⟨_, rfl, p, _, rfl, SqT.of hp, rfl, _, _, rfl, _, _, rfl, _, _, rfl, _, _, rfl, _, _, rfl, rfl, ?_⟩
      refine ⟨_, rfl, _, rfl, a, C, dx, [], rfl, ha1, T.cls, T.n1, by decide, ?_⟩
      have K2 : Kept [a] H (upd H1 a (.ins C dx (putF (Str.ofString "kind") (.str k) []))) := K1.put (.inl (by simp))
      refine ⟨_, rfl, h, rfl, by omega, fun r H3 s3 er => ⟨_, rfl, a, C, dx, _, rfl, s3 _ _ upd_same, T.cls, T.n2, (by show 1 < 1000; decide), ?_⟩⟩
      have K3 : Kept [a] H (upd H3 a (.ins C dx (putF (Str.ofString "host") (.str r) (putF (Str.ofString "kind") (.str k) [])))) := (K2.trans (Kept.same s3)).put (.inl (by simp))
      refine ⟨fun σ H' => σ = [some (.ref a), some (.str x), some .non, some (.ref p), some (.str k), some (.str h), some (.str g), some (.str wy), some (.str as)] ∧ Kept [a] H H' ∧ H' a = some (.ins C dx [("kind", .str k), ("host", .str r), ("gate", .int ((valsC c).gate : Nat))]), ?_, ?_⟩
      · refine ⟨_, rfl, rfl, _, rfl, ?_⟩
        rw [str_is g "" [] (by decide +kernel), tg]
        have gg : (valsC c).gate = if c.gate = [] then ownG c.kind else NumText.digitsVal c.gate := rfl
        rcases Fc.gate with z | z
        · rw [decide_eq_true z]
          rw [if_pos z, ← tk] at gg
          refine iteT ⟨_, rfl, _, _, _, rfl, rfl, kdct_gate GL hk2, ⟨_, rfl, a, C, dx, _, rfl, upd_same, T.cls, T.n3, (by show 2 < 1000; decide), rfl, K3.put (.inl (by simp)), ?_⟩⟩
          rw [gg]
          exact upd_same
        · have zn : c.gate ≠ [] := fun e => by rw [e] at z; cases z
          rw [decide_eq_false zn]
          rw [if_neg zn, ← tg] at gg
          unfold isGateL at z
          simp only [Bool.and_eq_true, decide_eq_true_eq] at z
          obtain ⟨⟨z1, z2⟩, z3⟩ := z
          have it : intText? g = some ((NumText.digitsVal (tl g) : Nat) : Int) := intText_digits (x := g) (fun c' hc' => by
            have hc2 : c' ∈ tl g := hc'
            rw [tg] at hc2
            have := List.all_eq_true.mp z3 c' hc2
            rw [figC_iff] at this
            exact this) (by show tl g ≠ []; rw [tg]; exact zn) (by omega)
          refine iteF ⟨_, rfl, g, _, rfl, it, by omega, ⟨_, rfl, a, C, dx, _, rfl, upd_same, T.cls, T.n3, (by show 2 < 1000; decide), rfl, K3.put (.inl (by simp)), ?_⟩⟩
          rw [gg]
          exact upd_same
      · rintro σ H4 ⟨rfl, K4, h4⟩
        refine ⟨_, rfl, wy, rfl, by omega, (by rw [tw]; exact Fc.way), fun pp ps H5 s5 hpp eps => ⟨_, rfl, a, C, dx, _, rfl, s5 _ _ h4, T.cls, T.n4, (by show 3 < 1000; decide), ?_⟩⟩
        have K6 : Kept [a] H (upd H5 a (.ins C dx (putF (Str.ofString "parts") (.ref pp) [("kind", .str k), ("host", .str r), ("gate", .int ((valsC c).gate : Nat))]))) := (K4.trans (Kept.same s5)).put (.inl (by simp))
        have hpa : pp ≠ a := fun e => by
          rw [e, s5 _ _ h4] at hpp
          cases hpp
        refine ⟨_, rfl, _, rfl, false, rfl, iteF ⟨(show 0 ≤ sizeLine by decide), fun wp hwp => ⟨as, wp, rfl, SqT.of upd_same, by omega, (by rw [ta]; exact Fc.asks), fun ap as' H7 s7 hap eas => ?_⟩⟩⟩
        have haw : a ≠ wp := fun e => by rw [← e, upd_same] at hwp; cases hwp
        have hpw : pp ≠ wp := fun e => by
          rw [← e, upd_ne hpa] at hwp
          rw [hpp] at hwp
          cases hwp
        have h7 := s7 a _ (by rw [upd_ne haw, upd_same])
        have hap2 : ap ≠ a := fun e => by rw [e, h7] at hap; cases hap
        refine ⟨_, rfl, a, C, dx, _, rfl, h7, T.cls, T.n5, (by show 4 < 1000; decide), ?_⟩
        refine ks (valsC c) hv _ ?_ ⟨dx, k, r, pp, ap, upd_same, tk, ?_, ⟨ps, ?_, eps.trans (by rw [tw]; rfl)⟩, ⟨as', ?_, eas.trans (by rw [ta]; rfl)⟩⟩
        · exact ((K6.new hwp).trans (Kept.same s7)).put (.inl (by simp))
        · rw [er, th]
          rfl
        · refine SqT.of ?_
          rw [upd_ne hpa]
          refine s7 _ _ ?_
          rw [upd_ne hpw, upd_ne hpa]
          exact hpp
        · refine SqT.of ?_
          rw [upd_ne hap2]
          exact hap
end Kp
namespace Kp
open PySem PySem.Spec PyProof.Rows L2 TL
variable {P : Program} {w : World} {K : PySem.W.Frag} {mg : Str → Option Value} {base : Heap}
abbrev sAStr : Stmt := inClass (top 22) 1
abbrev NAStr : List Str := ["self"]
theorem scAStr : FnScope NAStr ["self"] (defScope sAStr) := ⟨rfl, rfl, rfl, by decide +kernel, rfl, by decide +kernel, by decide +kernel⟩
abbrev sAEq : Stmt := inClass (top 22) 3
abbrev NAEq : List Str := ["self", "other"]
theorem scAEq : FnScope NAEq ["self", "other"] (defScope sAEq) := ⟨rfl, rfl, rfl, by decide +kernel, rfl, by decide +kernel, by decide +kernel⟩
abbrev sToldForm : Stmt := top 23
abbrev NToldForm : List Str := ["text", "without"]
theorem scToldForm : FnScope NToldForm ["text", "without"] (defScope sToldForm) := ⟨rfl, rfl, rfl, by decide +kernel, rfl, by decide +kernel, by decide +kernel⟩
def spAStr (K : PySem.W.Frag) (C : Addr) : Sp := fun vs H Q _ => ∃ (a : Addr) (v : Pg), vs = [.ref a] ∧ AddrAt K C H a v ∧ WfPg v ∧ (formL v).length < 100000 ∧ ∀ r H', Same H H' → tl r = formL v → Q (.str r) H'
theorem ok_a_str {C : Addr} (T : AdC K mg C) (GL : Glb K w mg) (F_form_by : FnAt P w K mg base CX0 "form_by" ["kind", "host", "gate", "parts", "asks"] [] 1 (spFormBy K)) : MethAt P w K mg base C "__str__" ["self"] 2 (spAStr K C) := by
  refine T.st.ok scAStr (fun _ _ _ _ _ _ us hl => match us, hl with | [_], _ => rfl) (fun vs H Q E h => ?_) (fun f cdv A outer s H vs Q E hr h => ?_)
  · obtain ⟨a, v, rfl, _⟩ := h
    rfl
  · obtain ⟨a, v, rfl, ⟨dx, k, h, pp, ap, ha, hp⟩, wf, hl, kk⟩ := h
    refine ⟨_, (pss_one (ps_ret (pe_callTy SkE.call_str_str (by rfl) GL.str (by decide +kernel) (pa_cons (pe_cf F_form_by (hr.mono (by decide)) pass0 (pa_cons (pe_fld (pv 0) rfl) (pa_cons (pe_fld (pv 0) rfl) (pa_cons (pe_fld (pv 0) rfl) (pa_cons (pe_fld (pv 0) rfl) (pa_cons (pe_fld (pv 0) rfl) pa_nil)))))) pa_nil)))), ?_⟩
    refine ⟨_, rfl, a, C, dx, _, _, rfl, ha, T.cls, T.n1, rfl, _, rfl, a, C, dx, _, _, rfl, ha, T.cls, T.n2, rfl, _, rfl, a, C, dx, _, _, rfl, ha, T.cls, T.n3, rfl, _, rfl, a, C, dx, _, _, rfl, ha, T.cls, T.n4, rfl, _, rfl, a, C, dx, _, _, rfl, ha, T.cls, T.n5, rfl, ?_⟩
    exact ⟨v, k, h, pp, ap, rfl, wf, hl, hp, fun r H' s e => ⟨r, rfl, kk r H' s e⟩⟩
def spAEq (K : PySem.W.Frag) (C : Addr) : Sp := fun vs H Q _ => ∃ (a b : Addr) (v u : Pg), vs = [.ref a, .ref b] ∧ AddrAt K C H a v ∧ WfPg v ∧ (formL v).length < 100000 ∧ AddrAt K C H b u ∧ WfPg u ∧ (formL u).length < 100000 ∧ ∀ H', Same H H' → Q (.bl (decide (formL v = formL u))) H'
theorem str_eq2 {x y : Str} {a b : Tx} (hx : tl x = a) (hy : tl y = b) : decide (V.str x = V.str y) = decide (a = b) := by
  refine decide_eq_decide.mpr ⟨fun e => ?_, fun e => ?_⟩
  · have := V.str.inj e
    rw [← hx, ← hy, this]
  · have : x = y := ext_tl (by rw [hx, hy, e])
    rw [this]
theorem ok_a_eq {C : Addr} (T : AdC K mg C) (GL : Glb K w mg) (M_str : MethAt P w K mg base C "__str__" ["self"] 2 (spAStr K C)) : MethAt P w K mg base C "__eq__" ["self", "other"] 5 (spAEq K C) := by
  have A_Address := T.gC
  refine T.eq.ok scAEq (fun _ _ _ _ _ _ us hl => match us, hl with | [_, _], _ => rfl) (fun vs H Q E h => ?_) (fun f cdv A outer s H vs Q E hr h => ?_)
  · obtain ⟨a, b, v, u, rfl, _⟩ := h
    rfl
  · obtain ⟨a, b, v, u, rfl, ha, wa, la, hb, wb, lb, kk⟩ := h
    refine ⟨_, (pss_one (ps_ret (pe_and (pe_callB call_isi (by rfl) GL.isinstance (by decide +kernel) (pa_cons (pv 1) (pa_cons (pe_globR rfl A_Address) pa_nil))) (pe_one (pe_cmpR op_eq (pe_callTy (call_str_own M_str (hr.mono (by decide))) (by rfl) GL.str (by decide +kernel) (pa_cons (pv 0) pa_nil)) (pe_callTy (call_str_own M_str (hr.mono (by decide))) (by rfl) GL.str (by decide +kernel) (pa_cons (pv 1) pa_nil)) (nomark _)))))), ?_⟩
    obtain ⟨dx, k, h, pp, ap, ha1, ha2⟩ := id ha
    obtain ⟨dy, k', h', pp', ap', hb1, hb2⟩ := id hb
    refine ⟨_, rfl, _, _, _, _, true, rfl, .own C, .base (.ins hb1 T.cls T.ha T.hn T.htk T.hm), T.me, true, rfl, iteT ?_⟩
    refine ⟨_, rfl, a, dx, _, rfl, ha1, a, v, rfl, ha, wa, la, fun r H1 s1 er => ⟨r, rfl, _, rfl, b, dy, _, rfl, s1 _ _ hb1, b, u, rfl, hb.same s1, wb, lb, fun r2 H2 s2 er2 => ⟨r2, rfl, ?_⟩⟩⟩
    refine ⟨rfl, ?_⟩
    rw [str_eq2 er er2]
    exact kk H2 (s1.trans s2)
theorem mk_addr {C N B : Addr} (T : AdC K mg C) (TN : NaC K mg N B) (GL : Glb K w mg) (F_cut_address : FnAt P w K mg base CX0 "cut_address" ["text"] [] 2 spCut) (F_told_host : FnAt P w K mg base CX0 "told_host" ["host"] [] 1 spToldHost)
    (F_way_parts : FnAt P w K mg base CX0 "way_parts" ["way"] [] 3 (spWayParts)) (F_ask_parts : FnAt P w K mg base CX0 "ask_parts" ["asks", "without"] [] 3 (spAskParts K)) :
    MkAt P w K mg base (L2.CX P w) "Address" C ["self", "text", "without"] [.non] 4 (spAInit K C N) ∧ MkAt P w K mg base (L2.CX P w) "Address" C ["self", "text", "without"] [] 4 (spAInit K C N) := by
  obtain ⟨f, fd, M, F⟩ := T.ini
  have G := ok_a_init (P := P) (w := w) (base := base) T TN GL F_cut_address F_told_host F_way_parts F_ask_parts F
  obtain ⟨ds, v1, b1⟩ := F.binds1 (ps := ["self", "text", "without"]) 2 0 (by decide) rfl (fun T kV doc pm an cdv ct us its h1 h2 => match us, h1, its, h2 with | [_, _], _, [_], _ => ⟨_, rfl, rfl⟩)
  obtain ⟨ds', v1', b1'⟩ := F.binds1 (ps := ["self", "text", "without"]) 3 1 (by decide) rfl (fun T kV doc pm an cdv ct us its h1 h2 => match us, h1, its, h2 with | [_, _, _], _, [_], _ => ⟨_, rfl, rfl⟩)
  exact ⟨⟨f, fd, ds, T.gC, M, b1, v1, G⟩, ⟨f, fd, ds', T.gC, M, b1', v1', G⟩⟩
/-- a def with one default, None -/
structure DDef (K : PySem.W.Frag) (mg : Str → Option Value) (x : Str) (st : Stmt) : Prop where
  ex : ∃ f fd, mg x = some (.ref f) ∧ FunD K x x (defArgs st) (defBody st) (defScope st) [.non] [] f fd
def spToldForm : Sp := fun vs H Q _ => ∃ (x : Str) (v : Pg), vs = [.str x, .non] ∧ x.length < 19000 ∧ okS x ∧ valsOf (tl x) = some v ∧ ∀ r H', Same H H' → tl r = formL v → Q (.str r) H'
theorem kept_made {H H' : Hp} {a dx : Addr} {o : HO} {o2 : HO} (ha : H a = none) (hd : H dx = none) (k : Kept [a] (upd (upd H dx o) a o2) H') : Same H H' := fun c u h => by
  have h1 : c ≠ a := ne_of_none h ha
  have h2 : c ≠ dx := ne_of_none h hd
  refine k c u (by simpa using h1) ?_
  rw [upd_ne h1, upd_ne h2]
  exact h
theorem ok_told_form {C N : Addr} (D : DDef K mg "told_form" sToldForm) (GL : Glb K w mg) (M_str : MethAt P w K mg base C "__str__" ["self"] 2 (spAStr K C))
    (M_Address : MkAt P w K mg base (L2.CX P w) "Address" C ["self", "text", "without"] [] 4 (spAInit K C N)) :
    FnAt P w K mg base CX0 "told_form" ["text", "without"] [.non] 6 spToldForm ∧ FnAt P w K mg base CX0 "told_form" ["text", "without"] [] 6 spToldForm := by
  obtain ⟨f, fd, hm, F⟩ := D.ex
  have G : FnOk P w K mg base CX0 6 f fd ["text", "without"] spToldForm := by
    refine F.ok scToldForm (fun vs H Q E h => ?_) (fun cdv A outer s H vs Q E hr h => ?_)
    · obtain ⟨x, v, rfl, _⟩ := h
      rfl
    · obtain ⟨x, v, rfl, hx, okx, hv, kk⟩ := h
      refine ⟨_, (pss_one (ps_ret (pe_callTy (call_str_own M_str (hr.mono (by decide))) (by rfl) GL.str (by decide +kernel) (pa_cons (pe_mkA M_Address (hr.mono (by decide)) passL (pa_cons (pv 0) (pa_cons (pv 1) pa_nil))) pa_nil)))), ?_⟩
      have fl := form_len hv
      rw [← len_tl] at fl
      refine ⟨_, rfl, _, rfl, fun a dx ha hd hne => ⟨a, dx, x, rfl, upd_same, hx, okx, (fun z => by rw [hv] at z; cases z), fun v' hv' H' kp at' => ⟨rfl, ?_⟩⟩⟩
      have e : v' = v := by rw [hv] at hv'; exact (Option.some.inj hv').symm
      subst e
      have s1 := kept_made ha hd kp
      obtain ⟨dx', k, h, pp, ap, ha1, ha2⟩ := id at'
      exact ⟨a, dx', _, rfl, ha1, a, v', rfl, at', vals_wf hv, by omega, fun r H2 s2 er => ⟨r, rfl, kk r H2 (s1.trans s2) er⟩⟩
  obtain ⟨ds, v1, b1⟩ := F.binds1 (ps := ["text", "without"]) 1 0 (by decide) rfl (fun T kV doc pm an cdv ct us its h1 h2 => match us, h1, its, h2 with | [_], _, [_], _ => ⟨_, rfl, rfl⟩)
  obtain ⟨ds', v1', b1'⟩ := F.binds1 (ps := ["text", "without"]) 2 1 (by decide) rfl (fun T kV doc pm an cdv ct us its h1 h2 => match us, h1, its, h2 with | [_, _], _, [_], _ => ⟨_, rfl, rfl⟩)
  exact ⟨⟨f, fd, ds, hm, F.kp, b1, v1, G⟩, ⟨f, fd, ds', hm, F.kp, b1', v1', G⟩⟩
end Kp
namespace Kp
open PySem PySem.Spec PyProof.Rows TL
/-! ### the groups of twins -/
/-- the told form as a text -/
def toldS (x : Str) : Str := match valsOf (tl x) with
  | some v => ⟨(formL v).toArray⟩
  | none => Str.empty
theorem toldS_of {x r : Str} {v : Pg} (h : valsOf (tl x) = some v) (e : tl r = formL v) : r = toldS x := by
  unfold toldS
  rw [h]
  refine ext_tl ?_
  rw [e]
theorem tl_toldS {x : Str} {v : Pg} (h : valsOf (tl x) = some v) : tl (toldS x) = formL v := by
  unfold toldS
  rw [h]
abbrev Grp := Str × List Str
def grpOf (xs : List Str) (k : Str) : List Str := xs.filter fun x => decide (toldS x = k)
structure Gr (xs : List Str) (G : List Grp) : Prop where
  nd : (G.map (·.1)).Nodup
  is : ∀ g ∈ G, g.2 = grpOf xs g.1 ∧ g.2 ≠ []
  all : ∀ x ∈ xs, ∃ g ∈ G, g.1 = toldS x
theorem gr_nil : Gr [] [] := ⟨List.nodup_nil, (fun _ h => by cases h), (fun _ h => by cases h)⟩
theorem grp_snoc (xs : List Str) (x k : Str) : grpOf (xs ++ [x]) k = grpOf xs k ++ (if toldS x = k then [x] else []) := by
  unfold grpOf
  rw [List.filter_append]
  by_cases h : toldS x = k
  · rw [if_pos h]; simp [h]
  · rw [if_neg h]; simp [h]
theorem gr_new {xs : List Str} {G : List Grp} {x : Str} (h : Gr xs G) (hn : toldS x ∉ G.map (·.1)) : Gr (xs ++ [x]) (G ++ [(toldS x, [x])]) := by
  have hno : grpOf xs (toldS x) = [] := by
    unfold grpOf
    refine List.filter_eq_nil_iff.mpr fun y hy hc => ?_
    obtain ⟨g, hg, e⟩ := h.all y hy
    refine hn (List.mem_map.mpr ⟨g, hg, ?_⟩)
    rw [e]
    exact of_decide_eq_true hc
  refine ⟨?_, fun g hg => ?_, fun y hy => ?_⟩
  · rw [List.map_append, List.nodup_append]
    refine ⟨h.nd, by simp, fun a ha b hb e => ?_⟩
    simp only [List.map_cons, List.map_nil, List.mem_singleton] at hb
    rw [e, hb] at ha
    exact hn ha
  · rcases List.mem_append.mp hg with z | z
    · have hk : toldS x ≠ g.1 := fun e => hn (e ▸ List.mem_map.mpr ⟨g, z, rfl⟩)
      rw [grp_snoc, if_neg hk, List.append_nil]
      exact h.is g z
    · rw [List.mem_singleton.mp z]
      show [x] = grpOf (xs ++ [x]) (toldS x) ∧ _
      rw [grp_snoc, hno, if_pos rfl]
      exact ⟨rfl, by simp⟩
  · rcases List.mem_append.mp hy with z | z
    · obtain ⟨g, hg, e⟩ := h.all y z
      exact ⟨g, List.mem_append_left _ hg, e⟩
    · rw [List.mem_singleton.mp z]
      exact ⟨(toldS x, [x]), by simp, rfl⟩
def addG (k x : Str) (g : Grp) : Grp := if g.1 = k then (g.1, g.2 ++ [x]) else g
theorem addG_fst (k x : Str) (g : Grp) : (addG k x g).1 = g.1 := by
  unfold addG
  split <;> rfl
theorem gr_old {xs : List Str} {G : List Grp} {x : Str} (h : Gr xs G) (hn : toldS x ∈ G.map (·.1)) : Gr (xs ++ [x]) (G.map (addG (toldS x) x)) := by
  have em : (G.map (addG (toldS x) x)).map (·.1) = G.map (·.1) := by
    rw [List.map_map]
    exact List.map_congr_left fun g _ => addG_fst _ _ g
  refine ⟨by rw [em]; exact h.nd, fun g hg => ?_, fun y hy => ?_⟩
  · obtain ⟨g0, hg0, rfl⟩ := List.mem_map.mp hg
    obtain ⟨e1, e2⟩ := h.is g0 hg0
    rw [addG_fst, grp_snoc]
    unfold addG
    by_cases hk : g0.1 = toldS x
    · rw [if_pos hk, if_pos hk.symm]
      show g0.2 ++ [x] = _ ∧ g0.2 ++ [x] ≠ []
      rw [e1]
      exact ⟨rfl, by simp⟩
    · rw [if_neg hk, if_neg (Ne.symm hk), List.append_nil]
      exact ⟨e1, e2⟩
  · have : ∃ g ∈ G, g.1 = toldS y := by
      rcases List.mem_append.mp hy with z | z
      · exact h.all y z
      · rw [List.mem_singleton.mp z]
        obtain ⟨g, hg, e⟩ := List.mem_map.mp hn
        exact ⟨g, hg, e⟩
    obtain ⟨g, hg, e⟩ := this
    exact ⟨addG (toldS x) x g, List.mem_map.mpr ⟨g, hg, rfl⟩, by rw [addG_fst]; exact e⟩
theorem filter_split (p : Str → Bool) (xs : List Str) : (xs.filter p ++ xs.filter (fun x => !p x)).Perm xs := List.filter_append_perm p xs
theorem gr_perm : ∀ (G : List Grp) (xs : List Str), (G.map (·.1)).Nodup → (∀ g ∈ G, g.2 = grpOf xs g.1) → (∀ x ∈ xs, ∃ g ∈ G, g.1 = toldS x) → ((G.map (·.2)).flatten).Perm xs
  | [], xs, _, _, h => by
    cases xs with
    | nil => exact List.Perm.refl _
    | cons x r => obtain ⟨g, hg, _⟩ := h x (by simp); cases hg
  | g :: G, xs, hn, his, h => by
    have hn' : g.1 ∉ G.map (·.1) ∧ (G.map (·.1)).Nodup := List.nodup_cons.mp hn
    have e0 := his g (by simp)
    have ih := gr_perm G (xs.filter fun x => !decide (toldS x = g.1)) hn'.2 (fun g' hg' => ?_) (fun x hx => ?_)
    · rw [List.map_cons, List.flatten_cons, e0]
      exact (List.Perm.append_left _ ih).trans (filter_split (fun x => decide (toldS x = g.1)) xs)
    · rw [his g' (List.mem_cons_of_mem _ hg')]
      unfold grpOf
      rw [List.filter_filter]
      refine List.filter_congr fun x _ => ?_
      by_cases q : toldS x = g'.1
      · have : ¬ g'.1 = g.1 := fun e => hn'.1 (e ▸ List.mem_map.mpr ⟨g', hg', rfl⟩)
        simp [q, this]
      · simp [q]
    · obtain ⟨hx1, hx2⟩ := List.mem_filter.mp hx
      have hx3 : ¬ toldS x = g.1 := by simpa using hx2
      obtain ⟨g', hg', e⟩ := h x hx1
      rcases List.mem_cons.mp hg' with z | z
      · rw [z] at e
        exact absurd e.symm hx3
      · exact ⟨g', z, e⟩
theorem Gr.perm {xs : List Str} {G : List Grp} (h : Gr xs G) : ((G.map (·.2)).flatten).Perm xs := gr_perm G xs h.nd (fun g hg => (h.is g hg).1) h.all
theorem Gr.told {xs : List Str} {G : List Grp} (h : Gr xs G) {g : Grp} (hg : g ∈ G) {y : Str} (hy : y ∈ g.2) : y ∈ xs ∧ toldS y = g.1 := by
  rw [(h.is g hg).1] at hy
  obtain ⟨h1, h2⟩ := List.mem_filter.mp hy
  exact ⟨h1, of_decide_eq_true h2⟩
theorem gr_len {xs : List Str} {G : List Grp} (h : Gr xs G) : G.length ≤ xs.length := by
  have h1 := h.perm.length_eq
  have h2 : ∀ (L : List Grp), (∀ g ∈ L, g.2 ≠ []) → L.length ≤ ((L.map (·.2)).flatten).length := by
    intro L
    induction L with
    | nil => intro _; simp
    | cons g L ih =>
      intro hL
      have := ih fun g' hg' => hL g' (List.mem_cons_of_mem _ hg')
      have h3 : 0 < g.2.length := List.length_pos_iff.mpr (hL g (by simp))
      rw [List.map_cons, List.flatten_cons, List.length_append, List.length_cons]
      omega
  have := h2 G fun g hg => (h.is g hg).2
  omega
end Kp
namespace Kp
open PySem PySem.Spec PyProof.Rows L2
/-! rules with K named (within comprehensions the context's K may not stand in a reading) -/
section
variable {X : Cx} {K : PySem.W.Frag}
def rTupOf (K : PySem.W.Frag) : List V → Hp → VK → Prop := fun xs H Q => ∃ p ys, xs = [V.ref p] ∧ ((SqL K H p ys ∧ ∀ l, H l = none → Q (.ref l) (upd H l (.tup ys))) ∨ (SqT K H p ys ∧ Q (.ref p) H))
def rLenSeq (K : PySem.W.Frag) : List V → Hp → VK → Prop := fun xs H Q => ∃ (p : Addr) (ys : List V), xs = [V.ref p] ∧ (SqL K H p ys ∨ SqT K H p ys) ∧ Q (.int ys.length) H
def rListOf (K : PySem.W.Frag) : List V → Hp → VK → Prop := fun xs H Q => ∃ (p : Addr) (ys : List V), xs = [V.ref p] ∧ (SqL K H p ys ∨ SqT K H p ys) ∧ ∀ l, H l = none → Q (.ref l) (upd H l (.lst ys))
theorem cr_tupOf (hK : X.K = K := by rfl) : CallR X (.type "tuple") (rTupOf K) := by
  subst hK
  exact call_tuple_of
theorem cr_lenSeq (hK : X.K = K := by rfl) : CallR X (.builtin "len") (rLenSeq K) := by
  subst hK
  exact call_len_seq
theorem cr_listOf (hK : X.K = K := by rfl) : CallR X (.type "list") (rListOf K) := by
  subst hK
  exact call_list_of
theorem ix_listK (hK : X.K = K := by rfl) : IxR X (rIxL K) := by
  subst hK
  exact ix_list
theorem ix_tupK (hK : X.K = K := by rfl) : IxR X (rIxT K) := by
  subst hK
  exact ix_tup
def rJoinK (K : PySem.W.Frag) : V → List V → Hp → VK → Prop := fun x xs H Q => ∃ (a : Str) (p : Addr) (ys : List Str), x = .str a ∧ xs = [.ref p] ∧ (SqL K H p (ys.map V.str) ∨ SqT K H p (ys.map V.str)) ∧ (ys.map (·.length)).sum + ys.length * a.length ≤ 16777216 ∧ Q (.str (Txt.join a ys)) H
theorem pe_joinK {o e : Expr} {to te : TE} {apos pos : Pos} (ho : PE X o to) (he : PE X e te) (hK : X.K = K := by rfl) (hs : starEach [e] X.env = [(false, eval e X.env)] := by rfl) (hbase : attributeBase o "join" X.env (eval o X.env) = eval o X.env := by rfl) (hline : (apos.endLine == pos.line) = true := by rfl) :
    PE X (.Call (.Attribute o "join" apos) [e] [] pos) (tM1 (rJoinK K) to te) := by
  subst hK
  exact pe_join ho he hs hbase hline
end
end Kp
namespace Kp
open PySem PySem.Spec PyProof.Rows L2 TL
variable {P : Program} {w : World} {K : PySem.W.Frag} {mg : Str → Option Value} {base : Heap}
/-! ### sorted(pairs of a text and a tuple of texts) -/
abbrev Row3 := Addr × Str × List Str
def encG (b : Row3) : PyData := .tuple [.str b.2.1, .tuple (b.2.2.map .str)]
theorem alike_strs : ∀ xs ys : List Str, PySem.W.alikeAll (xs.map .str) (ys.map .str) = true
  | [], _ => by simp [PySem.W.alikeAll]
  | _ :: _, [] => by simp [PySem.W.alikeAll]
  | x :: xs, y :: ys => by
    show PySem.W.alikeAll (.str x :: xs.map .str) (.str y :: ys.map .str) = true
    rw [PySem.W.alikeAll, alike_strs xs ys]
    simp [PySem.W.alike]
theorem alike_encG (b c : Row3) : PySem.W.alike (encG b) (encG c) = true := by
  unfold encG
  rw [PySem.W.alike, PySem.W.alikeAll, PySem.W.alikeAll, PySem.W.alikeAll, PySem.W.alike, PySem.W.alike, alike_strs]
  rfl
def rSortedG (K : PySem.W.Frag) : List V → Hp → VK → Prop := fun vs H Q => ∃ (a : Addr) (gs : List Row3), vs = [V.ref a] ∧ SqL K H a (gs.map fun g => V.ref g.1) ∧ (∀ g ∈ gs, ∃ q, SqT K H g.1 [.str g.2.1, .ref q] ∧ SqT K H q (g.2.2.map V.str)) ∧
  ∀ (gs' : List Row3) (p : Addr), gs'.Perm gs → H p = none → Q (.ref p) (upd H p (.lst (gs'.map fun g => V.ref g.1)))
theorem vals_refs : ∀ {gs : List Row3} {us : List Value}, Vals (gs.map fun g => V.ref g.1) us → us = gs.map fun g => Value.ref g.1
  | [], _, r => by cases r; rfl
  | g :: gs, _, r => by
    cases r with
    | cons h t =>
      have h' := h
      rw [vals_refs t]
      rw [show _ = Value.ref g.1 from h']
      rfl
theorem each_refs : ∀ {out : List Value} {gs : List Row3}, PySem.W.EachIs (fun v (b : Row3) => v = Value.ref b.1) out gs → out = gs.map fun g => Value.ref g.1
  | _, _, .nil => rfl
  | _, _, .cons h t => by rw [h, each_refs t]; rfl
theorem refs_vals : ∀ gs : List Row3, Vals (gs.map fun g => V.ref g.1) (gs.map fun g => Value.ref g.1)
  | [] => .nil
  | g :: gs => .cons rfl (refs_vals gs)
theorem each_of {R : Value → Row3 → Prop} : ∀ {gs : List Row3}, (∀ g ∈ gs, R (Value.ref g.1) g) → PySem.W.EachIs R (gs.map fun g => Value.ref g.1) gs
  | [], _ => .nil
  | g :: gs, h => .cons (h g (by simp)) (each_of fun g' hg => h g' (List.mem_cons_of_mem _ hg))
theorem depth_encG (b : Row3) : (encG b).depth ≤ 3 := by
  unfold encG
  have := depth_strs b.2.2
  simp [PyData.depth, PyData.depthAll]
  omega
theorem cr_sortedG {X : Cx} {k : Nat} (hr : Room k X.A) : CallR X (.builtin "sorted") (rSortedG X.K) := by
  intro pins s σ H vs us Q I r h
  obtain ⟨a, gs, rfl, hs, hg, q⟩ := h
  obtain ⟨its, rv, hl, hz⟩ := I.list hs
  rw [Vals.ref1 r]
  have ei := vals_refs rv
  subst ei
  have hu := hr.units
  refine PySem.W.sorted_data (R := fun v (b : Row3) => v = Value.ref b.1) (enc := encG) hl.isList (each_of fun g _ => rfl) (each_of fun g hm => ?_) (PySem.W.AllAlike.of alike_encG) (PySem.W.Sortable.tuples fun b => ⟨_, _, rfl⟩) ?_ (fun b _ => by have := depth_encG b; omega) fun out h1 h2 => ?_
  · obtain ⟨t, h1, h2⟩ := hg g hm
    refine Dp.reads I (encG g) (.ref g.1) (.ref g.1) ?_ rfl
    exact .tup h1 (.cons (.str _) (.cons (.tup h2 (dp_strs _)) .nil))
  · rw [List.length_map] at hz; exact hz
  · have e := each_refs h2
    subst e
    obtain ⟨ep, he'⟩ := PyProof.Rows.sortedAll_at s.heap (gs.map fun g => Value.ref g.1) (List.toArray ((gs.mergeSort (PySem.W.dataLe false encG)).map fun g => Value.ref g.1))
    have hp : (gs.mergeSort (PySem.W.dataLe false encG)).Perm gs := List.mergeSort_perm _ _
    have hlen : ((gs.mergeSort (PySem.W.dataLe false encG)).map fun g => V.ref g.1).length ≤ sizeLine := by
      rw [List.length_map, hp.length_eq]
      rw [List.length_map] at hz
      exact hz
    exact ⟨.ref _, upd H (s.heap.objs.size + 1) (.lst ((gs.mergeSort (PySem.W.dataLe false encG)).map fun g => V.ref g.1)), I.laid (t' := s.toks) (fun _ _ => PyProof.Rows.sortedAll_old) (Nat.le_succ _) ⟨hlen, _, ep, refs_vals _, he'⟩, rfl, q _ _ hp (I.hok.fresh (Nat.le_succ _))⟩

theorem FunD.okN {x qual : Str} {params : Arguments} {body : List Stmt} {scope : Scope} {dvs : List V} {kws : List (Str × V)} {f : Addr} {fd : FuncData} {N ps : List Str} {k : Nat} {sp : Sp} (F : FunD K x qual params body scope dvs kws f fd) (S : FnScope N ps scope) (len : ∀ vs H Q E, sp vs H Q E → vs.length = ps.length)
    (hbody : ∀ (cdv : Value) (A : Around) (outer : List Env) (s : Shared) (H : Hp) (vs : List V) (Q : VK) (E : XK), Room k (A.deeper (envOfC qual scope s.heap.objs.size f cdv)) → sp vs H Q E →
      ∃ t, PSs (cxOf CX0 P w K mg base N qual scope f cdv A outer s H E).nox body t ∧ t { nx := fun _ H' => Q .non H', rt := Q } (start N vs) H) : FnOk P w K mg base CX0 (k + 1) f fd ps sp :=
  F.ok S len fun cdv A outer s H vs Q E hr h => by
    obtain ⟨t, p, q⟩ := hbody cdv A outer s H vs Q E hr h
    exact ⟨t, p.nox, q⟩
/-! ### twins -/
abbrev sTwins : Stmt := top 25
abbrev NTwins : List Str := ["texts", "without", "by_form", "text", "form", "some"]
theorem scTwins : FnScope NTwins ["texts", "without"] (defScope sTwins) := ⟨rfl, rfl, rfl, by decide +kernel, rfl, by decide +kernel, by decide +kernel⟩
abbrev TRow := Str × Addr × List Str
abbrev tKvs (G : List TRow) : List (Key × V) := G.map fun g => (Sum.inr g.1, V.ref g.2.1)
abbrev tGrp (G : List TRow) : List Grp := G.map fun g => (g.1, g.2.2)
structure TwSt (H H' : Hp) (d : Addr) (xs : List Str) (G : List TRow) : Prop where
  dk : H' d = some (.dK (tKvs G))
  ls : ∀ g ∈ G, H' g.2.1 = some (.lst (g.2.2.map V.str))
  nd : (G.map (·.2.1)).Nodup
  old : ∀ g ∈ G, H g.2.1 = none
  od : H d = none
  same : Same H H'
  gr : Gr xs (tGrp G)
theorem TwSt.keep {H H' H2 : Hp} {d : Addr} {xs : List Str} {G : List TRow} (t : TwSt H H' d xs G) (s : Same H' H2) : TwSt H H2 d xs G :=
  ⟨s _ _ t.dk, fun g hg => s _ _ (t.ls g hg), t.nd, t.old, t.od, t.same.trans s, t.gr⟩
theorem tGrp_fst (G : List TRow) : (tGrp G).map (·.1) = G.map (·.1) := by rw [List.map_map]; rfl
theorem TwSt.val {H H' : Hp} {d : Addr} {xs : List Str} {G : List TRow} (t : TwSt H H' d xs G) {k : Str} (hk : k ∈ G.map (·.1)) : ∃ g ∈ G, g.1 = k ∧ valV (tKvs G) (Sum.inr k) = some (.ref g.2.1) := by
  obtain ⟨g, hg, e⟩ := List.mem_map.mp hk
  refine ⟨g, hg, e, ?_⟩
  have nd : ((tKvs G).map (·.1)).Nodup := by
    have : (tKvs G).map (·.1) = (G.map (·.1)).map Sum.inr := by rw [List.map_map, List.map_map]; rfl
    rw [this]
    have h1 := t.gr.nd
    rw [tGrp_fst] at h1
    exact List.Pairwise.map _ (fun a b h e => h (Sum.inr.inj e)) h1
  have := val_nodup nd (Sum.inr g.1, V.ref g.2.1) (List.mem_map.mpr ⟨g, hg, rfl⟩)
  rw [← e]
  exact this
theorem val_no {G : List TRow} {k : Str} (hk : k ∉ G.map (·.1)) : valV (tKvs G) (Sum.inr k) = none := by
  unfold valV
  rw [List.find?_eq_none.mpr]
  · rfl
  · intro kv hkv hc
    obtain ⟨g, hg, rfl⟩ := List.mem_map.mp hkv
    have e : (Sum.inr g.1 : Key) = Sum.inr k := of_decide_eq_true hc
    exact hk (List.mem_map.mpr ⟨g, hg, Sum.inr.inj e⟩)
theorem put_no {G : List TRow} {k : Str} {l : Addr} {ys : List Str} (hk : k ∉ G.map (·.1)) : putK (tKvs G) (Sum.inr k) (.ref l) = tKvs (G ++ [(k, l, ys)]) := by
  unfold putK
  rw [if_neg]
  · rw [tKvs, tKvs, List.map_append]; rfl
  · intro hc
    obtain ⟨kv, hkv, e⟩ := List.any_eq_true.mp hc
    obtain ⟨g, hg, rfl⟩ := List.mem_map.mp hkv
    exact hk (List.mem_map.mpr ⟨g, hg, Sum.inr.inj (of_decide_eq_true e)⟩)
theorem TwSt.addNew {H H' : Hp} {d l : Addr} {xs : List Str} {G : List TRow} {x : Str} (t : TwSt H H' d xs G) (hl : H' l = none) (hn : toldS x ∉ G.map (·.1)) :
    TwSt H (upd (upd (upd H' l (.lst [])) d (.dK (tKvs (G ++ [(toldS x, l, [x])])))) l (.lst [.str x])) d (xs ++ [x]) (G ++ [(toldS x, l, [x])]) := by
  have ne : ∀ g ∈ G, g.2.1 ≠ l := fun g hg e => by have := t.ls g hg; rw [e, hl] at this; cases this
  have nd : ∀ g ∈ G, g.2.1 ≠ d := fun g hg e => by have := t.ls g hg; rw [e, t.dk] at this; cases this
  have ld : d ≠ l := fun e => by have := t.dk; rw [e, hl] at this; cases this
  have hl0 : H l = none := by
    cases q : H l with
    | none => rfl
    | some o => rw [t.same _ _ q] at hl; cases hl
  refine ⟨by rw [upd_ne ld, upd_same], fun g hg => ?_, ?_, fun g hg => ?_, t.od, ?_, ?_⟩
  · rcases List.mem_append.mp hg with z | z
    · rw [upd_ne (ne g z), upd_ne (nd g z), upd_ne (ne g z)]
      exact t.ls g z
    · rw [List.mem_singleton.mp z]
      exact upd_same
  · rw [List.map_append, List.nodup_append]
    refine ⟨t.nd, by simp, fun a ha b hb e => ?_⟩
    simp only [List.map_cons, List.map_nil, List.mem_singleton] at hb
    obtain ⟨g, hg, e2⟩ := List.mem_map.mp ha
    exact ne g hg (by rw [e2, e, hb])
  · rcases List.mem_append.mp hg with z | z
    · exact t.old g z
    · rw [List.mem_singleton.mp z]
      exact hl0
  · exact Same.put (Same.put (Same.put t.same hl0) t.od) hl0
  · have := gr_new t.gr (x := x) (by rw [tGrp_fst]; exact hn)
    rw [tGrp, List.map_append]
    exact this
def addR (k x : Str) (g : TRow) : TRow := if g.1 = k then (g.1, g.2.1, g.2.2 ++ [x]) else g
theorem addR_adr (k x : Str) (g : TRow) : (addR k x g).2.1 = g.2.1 ∧ (addR k x g).1 = g.1 := by
  unfold addR
  split <;> exact ⟨rfl, rfl⟩
theorem nodup_inj {G : List TRow} {f : TRow → Str} (h : (G.map f).Nodup) {a b : TRow} (ha : a ∈ G) (hb : b ∈ G) (e : f a = f b) : a = b := by
  induction G with
  | nil => cases ha
  | cons c r ih =>
    rw [List.map_cons, List.nodup_cons] at h
    rcases List.mem_cons.mp ha with h1 | h1
    · rcases List.mem_cons.mp hb with h2 | h2
      · rw [h1, h2]
      · exact absurd (List.mem_map.mpr ⟨b, h2, by rw [← h1]; exact e.symm⟩) h.1
    · rcases List.mem_cons.mp hb with h2 | h2
      · exact absurd (List.mem_map.mpr ⟨a, h1, by rw [← h2]; exact e⟩) h.1
      · exact ih h.2 h1 h2
theorem nodup_injA {G : List TRow} (h : (G.map (·.2.1)).Nodup) {a b : TRow} (ha : a ∈ G) (hb : b ∈ G) (e : a.2.1 = b.2.1) : a = b := by
  induction G with
  | nil => cases ha
  | cons c r ih =>
    rw [List.map_cons, List.nodup_cons] at h
    rcases List.mem_cons.mp ha with h1 | h1
    · rcases List.mem_cons.mp hb with h2 | h2
      · rw [h1, h2]
      · exact absurd (List.mem_map.mpr ⟨b, h2, by rw [← h1]; exact e.symm⟩) h.1
    · rcases List.mem_cons.mp hb with h2 | h2
      · exact absurd (List.mem_map.mpr ⟨a, h1, by rw [← h2]; exact e⟩) h.1
      · exact ih h.2 h1 h2
theorem TwSt.addOld {H H' : Hp} {d : Addr} {xs : List Str} {G : List TRow} {x : Str} {g0 : TRow} (t : TwSt H H' d xs G) (hg0 : g0 ∈ G) (e0 : g0.1 = toldS x) :
    TwSt H (upd H' g0.2.1 (.lst ((g0.2.2 ++ [x]).map V.str))) d (xs ++ [x]) (G.map (addR (toldS x) x)) := by
  have nd : ∀ g ∈ G, g.2.1 ≠ d := fun g hg e => by have := t.ls g hg; rw [e, t.dk] at this; cases this
  have kn := t.gr.nd
  rw [tGrp_fst] at kn
  have e1 : tKvs (G.map (addR (toldS x) x)) = tKvs G := by
    rw [tKvs, tKvs, List.map_map]
    refine List.map_congr_left fun g _ => ?_
    show (Sum.inr (addR (toldS x) x g).1, V.ref (addR (toldS x) x g).2.1) = _
    rw [(addR_adr _ _ g).1, (addR_adr _ _ g).2]
  have e2 : (G.map (addR (toldS x) x)).map (·.2.1) = G.map (·.2.1) := by
    rw [List.map_map]
    exact List.map_congr_left fun g _ => (addR_adr _ _ g).1
  refine ⟨by rw [upd_ne (Ne.symm (nd g0 hg0)), e1]; exact t.dk, fun g hg => ?_, by rw [e2]; exact t.nd, fun g hg => ?_, t.od, Same.put t.same (t.old g0 hg0), ?_⟩
  · obtain ⟨g1, hg1, rfl⟩ := List.mem_map.mp hg
    unfold addR
    by_cases hk : g1.1 = toldS x
    · rw [if_pos hk]
      have : g1 = g0 := nodup_inj kn hg1 hg0 (by rw [hk, e0])
      rw [this]
      exact upd_same
    · rw [if_neg hk]
      have : g1.2.1 ≠ g0.2.1 := fun e => hk (by rw [nodup_injA t.nd hg1 hg0 e, e0])
      rw [upd_ne this]
      exact t.ls g1 hg1
  · obtain ⟨g1, hg1, rfl⟩ := List.mem_map.mp hg
    rw [(addR_adr _ _ g1).1]
    exact t.old g1 hg1
  · have := gr_old t.gr (x := x) (by rw [tGrp_fst]; exact e0 ▸ List.mem_map.mpr ⟨g0, hg0, rfl⟩)
    have e3 : tGrp (G.map (addR (toldS x) x)) = (tGrp G).map (addG (toldS x) x) := by
      rw [tGrp, tGrp, List.map_map, List.map_map]
      refine List.map_congr_left fun g _ => ?_
      show ((addR (toldS x) x g).1, (addR (toldS x) x g).2.2) = addG (toldS x) x (g.1, g.2.2)
      unfold addR addG
      split <;> rfl
    rw [e3]
    exact this
def spTwins (K : PySem.W.Frag) : Sp := fun vs H Q _ => ∃ (tp : Addr) (xs : List Str), vs = [.ref tp, .non] ∧ SqT K H tp (xs.map V.str) ∧ xs.length ≤ 1000 ∧ (∀ x ∈ xs, x.length < 19000 ∧ okS x ∧ ∃ v, valsOf (tl x) = some v) ∧ (∀ x ∈ xs, 2 ≤ (grpOf xs (toldS x)).length) ∧
  ∀ p (L : List Row3) H', Same H H' → H' p = some (.tup (L.map fun g => V.ref g.1)) → (∀ g ∈ L, ∃ q, H' g.1 = some (.tup [.str g.2.1, .ref q]) ∧ H' q = some (.tup (g.2.2.map V.str))) → L.length ≤ 1000 → (∀ g ∈ L, ∀ y ∈ g.2.2, y ∈ xs ∧ toldS y = g.2.1) → ((L.map (·.2.2)).flatten).Perm xs → Q (.ref p) H'
theorem ok_twins (D : DDef K mg "twins" sTwins) (GL : Glb K w mg) (F_told_form : FnAt P w K mg base CX0 "told_form" ["text", "without"] [] 6 spToldForm) : FnAt P w K mg base CX0 "twins" ["texts", "without"] [.non] 7 (spTwins K) := by
  obtain ⟨f, fd, hm, F⟩ := D.ex
  have G : FnOk P w K mg base CX0 7 f fd ["texts", "without"] (spTwins K) := by
    refine FunD.okN F scTwins (fun vs H Q E h => ?_) (fun cdv A outer s H vs Q E hr h => ?_)
    · obtain ⟨x, v, rfl, _⟩ := h
      rfl
    · obtain ⟨tp, xs, rfl, htp, hlen, hxs, htw, kk⟩ := h
      refine ⟨_, (pss_cons (ps_set (i := 2) scTwins.nd rfl (Or.inl rfl) pe_dnewK)
      (pss_cons (ps_for PassesOwn.never rfl (pi_tup (pv 0)) (pg_name (i := 3) scTwins.nd rfl (Or.inl rfl)) (pss_one (ps_expr (pe_bm PySem.F.plainAttrs_list PySem.F.slot_list_append PySem.F.type_list_append mt_append (pe_dsetd (pv 2) (pe_cf F_told_form (hr.mono (by decide)) pass0 (pa_cons (pv 3) (pa_cons (pv 1) pa_nil))) (pe_lst pa_nil) ⟨rfl, rfl, rfl, rfl⟩) (pa_cons (pv 3) pa_nil)))))
      (pss_one (ps_ret (pe_callTy (cr_tupOf (K := K)) (by rfl) GL.tuple (by decide +kernel) (pa_cons (pe_callB (cr_sortedG hr) (by rfl) GL.sorted (by decide +kernel) (pa_cons (pe_lock (pe_lc (own := [("form", 4), ("some", 5)]) (g := gTup K 2 (gCons (gName 4) (gCons (gName 5) gNil))) rfl scTwins.nd (pi_items (pv 2)) (blkOk_by (own := [("form", 4), ("some", 5)]) (N := NTwins) (sc := defScope sTwins) (by decide +kernel)) (fun _ _ _ _ _ => (by exact pg_tup rfl (pgs_cons (pg_name (i := 4) scTwins.nd rfl (Or.inl rfl)) (pgs_cons (pg_name (i := 5) scTwins.nd rfl (Or.inl rfl)) pgs_nil)))) (fun _ _ _ _ _ => pts_one (pt_cmpR op_gt (pe_callB (cr_lenSeq (K := K)) (by rfl) GL.len (by decide +kernel) (pa_cons (pv 5) pa_nil)) pe_int (nomark _))) (fun _ _ _ _ _ => (pe_tup (pa_cons (pv 4) (pa_cons (pe_callTy (cr_tupOf (K := K)) (by rfl) GL.tuple (by decide +kernel) (pa_cons (pv 5) pa_nil)) pa_nil)))))) pa_nil)) pa_nil)))))), ?_⟩
      refine fun d hd => ⟨_, rfl, tp, rfl, ⟨_, Same.seqT (Same.new (Same.refl H) hd) htp⟩, for_tup (K := K) (a := tp) (xs := xs.map V.str) (fun i σ H' => ∃ (u : Option V) (G : List TRow), σ = [some (.ref tp), some .non, some (.ref d), u, none, none] ∧ TwSt H H' d (xs.take i) G)
        ⟨_, [], rfl, ⟨upd_same, (fun g hg => by cases hg), List.nodup_nil, (fun g hg => by cases hg), hd, Same.new (Same.refl H) hd, gr_nil⟩⟩ (fun i σ H' _ ⟨_, _, _, t⟩ => Same.seqT t.same htp) ?_ ?_⟩
      · rintro i y σ H1 hi ⟨u, G, rfl, t⟩
        obtain ⟨x, hx, rfl⟩ := strs_at hi
        have hm : x ∈ xs := List.mem_of_getElem? hx
        obtain ⟨x1, x2, v, x3⟩ := hxs x hm
        have et : xs.take (i + 1) = xs.take i ++ [x] := by rw [List.take_add_one, hx]; rfl
        refine ⟨_, rfl, d, rfl, .inl ⟨_, .inl t.dk⟩, _, rfl, _, rfl, x, v, rfl, x1, x2, x3, fun r H2 s2 er => ⟨(show 0 ≤ sizeLine by decide), fun l hl => ?_⟩⟩
        have er2 := toldS_of x3 er
        subst er2
        have t2 := t.keep s2
        have il : i < xs.length := (List.getElem?_eq_some_iff.mp hx).1
        have gl : G.length ≤ i := by
          have := gr_len t.gr
          rw [List.length_map, List.length_take] at this
          omega
        have ld : d ≠ l := fun e => by have := t2.dk; rw [e, hl] at this; cases this
        refine ⟨tKvs G, .inr (toldS x), by rw [upd_ne ld]; exact t2.dk, rfl, by rw [List.length_map, sizeLine_eq]; omega, fun v' hv' => ?_, fun hn => ?_⟩
        · have hk : toldS x ∈ G.map (·.1) := by
            refine Classical.byContradiction fun hk => ?_
            rw [val_no hk] at hv'
            cases hv'
          have t3 := t2.keep (Same.new (o := .lst []) (Same.refl H2) hl)
          obtain ⟨g, hg, e0, ev⟩ := t3.val hk
          rw [ev] at hv'
          cases hv'
          have hl2 := t3.ls g hg
          have gl2 : g.2.2.length ≤ i := by
            have := (t3.gr.is (g.1, g.2.2) (List.mem_map.mpr ⟨g, hg, rfl⟩)).1
            have e2 : g.2.2 = grpOf (xs.take i) g.1 := this
            have := List.length_filter_le (fun x => decide (toldS x = g.1)) (xs.take i)
            rw [e2]
            rw [List.length_take] at this
            unfold grpOf
            omega
          refine ⟨.inl ⟨rfl, _, SqL.of hl2⟩, _, rfl, g.2.1, _, _, rfl, rfl, hl2, by rw [List.length_map, sizeLine_eq]; omega, ?_⟩
          refine ⟨_, G.map (addR (toldS x) x), rfl, ?_⟩
          have := t3.addOld hg e0
          rw [et]
          rw [List.map_append] at this
          exact this
        · have hk : toldS x ∉ G.map (·.1) := fun hk => by
            obtain ⟨g, hg, e0, ev⟩ := t2.val hk
            rw [ev] at hn
            cases hn
          have hl2 : upd (upd H2 l (.lst [])) d (.dK (putK (tKvs G) (.inr (toldS x)) (.ref l))) l = some (.lst []) := by rw [upd_ne (Ne.symm ld), upd_same]
          refine ⟨.inl ⟨rfl, _, SqL.of hl2⟩, _, rfl, l, _, _, rfl, rfl, hl2, (show 0 < sizeLine by decide), ?_⟩
          refine ⟨_, G ++ [(toldS x, l, [x])], rfl, ?_⟩
          have := t2.addNew hl hk
          rw [et, put_no (ys := [x]) hk]
          exact this
      · rintro σ H1 ⟨u, G, rfl, t⟩
        have ex : xs.take (xs.map V.str).length = xs := by rw [List.length_map, List.take_length]
        rw [ex] at t
        have gl : G.length ≤ 1000 := by
          have := gr_len t.gr
          rw [List.length_map] at this
          omega
        refine ⟨d, .dK (tKvs G), t.dk, True.intro, fun od => ⟨_, rfl, d, od, tKvs G, rfl, upd_same, fun D hD => lc_it walk_items
          (fun i H2 => ∃ R : List Row3, R.map (fun b => (b.2.1, b.2.2)) = (tGrp G).take i ∧ H2 D = some (.lst (R.map fun b => V.ref b.1)) ∧ (∀ b ∈ R, ∃ q, H2 b.1 = some (.tup [.str b.2.1, .ref q]) ∧ H2 q = some (.tup (b.2.2.map V.str))) ∧ Same (upd H1 d (.frz od (.dK (tKvs G)))) H2)
          ⟨[], rfl, upd_same, (fun b hb => by cases hb), Same.new (Same.refl _) hD⟩ (fun i H2 _ ⟨_, _, _, _, s⟩ => s _ _ upd_same) ?_ ?_⟩⟩
        · rintro i y H2 H3 hi ⟨R, eR, hD2, hR, s2⟩ ⟨T, kx, vx, rfl, hT, rfl, e1, e2⟩
          have hi2 : i < G.length := by rw [List.length_map] at hi; exact hi
          have hgi : G[i]? = some G[i] := List.getElem?_eq_getElem hi2
          have hgm : G[i] ∈ G := List.getElem_mem hi2
          have e1' : V.str (G[i]).1 = kx := by
            have : (tKvs G)[i]? = some (Sum.inr (G[i]).1, V.ref (G[i]).2.1) := by rw [List.getElem?_map, hgi]; rfl
            have e1b : ((tKvs G)[i]?).map (fun kv => kV kv.1) = some kx := e1
            rw [this] at e1b
            exact Option.some.inj e1b
          have e2' : V.ref (G[i]).2.1 = vx := by
            have : (tKvs G)[i]? = some (Sum.inr (G[i]).1, V.ref (G[i]).2.1) := by rw [List.getElem?_map, hgi]; rfl
            have e2b : ((tKvs G)[i]?).map Prod.snd = some vx := e2
            rw [this] at e2b
            exact Option.some.inj e2b
          subst e1' e2'
          have nd : (G[i]).2.1 ≠ d := fun e => by have := t.ls _ hgm; rw [e, t.dk] at this; cases this
          have hl2 : H2 (G[i]).2.1 = some (.lst ((G[i]).2.2.map V.str)) := s2 _ _ (by rw [upd_ne nd]; exact t.ls _ hgm)
          have hl3 : upd H2 T (.tup [.str (G[i]).1, .ref (G[i]).2.1]) (G[i]).2.1 = some (.lst ((G[i]).2.2.map V.str)) := by rw [upd_ne (ne_of_none hl2 hT)]; exact hl2
          have two : 2 ≤ (G[i]).2.2.length := by
            have h1 := t.gr.is ((G[i]).1, (G[i]).2.2) (List.mem_map.mpr ⟨_, hgm, rfl⟩)
            have h2 : (G[i]).2.2 = grpOf xs (G[i]).1 := h1.1
            have h3 : (G[i]).2.2 ≠ [] := h1.2
            obtain ⟨y, hy⟩ := List.exists_mem_of_ne_nil _ h3
            obtain ⟨h4, h5⟩ := t.gr.told (g := ((G[i]).1, (G[i]).2.2)) (List.mem_map.mpr ⟨_, hgm, rfl⟩) hy
            have := htw y h4
            rw [h5, ← h2] at this
            exact this
          refine ⟨T, _, rfl, SqT.of upd_same, rfl, _, _, rfl, _, _, rfl, rfl, rfl, ?_⟩
          refine ⟨_, rfl, (G[i]).2.1, _, rfl, .inl (SqL.of hl3), _, _, rfl, rfl, _, rfl, ?_⟩
          rw [decide_eq_true (by rw [List.length_map]; omega)]
          refine iteT ⟨_, rfl, _, rfl, (G[i]).2.1, _, rfl, .inl ⟨SqL.of hl3, fun q hq => ⟨(show 2 ≤ sizeLine by decide), fun tt ht => ?_⟩⟩⟩
          have s3 := Same.new (o := .tup [.str (G[i]).1, .ref q]) (Same.new (Same.new s2 hT) hq) ht
          have Rl : R.length ≤ i := by
            have := congrArg List.length eR
            rw [List.length_map, List.length_take] at this
            omega
          have up : ∀ {b : Addr} {o : HO}, H2 b = some o → upd (upd (upd H2 T (.tup [.str (G[i]).1, .ref (G[i]).2.1])) q (.tup ((G[i]).2.2.map V.str))) tt (.tup [.str (G[i]).1, .ref q]) b = some o := fun {b o} hb => by
            have b1 : b ≠ T := ne_of_none hb hT
            have hb1 : upd H2 T (.tup [.str (G[i]).1, .ref (G[i]).2.1]) b = some o := by rw [upd_ne b1]; exact hb
            have b2 : b ≠ q := ne_of_none hb1 hq
            have hb2 : upd (upd H2 T (.tup [.str (G[i]).1, .ref (G[i]).2.1])) q (.tup ((G[i]).2.2.map V.str)) b = some o := by rw [upd_ne b2]; exact hb1
            have b3 : b ≠ tt := ne_of_none hb2 ht
            rw [upd_ne b3]
            exact hb2
          have hD4 := up hD2
          have tD : tt ≠ D := fun e => by
            have b1 : D ≠ T := ne_of_none hD2 hT
            have hb1 : upd H2 T (.tup [.str (G[i]).1, .ref (G[i]).2.1]) D = some (.lst (R.map fun b => V.ref b.1)) := by rw [upd_ne b1]; exact hD2
            rw [e, upd_ne (ne_of_none hb1 hq), hb1] at ht
            cases ht
          have qt : q ≠ tt := fun e => by rw [← e, upd_same] at ht; cases ht
          have qD : q ≠ D := fun e => by
            have b1 : D ≠ T := ne_of_none hD2 hT
            rw [e, upd_ne b1, hD2] at hq
            cases hq
          refine ⟨_, hD4, by rw [List.length_map, sizeLine_eq]; omega, R ++ [(tt, (G[i]).1, (G[i]).2.2)], ?_, ?_, ?_, ?_⟩
          · rw [List.map_append, eR]
            have : (tGrp G).take (i + 1) = (tGrp G).take i ++ [((G[i]).1, (G[i]).2.2)] := by
              rw [List.take_add_one, List.getElem?_map, hgi]
              rfl
            rw [this]
            rfl
          · rw [upd_same, List.map_append]
            rfl
          · intro b hb
            rcases List.mem_append.mp hb with z | z
            · obtain ⟨q', h1, h2⟩ := hR b z
              have n1 : b.1 ≠ D := fun e => by rw [e, hD2] at h1; cases h1
              have n2 : q' ≠ D := fun e => by rw [e, hD2] at h2; cases h2
              exact ⟨q', by rw [upd_ne n1]; exact up h1, by rw [upd_ne n2]; exact up h2⟩
            · rw [List.mem_singleton.mp z]
              refine ⟨q, ?_, ?_⟩
              · show upd _ D _ tt = _
                rw [upd_ne tD, upd_same]
              · rw [upd_ne qD, upd_ne qt, upd_same]
          · exact Same.put s3 hD
        · rintro H2 ⟨R, eR, hD2, hR, s2⟩
          have eR2 : R.map (fun b => (b.2.1, b.2.2)) = tGrp G := by
            rw [eR]
            exact List.take_of_length_le (by rw [List.length_map, List.length_map]; exact Nat.le_refl _)
          have hd2 := s2 _ _ (upd_same (H := H1) (a := d))
          have Dd : D ≠ d := fun e => by rw [e, hd2] at hD2; cases hD2
          refine ⟨hd2, D, R, rfl, SqL.of (by rw [upd_ne Dd]; exact hD2), fun b hb => ?_, fun gs p hperm hp => ?_⟩
          · obtain ⟨q, h1, h2⟩ := hR b hb
            have n1 : b.1 ≠ d := fun e => by rw [e, hd2] at h1; cases h1
            have n2 : q ≠ d := fun e => by rw [e, hd2] at h2; cases h2
            exact ⟨q, SqT.of (by rw [upd_ne n1]; exact h1), SqT.of (by rw [upd_ne n2]; exact h2)⟩
          · refine ⟨p, _, rfl, .inl ⟨SqL.of upd_same, fun t' ht' => ?_⟩⟩
            have sH : Same H (upd H2 d (.dK (tKvs G))) := fun b o hb => by
              have hbd : b ≠ d := ne_of_none hb t.od
              rw [upd_ne hbd]
              exact s2 _ _ (by rw [upd_ne hbd]; exact t.same _ _ hb)
            refine kk t' gs _ (Same.new (Same.new sH hp) ht') upd_same (fun g hg => ?_) ?_ (fun g hg y hy => ?_) ?_
            · obtain ⟨q, h1, h2⟩ := hR g (hperm.mem_iff.mp hg)
              have n1 : g.1 ≠ d := fun e => by rw [e, hd2] at h1; cases h1
              have n2 : q ≠ d := fun e => by rw [e, hd2] at h2; cases h2
              have k1 : upd H2 d (.dK (tKvs G)) g.1 = some (.tup [.str g.2.1, .ref q]) := by rw [upd_ne n1]; exact h1
              have k2 : upd H2 d (.dK (tKvs G)) q = some (.tup (g.2.2.map V.str)) := by rw [upd_ne n2]; exact h2
              have m1 := ne_of_none k1 hp
              have m2 := ne_of_none k2 hp
              have k1' : upd (upd H2 d (.dK (tKvs G))) p (.lst (gs.map fun g => V.ref g.1)) g.1 = some (.tup [.str g.2.1, .ref q]) := by rw [upd_ne m1]; exact k1
              have k2' : upd (upd H2 d (.dK (tKvs G))) p (.lst (gs.map fun g => V.ref g.1)) q = some (.tup (g.2.2.map V.str)) := by rw [upd_ne m2]; exact k2
              exact ⟨q, by rw [upd_ne (ne_of_none k1' ht')]; exact k1', by rw [upd_ne (ne_of_none k2' ht')]; exact k2'⟩
            · have e1 := hperm.length_eq
              have e2 := congrArg List.length eR2
              rw [List.length_map, List.length_map] at e2
              omega
            · have hg2 := hperm.mem_iff.mp hg
              have hm2 : (g.2.1, g.2.2) ∈ tGrp G := by rw [← eR2]; exact List.mem_map.mpr ⟨g, hg2, rfl⟩
              exact t.gr.told hm2 hy
            · have e1 : ((gs.map (·.2.2)).flatten).Perm ((R.map (·.2.2)).flatten) := (hperm.map _).flatten
              refine e1.trans ?_
              have e2 : R.map (·.2.2) = (tGrp G).map (·.2) := by
                rw [← eR2, List.map_map]
                rfl
              rw [e2]
              exact t.gr.perm
  obtain ⟨ds, v1, b1⟩ := F.binds1 (ps := ["texts", "without"]) 1 0 (by decide) rfl (fun T kV doc pm an cdv ct us its h1 h2 => match us, h1, its, h2 with | [_], _, [_], _ => ⟨_, rfl, rfl⟩)
  exact ⟨f, fd, ds, hm, F.kp, b1, v1, G⟩
end Kp
namespace Kp
open PySem PySem.Spec PyProof.Rows L2 TL
variable {P : Program} {w : World} {K : PySem.W.Frag} {mg : Str → Option Value} {base : Heap}
/-! ### the pot -/
/-- m draws are left -/
def Pot (a l : Addr) (m : Nat) (H : Hp) : Prop := a ≠ l ∧ ∃ (b c d : Int) (ns : List Int), H a = some (.lst [.ref l, .int b, .int c, .int d]) ∧ H l = some (.lst (ns.map V.int)) ∧ ns.length ≤ 1000 ∧ 0 ≤ b ∧ 0 ≤ c ∧ c < 2305843009213693907 ∧ 0 ≤ d ∧ d + m ≤ 1000000
theorem Pot.same {a l : Addr} {m : Nat} {H H' : Hp} (p : Pot a l m H) (s : Same H H') : Pot a l m H' := by
  obtain ⟨ne, b, c, d, ns, h1, h2, h3⟩ := p
  exact ⟨ne, b, c, d, ns, s _ _ h1, s _ _ h2, h3⟩
theorem Pot.le {a l : Addr} {m m' : Nat} {H : Hp} (p : Pot a l m H) (h : m' ≤ m) : Pot a l m' H := by
  obtain ⟨ne, b, c, d, ns, h1, h2, h3, h4, h5, h6, h7, h8⟩ := p
  exact ⟨ne, b, c, d, ns, h1, h2, h3, h4, h5, h6, h7, by omega⟩
theorem Pot.put {a l p : Addr} {m : Nat} {H : Hp} {o : HO} (h : Pot a l m H) (pa : p ≠ a) (pl : p ≠ l) : Pot a l m (upd H p o) := by
  obtain ⟨ne, b, c, d, ns, h1, h2, h3⟩ := h
  exact ⟨ne, b, c, d, ns, by rw [upd_ne (Ne.symm pa)]; exact h1, by rw [upd_ne (Ne.symm pl)]; exact h2, h3⟩
theorem Pot.ne {a l p : Addr} {m : Nat} {H : Hp} (h : Pot a l m H) (hp : H p = none) : p ≠ a ∧ p ≠ l := by
  obtain ⟨ne, b, c, d, ns, h1, h2, h3⟩ := h
  exact ⟨(fun e => by rw [e, h1] at hp; cases hp), (fun e => by rw [e, h2] at hp; cases hp)⟩
theorem Pot.new {a l p : Addr} {m : Nat} {H : Hp} {o : HO} (h : Pot a l m H) (hp : H p = none) : Pot a l m (upd H p o) := h.put (h.ne hp).1 (h.ne hp).2
abbrev sPot : Stmt := top 28
abbrev NPot : List Str := ["_law_script"]
theorem scPot : FnScope NPot ["_law_script"] (defScope sPot) := ⟨rfl, rfl, rfl, by decide +kernel, rfl, by decide +kernel, by decide +kernel⟩
abbrev sDraw : Stmt := top 29
abbrev NDraw : List Str := ["_law_pot_here", "_law_many", "_law_cell", "_law_digit"]
theorem scDraw : FnScope NDraw ["_law_pot_here", "_law_many"] (defScope sDraw) := ⟨rfl, rfl, rfl, by decide +kernel, rfl, by decide +kernel, by decide +kernel⟩
def spPot (K : PySem.W.Frag) : Sp := fun vs H Q _ => ∃ (p : Addr) (ns : List Int), vs = [.ref p] ∧ SqL K H p (ns.map V.int) ∧ ns.length ≤ 1000 ∧ ∀ a l H', Same H H' → Pot a l 1000000 H' → Q (.ref a) H'
theorem ok_pot (D : DefAt K mg "_law_pot" sPot) (GL : Glb K w mg) : FnAt P w K mg base CX0 "_law_pot" ["_law_script"] [] 1 (spPot K) := by
  refine D.ok scPot (fun _ _ _ _ _ _ us hl => match us, hl with | [_], _ => rfl) (fun vs H Q E h => ?_) (fun f cdv A outer s H vs Q E hr h => ?_)
  · obtain ⟨p, ns, rfl, _⟩ := h
    rfl
  · obtain ⟨p, ns, rfl, hp, hl, k⟩ := h
    refine ⟨_, (pss_one (ps_ret (pe_lst (pa_cons (pe_callTy (cr_listOf (K := K)) (by rfl) GL.list (by decide +kernel) (pa_cons (pv 0) pa_nil)) (pa_cons pe_int (pa_cons pe_int (pa_cons pe_int pa_nil))))))), ?_⟩
    refine ⟨_, rfl, p, _, rfl, .inl hp, fun l hl' => ⟨(show 4 ≤ sizeLine by decide), fun a ha => ?_⟩⟩
    have al : l ≠ a := fun e => by rw [← e, upd_same] at ha; cases ha
    refine k a l _ (Same.new (Same.new (Same.refl H) hl') ha) ⟨Ne.symm al, 0, 3, 0, ns, upd_same, ?_, hl, by decide, by decide, by decide, by decide, by decide⟩
    rw [upd_ne al, upd_same]
def spDraw : Sp := fun vs H Q _ => ∃ (a l : Addr) (n m : Nat), vs = [.ref a, .int (n : Nat)] ∧ 1 ≤ n ∧ n ≤ 1000000 ∧ 1 ≤ m ∧ Pot a l m H ∧ ∀ (r : Nat) H', r < n → Kept [a, l] H H' → Pot a l (m - 1) H' → Q (.int (r : Nat)) H'
theorem dp_ints {H : Hp} : ∀ ns : List Int, DpAll K H (ns.map V.int) (ns.map .int)
  | [] => .nil
  | n :: r => .cons (.int n) (dp_ints r)
theorem shaped_ints (ns : List Int) : SeqAt.shaped (.list (ns.map .int)) = true := by
  have h1 : ∀ ns : List Int, PyData.canLayAll0 (ns.map .int) = true := by
    intro ns
    induction ns with
    | nil => rfl
    | cons n r ih => show (PyData.canLay0 (.int n) && _) = true; rw [ih]; rfl
  unfold SeqAt.shaped
  have e1 : PyData.canLay0 (.list (ns.map .int)) = PyData.canLayAll0 (ns.map .int) := by simp [PyData.canLay0]
  have d1 : PyData.depth (.list (ns.map .int)) ≤ 64 := by simp only [PyData.depth, PySem.W.depth_ints]; decide
  rw [e1, h1, decide_eq_true d1]
  rfl
theorem ok_draw (D : DefAt K mg "_law_draw" sDraw) (GL : Glb K w mg) (F__law_blend : FnAt P w K mg base CX0 "_law_blend" ["_law_number", "_law_turn"] [] 1 spBlend) : FnAt P w K mg base CX0 "_law_draw" ["_law_pot_here", "_law_many"] [] 2 spDraw := by
  refine D.ok scDraw (fun _ _ _ _ _ _ us hl => match us, hl with | [_, _], _ => rfl) (fun vs H Q E h => ?_) (fun f cdv A outer s H vs Q E hr h => ?_)
  · obtain ⟨a, l, n, m, rfl, _⟩ := h
    rfl
  · obtain ⟨a, l, n, m, rfl, hn, hn2, hm, ⟨al, b, c, d, ns, ha, hl, h3, h4, h5, h6, h7, h8⟩, k⟩ := h
    refine ⟨_, (pss_cons (ps_asg (pe_op op_add (pe_ix (ix_listK (K := K)) (pv 0) pe_int (fun _ _ => rfl)) pe_int) (pg_sub (pv 0) pe_int set_list))
      (C8.pss_cut (ps_if (PW.pt (pw_and (pt_cmpR op_eq (pe_ix (ix_listK (K := K)) (pv 0) pe_int (fun _ _ => rfl)) pe_int (nomark _)) (pw_and1 (pt_cmpR (op_neD hr.units) (pe_ix (ix_listK (K := K)) (pv 0) pe_int (fun _ _ => rfl)) (pe_lst pa_nil) (nomark _))))) (pss_cons (ps_set (i := 2) scDraw.nd rfl (Or.inl rfl) (pe_bm PySem.F.plainAttrs_list PySem.F.slot_list_pop PySem.F.type_list_pop mt_popAt (pe_ix (ix_listK (K := K)) (pv 0) pe_int (fun _ _ => rfl)) (pa_cons pe_int pa_nil)))
      (pss_cons (ps_asg (pe_cf F__law_blend (hr.mono (by decide)) pass0 (pa_cons (pe_op op_add (pe_ix (ix_listK (K := K)) (pv 0) pe_int (fun _ _ => rfl)) (pv 2)) (pa_cons (pe_callB (cr_lenSeq (K := K)) (by rfl) GL.len (by decide +kernel) (pa_cons (pe_ix (ix_listK (K := K)) (pv 0) pe_int (fun _ _ => rfl)) pa_nil)) pa_nil))) (pg_sub (pv 0) pe_int set_list))
      (pss_one (ps_if (pt_cmpR op_ge (pe_callB call_abs (by rfl) GL.abs (by decide +kernel) (pa_cons (pv 2) pa_nil)) (pe_op op_pow pe_int pe_int) (nomark _)) (pss_one (ps_asg (pe_callB call_abs (by rfl) GL.abs (by decide +kernel) (pa_cons (pv 2) pa_nil)) (pg_sub (pv 0) pe_int set_list))) pss_nil)))) pss_nil)
      (pss_cons (ps_if (pt_cmpR op_gt (pe_ix (ix_listK (K := K)) (pv 0) pe_int (fun _ _ => rfl)) pe_int (nomark _)) (pss_cons (ps_set (i := 3) scDraw.nd rfl (Or.inl rfl) (pe_op op_mod (pe_ix (ix_listK (K := K)) (pv 0) pe_int (fun _ _ => rfl)) (pv 1)))
      (pss_cons (ps_asg (pe_op op_fdiv (pe_ix (ix_listK (K := K)) (pv 0) pe_int (fun _ _ => rfl)) (pv 1)) (pg_sub (pv 0) pe_int set_list))
      (pss_one (ps_ret (pv 3))))) pss_nil)
      (pss_one (ps_ret (pe_op op_mod (pe_op op_fdiv (pe_cf F__law_blend (hr.mono (by decide)) pass0 (pa_cons (pe_ix (ix_listK (K := K)) (pv 0) pe_int (fun _ _ => rfl)) (pa_cons (pe_ix (ix_listK (K := K)) (pv 0) pe_int (fun _ _ => rfl)) pa_nil))) pe_int) (pv 1))))))), ?_⟩
    refine ⟨_, rfl, a, _, 3, _, rfl, rfl, SqL.of ha, atI_nat (j := 3) rfl, _, _, rfl, rfl, ?_⟩
    refine ⟨_, rfl, a, _, 3, 3, rfl, rfl, ha, rfl, ?_⟩
    have hl1 : upd H a (.lst ([V.ref l, .int b, .int c, .int d].set 3 (.int (d + 1)))) l = some (.lst (ns.map V.int)) := by rw [upd_ne (Ne.symm al)]; exact hl
    have K1 : Kept [a, l] H (upd H a (.lst ([V.ref l, .int b, .int c, .int d].set 3 (.int (d + 1))))) := Kept.refl.put (.inl (by simp))
    generalize hH1 : upd H a (.lst ([V.ref l, .int b, .int c, .int d].set 3 (.int (d + 1)))) = H1 at hl1 K1
    have ha1 : H1 a = some (.lst [.ref l, .int b, .int c, .int (d + 1)]) := by rw [← hH1]; exact upd_same
    refine ⟨fun σ H' => ∃ (u : Option V) (b' c' : Int) (ns' : List Int), σ = [some (.ref a), some (.int (n : Nat)), u, none] ∧ Kept [a, l] H H' ∧ H' a = some (.lst [.ref l, .int b', .int c', .int (d + 1)]) ∧ H' l = some (.lst (ns'.map V.int)) ∧ ns'.length ≤ 1000 ∧ 0 ≤ b' ∧ 0 ≤ c' ∧ c' < 2305843009213693907, ?_, ?_⟩
    · refine ⟨_, rfl, a, _, 1, _, rfl, rfl, SqL.of ha1, atI_nat (j := 1) rfl, rfl, _, rfl, ?_⟩
      have eb : decide (V.int b = V.int 0) = decide (b = 0) := decide_eq_decide.mpr ⟨fun e => V.int.inj e, fun e => by rw [e]⟩
      rw [eb]
      by_cases hb : b = 0
      · rw [decide_eq_true hb]
        refine iteT ⟨_, rfl, a, _, 0, _, rfl, rfl, SqL.of ha1, atI_nat (j := 0) rfl, (show 0 ≤ sizeLine by decide), fun e he => ?_⟩
        have le : l ≠ e := ne_of_none hl1 he
        have ae : a ≠ e := ne_of_none ha1 he
        have hl2 : upd H1 e (.lst []) l = some (.lst (ns.map V.int)) := by rw [upd_ne le]; exact hl1
        have ha2 : upd H1 e (.lst []) a = some (.lst [.ref l, .int b, .int c, .int (d + 1)]) := by rw [upd_ne ae]; exact ha1
        have K2 : Kept [a, l] H (upd H1 e (.lst [])) := K1.new he
        refine ⟨_, _, Dp.lst (SqL.of hl2) (dp_ints ns), Dp.lst (SqL.of upd_same) .nil, shaped_ints ns, by decide +kernel, _, rfl, ?_⟩
        generalize upd H1 e (.lst []) = H2 at hl2 ha2 K2
        have en : (!PyData.eqv (.list (ns.map .int)) (.list [])) = !ns.isEmpty := by
          show (!PyData.eqvAll (ns.map .int) []) = _
          rw [eqv_nil, isEmpty_map]
        rw [en]
        cases ns with
        | nil => exact iteF ⟨_, b, c, [], rfl, K2, ha2, hl2, h3, h4, h5, h6⟩
        | cons x r =>
          refine iteT ⟨_, rfl, a, _, 0, _, rfl, rfl, SqL.of ha2, atI_nat (j := 0) rfl, .inl ⟨rfl, _, SqL.of hl2⟩, l, _, 0, 0, _, rfl, rfl, hl2, by decide, by decide, ?_, rfl, ?_⟩
          · simp [seqIndex?]
          · have hl4 : upd H2 l (.lst (((x :: r).map V.int).eraseIdx 0)) l = some (.lst (r.map V.int)) := upd_same
            have ha4 : upd H2 l (.lst (((x :: r).map V.int).eraseIdx 0)) a = some (.lst [.ref l, .int b, .int c, .int (d + 1)]) := by rw [upd_ne al]; exact ha2
            have K4 : Kept [a, l] H (upd H2 l (.lst (((x :: r).map V.int).eraseIdx 0))) := K2.put (.inl (by simp))
            generalize upd H2 l (.lst (((x :: r).map V.int).eraseIdx 0)) = H4 at hl4 ha4 K4
            simp only [List.length_cons] at h3
            refine ⟨_, rfl, a, _, 2, _, rfl, rfl, SqL.of ha4, atI_nat (j := 2) rfl, _, rfl, _, _, rfl, rfl, _, rfl, a, _, 0, _, rfl, rfl, SqL.of ha4, atI_nat (j := 0) rfl, l, _, rfl, .inl (SqL.of hl4), _, _, rfl, by omega, by rw [List.length_map]; omega, fun y hy0 hy1 => ⟨_, rfl, a, _, 2, 2, rfl, rfl, ha4, rfl, ?_⟩⟩
            have hl5 : upd H4 a (.lst ([V.ref l, .int b, .int c, .int (d + 1)].set 2 (.int y))) l = some (.lst (r.map V.int)) := by rw [upd_ne (Ne.symm al)]; exact hl4
            have ha5 : upd H4 a (.lst ([V.ref l, .int b, .int c, .int (d + 1)].set 2 (.int y))) a = some (.lst [.ref l, .int b, .int y, .int (d + 1)]) := upd_same
            have K5 : Kept [a, l] H (upd H4 a (.lst ([V.ref l, .int b, .int c, .int (d + 1)].set 2 (.int y)))) := K4.put (.inl (by simp))
            generalize upd H4 a (.lst ([V.ref l, .int b, .int c, .int (d + 1)].set 2 (.int y))) = H5 at hl5 ha5 K5
            refine ⟨_, rfl, _, rfl, _, _, rfl, rfl, ⟨by decide, by decide, by decide⟩, _, _, rfl, rfl, _, rfl, ?_⟩
            cases decide ((10 : Int) ^ (18 : Int).toNat ≤ if x < 0 then -x else x) with
            | false => exact iteF ⟨_, b, y, r, rfl, K5, ha5, hl5, by omega, h4, hy0, hy1⟩
            | true =>
              refine iteT ⟨_, rfl, _, rfl, _, rfl, a, _, 1, 1, rfl, rfl, ha5, rfl, ?_⟩
              refine ⟨_, if x < 0 then -x else x, y, r, rfl, K5.put (.inl (by simp)), upd_same, by rw [upd_ne (Ne.symm al)]; exact hl5, by omega, ?_, hy0, hy1⟩
              split <;> omega
      · rw [decide_eq_false hb]
        exact iteF (iteF ⟨_, b, c, ns, rfl, K1, ha1, hl1, h3, h4, h5, h6⟩)
    · rintro σ H2 ⟨u, b', c', ns', rfl, K2, ha2, hl2, g3, g4, g5, g6⟩
      refine ⟨_, rfl, a, _, 1, _, rfl, rfl, SqL.of ha2, atI_nat (j := 1) rfl, _, _, rfl, rfl, _, rfl, ?_⟩
      by_cases hb : 0 < b'
      · rw [decide_eq_true hb]
        refine iteT ⟨_, rfl, a, _, 1, _, rfl, rfl, SqL.of ha2, atI_nat (j := 1) rfl, _, rfl, _, _, rfl, rfl, (by show (0 : Int) < n; omega), ?_⟩
        refine ⟨_, rfl, a, _, 1, _, rfl, rfl, SqL.of ha2, atI_nat (j := 1) rfl, _, rfl, _, _, rfl, rfl, ⟨by omega, by omega⟩, _, rfl, a, _, 1, 1, rfl, rfl, ha2, rfl, ?_⟩
        have r0 := Int.emod_nonneg b' (show (n : Int) ≠ 0 by omega)
        have r1 := Int.emod_lt_of_pos b' (show (0 : Int) < n by omega)
        refine ⟨_, rfl, ?_⟩
        have er : b' % (n : Int) = ((b' % (n : Int)).toNat : Nat) := by omega
        have q := k (b' % (n : Int)).toNat _ (by omega) (K2.put (.inl (by simp))) ⟨al, b' / n, c', d + 1, ns', upd_same, by rw [upd_ne (Ne.symm al)]; exact hl2, g3, Int.ediv_nonneg g4 (by omega), g5, g6, by omega, by omega⟩
        rw [← er] at q
        exact q
      · rw [decide_eq_false hb]
        refine iteF ⟨_, rfl, a, _, 2, _, rfl, rfl, SqL.of ha2, atI_nat (j := 2) rfl, _, rfl, a, _, 3, _, rfl, rfl, SqL.of ha2, atI_nat (j := 3) rfl, _, _, rfl, by omega, by omega, fun y hy0 hy1 => ?_⟩
        refine ⟨_, _, rfl, rfl, ⟨by decide, by decide⟩, _, rfl, _, _, rfl, rfl, (by show (0 : Int) < n; omega), ?_⟩
        have r0 := Int.emod_nonneg (y / 7) (show (n : Int) ≠ 0 by omega)
        have r1 := Int.emod_lt_of_pos (y / 7) (show (0 : Int) < n by omega)
        have er : y / 7 % (n : Int) = ((y / 7 % (n : Int)).toNat : Nat) := by omega
        have q := k (y / 7 % (n : Int)).toNat _ (by omega) K2 ⟨al, b', c', d + 1, ns', ha2, hl2, g3, g4, g5, g6, by omega, by omega⟩
        rw [← er] at q
        exact q
end Kp
namespace Kp
open PySem PySem.Spec PyProof.Rows L2 TL
variable {P : Program} {w : World} {K : PySem.W.Frag} {mg : Str → Option Value} {base : Heap}
abbrev sPick : Stmt := top 30
abbrev NPick : List Str := ["_law_pot_here", "_law_some"]
theorem scPick : FnScope NPick ["_law_pot_here", "_law_some"] (defScope sPick) := ⟨rfl, rfl, rfl, by decide +kernel, rfl, by decide +kernel, by decide +kernel⟩
abbrev sPlain : Stmt := top 31
abbrev NPlain : List Str := []
theorem scPlain : FnScope NPlain [] (defScope sPlain) := ⟨rfl, rfl, rfl, by decide +kernel, rfl, by decide +kernel, by decide +kernel⟩
abbrev sCode : Stmt := top 32
abbrev NCode : List Str := ["_law_number"]
theorem scCode : FnScope NCode ["_law_number"] (defScope sCode) := ⟨rfl, rfl, rfl, by decide +kernel, rfl, by decide +kernel, by decide +kernel⟩
abbrev sNumOf : Stmt := top 33
abbrev NNumOf : List Str := ["_law_sign", "_law_signs"]
theorem scNumOf : FnScope NNumOf ["_law_sign"] (defScope sNumOf) := ⟨rfl, rfl, rfl, by decide +kernel, rfl, by decide +kernel, by decide +kernel⟩
def spPick : Sp := fun vs H Q _ => ∃ (a l : Addr) (m : Nat), 1 ≤ m ∧ Pot a l m H ∧
  ((∃ z : Str, vs = [.ref a, .str z] ∧ 1 ≤ z.length ∧ z.length ≤ 100000 ∧ ∀ (c : Nat) H', c ∈ tl z → Kept [a, l] H H' → Pot a l (m - 1) H' → Q (.str ⟨#[c]⟩) H') ∨
    ∃ (p : Addr) (xs : List V), vs = [.ref a, .ref p] ∧ p ≠ a ∧ p ≠ l ∧ H p = some (.lst xs) ∧ xs ≠ [] ∧ xs.length ≤ 100000 ∧ ∀ (v : V) H', v ∈ xs → Kept [a, l] H H' → Pot a l (m - 1) H' → Q v H')
theorem ok_pick (D : DefAt K mg "_law_pick" sPick) (GL : Glb K w mg) (F__law_draw : FnAt P w K mg base CX0 "_law_draw" ["_law_pot_here", "_law_many"] [] 2 spDraw) : FnAt P w K mg base CX0 "_law_pick" ["_law_pot_here", "_law_some"] [] 3 spPick := by
  refine D.ok scPick (fun _ _ _ _ _ _ us hl => match us, hl with | [_, _], _ => rfl) (fun vs H Q E h => ?_) (fun f cdv A outer s H vs Q E hr h => ?_)
  · obtain ⟨a, l, m, _, _, ⟨z, rfl, _⟩ | ⟨p, xs, rfl, _⟩⟩ := h <;> rfl
  · obtain ⟨a, l, m, hm, pot, ⟨z, rfl, z1, z2, k⟩ | ⟨p, xs, rfl, pa, pl, hp, xne, x2, k⟩⟩ := h
    · refine ⟨_, (pss_one (ps_ret (pe_ix ix_seq (pv 1) (pe_cf F__law_draw (hr.mono (by decide)) pass0 (pa_cons (pv 0) (pa_cons (pe_callB call_len (by rfl) GL.len (by decide +kernel) (pa_cons (pv 1) pa_nil)) pa_nil))) (fun _ _ => rfl)))), ?_⟩
      refine ⟨_, rfl, _, rfl, _, rfl, _, _, rfl, ⟨by rw [sizeLine_eq]; omega, rfl⟩, a, l, z.length, m, rfl, z1, by omega, hm, pot, fun r H' hr' K1 pot' => ?_⟩
      have hl := len_tl z
      have hr2 : r < (tl z).length := by omega
      exact .inr (.inr ⟨z, _, (tl z)[r], rfl, rfl, by rw [sizeLine_eq]; omega, atI_nat (j := r) (List.getElem?_eq_getElem hr2), k _ H' (List.getElem_mem hr2) K1 pot'⟩)
    · refine ⟨_, (pss_one (ps_ret (pe_ix ix_seq (pv 1) (pe_cf F__law_draw (hr.mono (by decide)) pass0 (pa_cons (pv 0) (pa_cons (pe_callB call_len (by rfl) GL.len (by decide +kernel) (pa_cons (pv 1) pa_nil)) pa_nil))) (fun _ _ => rfl)))), ?_⟩
      have hx : 1 ≤ xs.length := List.length_pos_iff.mpr xne
      refine ⟨_, rfl, _, rfl, _, rfl, _, _, rfl, .inl ⟨xs, SqL.of hp, rfl⟩, a, l, xs.length, m, rfl, hx, by omega, hm, pot, fun r H' hr' K1 pot' => ?_⟩
      have hp' := K1 p _ (by simp [pa, pl]) hp
      exact .inl ⟨p, xs, _, xs[r], rfl, rfl, SqL.of hp', atI_nat (j := r) (List.getElem?_eq_getElem hr'), k _ H' (List.getElem_mem hr') K1 pot'⟩
abbrev plainL : Tx := [97, 98, 99, 100, 101, 102, 103, 104, 105, 106, 107, 108, 109, 110, 111, 112, 113, 114, 115, 116, 117, 118, 119, 120, 121, 122, 65, 66, 67, 68, 69, 70, 71, 72, 73, 74, 75, 76, 77, 78, 79, 80, 81, 82, 83, 84, 85, 86, 87, 88, 89, 90, 48, 49, 50, 51, 52, 53, 54, 55, 56, 57, 45, 46, 95]
theorem plainL_all : ∀ c ∈ plainL, plainC c = true := by decide
theorem plainL_has {c : Nat} (h : plainC c = true) : c ∈ plainL := by
  have hb : c < 128 := by have := plain_bound h; omega
  have : ∀ c : Nat, c < 128 → plainC c = true → c ∈ plainL := by decide +kernel
  exact this c hb h
def spPlain : Sp := fun vs H Q _ => vs = [] ∧ ∀ r, tl r = plainL → Q (.str r) H
theorem ok_plain (D : DefAt K mg "_law_plain" sPlain) : FnAt P w K mg base CX0 "_law_plain" [] [] 1 spPlain := by
  refine D.ok scPlain (fun _ _ _ _ _ _ us hl => match us, hl with | [], _ => rfl) (fun vs H Q E h => ?_) (fun f cdv A outer s H vs Q E hr h => ?_)
  · obtain ⟨rfl, _⟩ := h
    rfl
  · obtain ⟨rfl, k⟩ := h
    refine ⟨_, (pss_one (ps_ret (pe_op op_add_str (pe_op op_add_str pe_str pe_str) pe_str))), ?_⟩
    exact ⟨_, _, rfl, rfl, by decide +kernel, _, _, rfl, rfl, by decide +kernel, k _ (by decide +kernel)⟩
def spCode : Sp := fun vs H Q _ => ∃ n : Nat, vs = [.int (n : Nat)] ∧ n < 256 ∧ ∀ r x y, tl r = [x, y] → shexC x = true → shexC y = true → hx2 x y = n → Q (.str r) H
def hexd (i : Nat) : Nat := if i < 10 then 48 + i else 87 + i
theorem hexd_at : ∀ i : Nat, i < 16 → (tl (Str.ofString "0123456789abcdef"))[i]? = some (hexd i) ∧ shexC (hexd i) = true ∧ Hx.hv (hexd i) = i := by decide +kernel
theorem ok_code (D : DefAt K mg "_law_code" sCode) : FnAt P w K mg base CX0 "_law_code" ["_law_number"] [] 1 spCode := by
  refine D.ok scCode (fun _ _ _ _ _ _ us hl => match us, hl with | [_], _ => rfl) (fun vs H Q E h => ?_) (fun f cdv A outer s H vs Q E hr h => ?_)
  · obtain ⟨n, rfl, _⟩ := h
    rfl
  · obtain ⟨n, rfl, hn, k⟩ := h
    refine ⟨_, (pss_one (ps_ret (pe_op op_add_str (pe_ix ix_str pe_str (pe_op op_fdiv (pv 0) pe_int) (fun _ _ => rfl)) (pe_ix ix_str pe_str (pe_op op_mod (pv 0) pe_int) (fun _ _ => rfl))))), ?_⟩
    obtain ⟨a1, a2, a3⟩ := hexd_at (n / 16) (by omega)
    obtain ⟨b1, b2, b3⟩ := hexd_at (n % 16) (by omega)
    have e1 : ((n : Int) / 16) = ((n / 16 : Nat) : Int) := by omega
    have e2 : ((n : Int) % 16) = ((n % 16 : Nat) : Int) := by omega
    refine ⟨_, rfl, _, _, rfl, rfl, ⟨by decide, by decide⟩, _, _, hexd (n / 16), rfl, rfl, by decide +kernel, (by rw [e1]; exact atI_nat a1), ?_⟩
    refine ⟨_, rfl, _, _, rfl, rfl, (by show (0 : Int) < 16; decide), _, _, hexd (n % 16), rfl, rfl, by decide +kernel, (by rw [e2]; exact atI_nat b1), _, _, rfl, rfl, (by show 2 ≤ sizeLine; decide), k _ (hexd (n / 16)) (hexd (n % 16)) rfl a2 b2 ?_⟩
    unfold hx2 Hx.hexNum
    show (0 * 16 + Hx.hv (hexd (n / 16))) * 16 + Hx.hv (hexd (n % 16)) = n
    rw [a3, b3]
    omega
def spNumOf : Sp := fun vs H Q _ => ∃ c : Nat, vs = [.str ⟨#[c]⟩] ∧ plainC c = true ∧ Q (.int (c : Nat)) H
theorem num_at : ∀ c : Nat, c < 128 → plainC c = true → Txt.index0 (Str.ofString " !\"#$ &'()*+,-./0123456789:;<=>?@ABCDEFGHIJKLMNOPQRSTUVWXYZ[\\]^_`" ++ Str.ofString "abcdefghijklmnopqrstuvwxyz{|}~") ⟨#[c]⟩ = some (c - 32) := by decide +kernel
theorem ok_number_of (D : DefAt K mg "_law_number_of" sNumOf) : FnAt P w K mg base CX0 "_law_number_of" ["_law_sign"] [] 1 spNumOf := by
  refine D.ok scNumOf (fun _ _ _ _ _ _ us hl => match us, hl with | [_], _ => rfl) (fun vs H Q E h => ?_) (fun f cdv A outer s H vs Q E hr h => ?_)
  · obtain ⟨n, rfl, _⟩ := h
    rfl
  · obtain ⟨c, rfl, hc, k⟩ := h
    refine ⟨_, (pss_cons (ps_set (i := 1) scNumOf.nd rfl (Or.inl rfl) pe_str)
      (pss_one (ps_ret (pe_op op_add pe_int (pe_bm PySem.F.plainAttrs_str PySem.F.slot_str_index PySem.F.type_str_index mt_index1 (pe_op op_add_str (pv 1) pe_str) (pa_cons (pv 0) pa_nil)))))), ?_⟩
    have hb := plain_bound hc
    refine ⟨_, rfl, _, _, rfl, rfl, by decide +kernel, rfl, _, rfl, _, _, c - 32, rfl, rfl, num_at c (by omega) hc, _, _, rfl, rfl, ?_⟩
    have e : (32 : Int) + ((c - 32 : Nat) : Int) = (c : Nat) := by omega
    have q := k
    rw [← e] at q
    exact q
/-! ### atoms -/
abbrev sAtom : Stmt := top 34
abbrev NAtom : List Str := ["_law_pot_here", "_law_others", "_law_way_here", "_law_number", "_law_sign"]
theorem scAtom : FnScope NAtom ["_law_pot_here", "_law_others"] (defScope sAtom) := ⟨rfl, rfl, rfl, by decide +kernel, rfl, by decide +kernel, by decide +kernel⟩
/-- what stands behind the signs: of parts, of asks -/
def Oth (B : Tx) (o : Str) : Prop := (B = BP ∧ tl o = [38, 34]) ∨ (B = BA ∧ tl o = [63, 47, 34])
def spAtom : Sp := fun vs H Q _ => ∃ (a l : Addr) (m : Nat) (o : Str) (B : Tx), vs = [.ref a, .str o] ∧ Oth B o ∧ 2 ≤ m ∧ Pot a l m H ∧ ∀ r H', Atm B (tl r) → Kept [a, l] H H' → Pot a l (m - 2) H' → Q (.str r) H'
def stepsN (n : Nat) : Nat := (List.range 64).findIdx fun k => !plainC ((n + 37 * k) % 256)
theorem steps_down : ∀ n : Nat, n < 256 → plainC n = true → stepsN ((n + 37) % 256) < stepsN n := by decide +kernel
theorem atm_sign {B : Tx} {c : Nat} (h1 : 33 ≤ c) (h2 : c ≤ 125) (h3 : c ∉ B) : Atm B (tl (⟨#[c]⟩ : Str)) := .inl ⟨c, rfl, h1, h2, h3⟩
theorem plain_free {B : Tx} (hB : B = BP ∨ B = BA) {c : Nat} (h : plainC c = true) : c ∉ B := by
  rw [plainC_iff] at h
  rcases hB with e | e <;> rw [e] <;> simp <;> omega
theorem ok_atom (D : DefAt K mg "_law_atom" sAtom) (GL : Glb K w mg) (F__law_draw : FnAt P w K mg base CX0 "_law_draw" ["_law_pot_here", "_law_many"] [] 2 spDraw) (F__law_pick : FnAt P w K mg base CX0 "_law_pick" ["_law_pot_here", "_law_some"] [] 3 spPick)
    (F__law_plain : FnAt P w K mg base CX0 "_law_plain" [] [] 1 spPlain) (F__law_code : FnAt P w K mg base CX0 "_law_code" ["_law_number"] [] 1 spCode) (F__law_number_of : FnAt P w K mg base CX0 "_law_number_of" ["_law_sign"] [] 1 spNumOf) :
    FnAt P w K mg base CX0 "_law_atom" ["_law_pot_here", "_law_others"] [] 4 spAtom := by
  refine D.ok scAtom (fun _ _ _ _ _ _ us hl => match us, hl with | [_, _], _ => rfl) (fun vs H Q E h => ?_) (fun f cdv A outer s H vs Q E hr h => ?_)
  · obtain ⟨a, l, m, o, B, rfl, _⟩ := h
    rfl
  · obtain ⟨a, l, m, o, B, rfl, ho, hm, pot, k⟩ := h
    refine ⟨_, (pss_cons (ps_set (i := 2) scAtom.nd rfl (Or.inl rfl) (pe_cf F__law_draw (hr.mono (by decide)) pass0 (pa_cons (pv 0) (pa_cons pe_int pa_nil))))
      (pss_cons (ps_if (pt_cmpR op_lt (pv 2) pe_int (nomark _)) (pss_one (ps_ret (pe_cf F__law_pick (hr.mono (by decide)) pass0 (pa_cons (pv 0) (pa_cons (pe_cf0 F__law_plain (hr.mono (by decide)) pass0) pa_nil))))) pss_nil)
      (pss_cons (ps_if (pt_cmpR op_eq (pv 2) pe_int (nomark _)) (pss_one (ps_ret (pe_cf F__law_pick (hr.mono (by decide)) pass0 (pa_cons (pv 0) (pa_cons (pe_op op_add_str pe_str (pe_slice sl_str (pv 1) po_none (po_some pe_int))) pa_nil))))) pss_nil)
      (pss_cons (ps_if (pt_cmpR op_eq (pv 2) pe_int (nomark _)) (pss_one (ps_ret (pe_cf F__law_pick (hr.mono (by decide)) pass0 (pa_cons (pv 0) (pa_cons (pe_op op_add_str pe_str (pv 1)) pa_nil))))) pss_nil)
      (pss_cons (ps_set (i := 3) scAtom.nd rfl (Or.inl rfl) (pe_cf F__law_draw (hr.mono (by decide)) pass0 (pa_cons (pv 0) (pa_cons pe_int pa_nil))))
      (pss_cons (ps_while PassesOwn.never (pt_cmpR op_in_seq (pv 3) (pe_lc (own := [("_law_sign", 4)]) (g := gName 4) rfl scAtom.nd (pi_str (pe_cf0 F__law_plain (hr.mono (by decide)) pass0)) (blkOk_by (own := [("_law_sign", 4)]) (N := NAtom) (sc := defScope sAtom) (by decide +kernel)) (fun _ _ _ _ _ => pg_name (i := 4) scAtom.nd rfl (Or.inl rfl)) (fun _ _ _ _ _ => pts_nil) (fun _ _ _ _ _ => (pe_cf F__law_number_of (hr.mono (by decide)) pass0 (pa_cons (pv 4) pa_nil)))) (by rfl)) (pss_one (ps_set (i := 3) scAtom.nd rfl (Or.inl rfl) (pe_op op_mod (pe_op op_add (pv 3) pe_int) pe_int))))
      (pss_one (ps_ret (pe_op op_add_str pe_str (pe_cf F__law_code (hr.mono (by decide)) pass0 (pa_cons (pv 3) pa_nil))))))))))), ?_⟩
    have hB : B = BP ∨ B = BA := ho.elim (fun h => .inl h.1) fun h => .inr h.1
    have lo := len_tl o
    have lo3 : (tl o).length ≤ 3 := by rcases ho with ⟨_, e⟩ | ⟨_, e⟩ <;> rw [e] <;> simp
    refine ⟨_, rfl, a, l, 6, m, rfl, by decide, by decide, by omega, pot, fun r H1 hr1 K1 pot1 => ?_⟩
    refine ⟨_, rfl, _, _, rfl, rfl, _, rfl, ?_⟩
    have e3 : decide ((r : Int) < 3) = decide (r < 3) := decide_eq_decide.mpr (by omega)
    rw [e3]
    by_cases q1 : r < 3
    · rw [decide_eq_true q1]
      refine iteT ⟨_, rfl, rfl, fun z hz => ⟨a, l, m - 1, by omega, pot1, .inl ⟨z, rfl, ?_, ?_, fun c H2 hc K2 pot2 => ?_⟩⟩⟩
      · rw [len_tl, hz]; decide
      · rw [len_tl, hz]; decide
      · rw [hz] at hc
        have hp := plainL_all c hc
        have hb := plain_bound hp
        exact k _ H2 (atm_sign hb.1 hb.2 (plain_free hB hp)) (K1.trans K2) (pot2.le (by omega))
    · rw [decide_eq_false q1]
      refine iteF ⟨_, rfl, rfl, _, rfl, ?_⟩
      have ed : ∀ j : Nat, decide (V.int (r : Nat) = V.int (j : Nat)) = decide (r = j) := fun j => decide_eq_decide.mpr ⟨fun e => by have := V.int.inj e; omega, fun e => by rw [e]⟩
      have ed3 := ed 3
      have ed4 := ed 4
      rw [show (V.int 3) = V.int ((3 : Nat) : Int) from rfl, ed3]
      by_cases q3 : r = 3
      · rw [decide_eq_true q3]
        have hct := cut_to (tl o) 1 o rfl
        have t1 : tl (Str.ofString "aA0.-_w=") = [97, 65, 48, 46, 45, 95, 119, 61] := by decide +kernel
        have lz := len_tl (Str.ofString "aA0.-_w=" ++ cutS o none (some (1 : Int)))
        have tz : tl (Str.ofString "aA0.-_w=" ++ cutS o none (some (1 : Int))) = [97, 65, 48, 46, 45, 95, 119, 61] ++ (tl o).take 1 := by rw [tl_app, t1]; congr 1
        rw [tz, List.length_append, List.length_take] at lz
        have l8 : ([97, 65, 48, 46, 45, 95, 119, 61] : Tx).length = 8 := rfl
        have lq : (Str.ofString "aA0.-_w=").length + (cutS o none (some (1 : Int))).length ≤ sizeLine := by
          have h1 := len_tl (cutS o none (some (1 : Int)))
          have h2 : tl (cutS o none (some (1 : Int))) = (tl o).take 1 := hct
          rw [h2, List.length_take] at h1
          have h3 := len_tl (Str.ofString "aA0.-_w=")
          rw [t1, l8] at h3
          rw [sizeLine_eq]
          omega
        refine iteT ⟨_, rfl, _, rfl, _, rfl, o, rfl, by rw [sizeLine_eq]; omega, _, _, rfl, rfl, lq, a, l, m - 1, by omega, pot1, .inl ⟨_, rfl, by omega, by omega, fun c H2 hc K2 pot2 => ?_⟩⟩
        rw [tz] at hc
        have hc2 : 33 ≤ c ∧ c ≤ 125 ∧ c ∉ B := by
          rcases ho with ⟨e1, e2⟩ | ⟨e1, e2⟩
          · rw [e2] at hc
            have : ∀ c ∈ ([97, 65, 48, 46, 45, 95, 119, 61] : Tx) ++ ([38, 34] : Tx).take 1, 33 ≤ c ∧ c ≤ 125 ∧ c ∉ BP := by decide
            rw [e1]
            exact this c hc
          · rw [e2] at hc
            have : ∀ c ∈ ([97, 65, 48, 46, 45, 95, 119, 61] : Tx) ++ ([63, 47, 34] : Tx).take 1, 33 ≤ c ∧ c ≤ 125 ∧ c ∉ BA := by decide
            rw [e1]
            exact this c hc
        exact k _ H2 (atm_sign hc2.1 hc2.2.1 hc2.2.2) (K1.trans K2) (pot2.le (by omega))
      · rw [decide_eq_false q3]
        refine iteF ⟨_, rfl, rfl, _, rfl, ?_⟩
        rw [show (V.int 4) = V.int ((4 : Nat) : Int) from rfl, ed4]
        by_cases q4 : r = 4
        · rw [decide_eq_true q4]
          have t1 : tl (Str.ofString "!$'()*+,:;<=>\x40[\\]^`{|}") = [33, 36, 39, 40, 41, 42, 43, 44, 58, 59, 60, 61, 62, 64, 91, 92, 93, 94, 96, 123, 124, 125] := by decide +kernel
          have h3 := len_tl (Str.ofString "!$'()*+,:;<=>\x40[\\]^`{|}")
          rw [t1] at h3
          have h3' : (Str.ofString "!$'()*+,:;<=>\x40[\\]^`{|}").length = 22 := h3
          have lz := len_tl (Str.ofString "!$'()*+,:;<=>\x40[\\]^`{|}" ++ o)
          have tz : tl (Str.ofString "!$'()*+,:;<=>\x40[\\]^`{|}" ++ o) = [33, 36, 39, 40, 41, 42, 43, 44, 58, 59, 60, 61, 62, 64, 91, 92, 93, 94, 96, 123, 124, 125] ++ tl o := by rw [tl_app, t1]
          rw [tz, List.length_append] at lz
          simp only [List.length_cons, List.length_nil] at lz
          refine iteT ⟨_, rfl, _, rfl, _, _, rfl, rfl, by rw [sizeLine_eq]; omega, a, l, m - 1, by omega, pot1, .inl ⟨_, rfl, by omega, by omega, fun c H2 hc K2 pot2 => ?_⟩⟩
          rw [tz] at hc
          have hc2 : 33 ≤ c ∧ c ≤ 125 ∧ c ∉ B := by
            rcases ho with ⟨e1, e2⟩ | ⟨e1, e2⟩
            · rw [e2] at hc
              have : ∀ c ∈ ([33, 36, 39, 40, 41, 42, 43, 44, 58, 59, 60, 61, 62, 64, 91, 92, 93, 94, 96, 123, 124, 125] : Tx) ++ ([38, 34] : Tx), 33 ≤ c ∧ c ≤ 125 ∧ c ∉ BP := by decide
              rw [e1]
              exact this c hc
            · rw [e2] at hc
              have : ∀ c ∈ ([33, 36, 39, 40, 41, 42, 43, 44, 58, 59, 60, 61, 62, 64, 91, 92, 93, 94, 96, 123, 124, 125] : Tx) ++ ([63, 47, 34] : Tx), 33 ≤ c ∧ c ≤ 125 ∧ c ∉ BA := by decide
              rw [e1]
              exact this c hc
          exact k _ H2 (atm_sign hc2.1 hc2.2.1 hc2.2.2) (K1.trans K2) (pot2.le (by omega))
        · rw [decide_eq_false q4]
          refine iteF ⟨_, rfl, a, l, 256, m - 1, rfl, by decide, by decide, by omega, pot1, fun n H2 hn K2 pot2 => ?_⟩
          refine ⟨fun M σ H' => ∃ (n : Nat) (u : Option V), σ = [some (.ref a), some (.str o), some (.int (r : Nat)), some (.int (n : Nat)), u] ∧ n < 256 ∧ Same H2 H' ∧ M = stepsN n, ⟨_, n, _, rfl, hn, Same.refl _, rfl⟩, ?_⟩
          rintro M σ H3 ⟨n, u, rfl, hn, s3, rfl⟩
          refine ⟨_, rfl, rfl, fun z hz => ⟨z, rfl, fun D hD => lc_it walk_str
            (fun i H' => Same H2 H' ∧ H' D = some (.lst ((plainL.take i).map fun c : Nat => V.int (c : Nat)))) ⟨Same.new s3 hD, upd_same⟩ (fun _ _ _ _ => True.intro) ?_ ?_⟩⟩
          · rintro i y H4 H5 hi ⟨s4, hD4⟩ ⟨rfl, c, hc, rfl⟩
            have hcl : plainL[i]? = some c := by
              rw [← hz]
              show z.cps.toList[i]? = some c
              rw [Array.getElem?_toList]
              exact hc
            have hp := plainL_all c (List.mem_of_getElem? hcl)
            refine ⟨rfl, ?_⟩
            show tCall spNumOf [] E0 (tCons (tVar 4) tNil) _ _ _
            refine ⟨_, rfl, c, rfl, hp, _, hD4, ?_, Same.put s4 ?_, ?_⟩
            · rw [List.length_map, List.length_take, sizeLine_eq]
              have : plainL.length = 65 := rfl
              omega
            · cases q : H2 D with
              | none => rfl
              | some o => rw [s3 _ _ q] at hD; cases hD
            · rw [upd_same, take_snoc _ hcl]
          · rintro H4 ⟨s4, hD4⟩
            have ez : plainL.take z.cps.size = plainL := by
              refine List.take_of_length_le ?_
              rw [← hz]
              show z.cps.toList.length ≤ _
              simp
            rw [ez] at hD4
            refine ⟨D, _, rfl, .inl (SqL.of hD4), rfl, by rfl, _, rfl, ?_⟩
            have ein : ∀ n : Nat, n < 256 → inV (.int (n : Nat)) (plainL.map fun c : Nat => V.int (c : Nat)) = plainC n := by decide +kernel
            show (if inV (.int (n : Nat)) (plainL.map fun c : Nat => V.int (c : Nat)) = true then _ else _)
            rw [ein n hn]
            cases hp : plainC n with
            | true =>
              refine iteT ⟨_, fun _ _ n => n, ?_⟩
              refine ⟨_, rfl, _, _, rfl, rfl, _, _, rfl, rfl, (by show (0 : Int) < 256; decide), ?_⟩
              have e : ((n : Int) + 37) % 256 = (((n + 37) % 256 : Nat) : Int) := by omega
              refine ⟨stepsN ((n + 37) % 256), steps_down n hn hp, (n + 37) % 256, u, ?_, Nat.mod_lt _ (by decide), s4, rfl⟩
              show [some (V.ref a), some (.str o), some (.int (r : Nat)), some (.int (((n : Int) + 37) % 256)), _] = _
              rw [e]
            | false =>
              refine iteF ⟨_, rfl, n, rfl, hn, fun t x y ht hx hy hxy => ?_⟩
              have lt := len_tl t
              rw [ht] at lt
              have t1 : tl (Str.ofString "~") = [126] := by decide +kernel
              refine ⟨_, _, rfl, rfl, (by rw [lt]; show 1 + 2 ≤ sizeLine; decide), ?_⟩
              refine k _ _ (.inr ⟨x, y, by rw [tl_app, t1, ht]; rfl, hx, hy, by rw [hxy]; exact hp⟩) ((K1.trans K2).trans (Kept.same s4)) ((pot2.same s4).le (by omega))
end Kp
namespace Kp
open PySem PySem.Spec PyProof.Rows L2 TL
variable {P : Program} {w : World} {K : PySem.W.Frag} {mg : Str → Option Value} {base : Heap}
/-! ### lists of texts, lists of such, beside the pot -/
def LS (a l : Addr) (H : Hp) (p : Addr) (xs : List Str) : Prop := p ≠ a ∧ p ≠ l ∧ H p = some (.lst (xs.map V.str))
theorem LS.kept {a l p : Addr} {H H' : Hp} {xs : List Str} (h : LS a l H p xs) (k : Kept [a, l] H H') : LS a l H' p xs := ⟨h.1, h.2.1, k p _ (by simp [h.1, h.2.1]) h.2.2⟩
theorem LS.put {a l p q : Addr} {H : Hp} {o : HO} {xs : List Str} (h : LS a l H p xs) (hq : p ≠ q) : LS a l (upd H q o) p xs := ⟨h.1, h.2.1, by rw [upd_ne hq]; exact h.2.2⟩
theorem LS.new {a l p q : Addr} {H : Hp} {o : HO} {xs : List Str} (h : LS a l H p xs) (hq : H q = none) : LS a l (upd H q o) p xs := h.put (ne_of_none h.2.2 hq)
abbrev SRow := Addr × List Str
structure LL (a l : Addr) (H : Hp) (p : Addr) (rows : List SRow) : Prop where
  pa : p ≠ a
  pl : p ≠ l
  at_ : H p = some (.lst (rows.map fun r => V.ref r.1))
  each : ∀ r ∈ rows, LS a l H r.1 r.2
theorem LL.kept {a l p : Addr} {H H' : Hp} {rows : List SRow} (h : LL a l H p rows) (k : Kept [a, l] H H') : LL a l H' p rows := ⟨h.pa, h.pl, k p _ (by simp [h.pa, h.pl]) h.at_, fun r hr => (h.each r hr).kept k⟩
theorem LL.new {a l p q : Addr} {H : Hp} {o : HO} {rows : List SRow} (h : LL a l H p rows) (hq : H q = none) : LL a l (upd H q o) p rows := h.kept (Kept.refl.new hq)
/-- a comprehension of texts that are drawn -/
theorem lc_strs {J : It} {n : Nat} {G : Hp → Prop} {Y : Nat → Hp → V → Hp → Prop} (wk : Walk J n G Y) {a l : Addr} {H1 : Hp} {D : Addr} {σ : L2.St} {vs : List Nat} {i0 : Nat} {te : TE} {Qd : Hp → Prop} (Ok : Nat → Str → Prop) (k m : Nat)
    (hlen : n ≤ 1000000) (hD : H1 D = none) (pot : Pot a l m H1) (hG : ∀ H', Kept [a, l] H1 H' → G H') (hw : ∀ v, wipe ((wipe σ vs).set i0 (some v)) vs = wipe σ vs)
    (hs : ∀ i x H H' (Q' : VK), i < n → Y i H x H' → Kept [a, l] H1 H → Pot a l (m - i * k) H → (∀ s H4, Ok i s → Kept [a, l] H H4 → Pot a l (m - (i + 1) * k) H4 → Q' (.str s) H4) → te ((wipe σ vs).set i0 (some x)) H' Q')
    (hd : ∀ (ss : List Str) H', ss.length = n → (∀ i s, ss[i]? = some s → Ok i s) → Kept [a, l] H1 H' → LS a l H' D ss → Pot a l (m - n * k) H' → Qd H') :
    ∃ W : Nat → Nat → Hp → Prop, (∃ m, W 0 m (upd H1 D (.lst []))) ∧ ∀ i m H, W i m H →
      (J.stop i H ∧ Qd H) ∨ (J.go i H ∧ ∃ Nx : Hp → Prop, (∀ H', Nx H' → ∃ m', m' < m ∧ W (i + 1) m' H') ∧ ∀ x H', J.yld i H x H' → gName i0 x (wipe σ vs) H' fun σ2 H2 => wipe σ2 vs = wipe σ vs ∧ tYes σ2 H2 fun b H3 =>
        if b = true then te σ2 H3 fun y H4 => ∃ acc, H4 D = some (.lst acc) ∧ acc.length < sizeLine ∧ Nx (upd H4 D (.lst (acc ++ [y]))) else Nx H3) := by
  obtain ⟨da, dl⟩ := pot.ne hD
  refine lc_it wk (fun i H' => ∃ ss : List Str, ss.length = i ∧ (∀ j s, ss[j]? = some s → Ok j s) ∧ Kept [a, l] H1 H' ∧ H' D = some (.lst (ss.map V.str)) ∧ Pot a l (m - i * k) H')
    ⟨[], rfl, (fun j s h => by simp at h), Kept.refl.new hD, upd_same, by rw [Nat.zero_mul]; exact pot.new hD⟩ (fun i H _ ⟨_, _, _, K1, _, _⟩ => hG H K1) ?_ ?_
  · rintro i x H H' hi ⟨ss, hl, hok, K1, hDH, p1⟩ hy
    refine ⟨hw x, ?_⟩
    show te _ _ _
    refine hs i x H H' _ hi hy K1 p1 fun s H4 ok K2 p2 => ?_
    have hD4 := K2 D _ (by simp [da, dl]) hDH
    refine ⟨_, hD4, by rw [List.length_map, hl, sizeLine_eq]; omega, ss ++ [s], by rw [List.length_append, hl]; rfl, ?_, (K1.trans K2).put (.inr hD), by rw [upd_same, List.map_append]; rfl, p2.put da dl⟩
    intro j t hj
    by_cases e : j < ss.length
    · rw [List.getElem?_append_left e] at hj
      exact hok j t hj
    · rw [List.getElem?_append_right (by omega)] at hj
      have e2 : j - ss.length = 0 := by
        cases q : j - ss.length with
        | zero => rfl
        | succ z => rw [q] at hj; simp at hj
      rw [e2] at hj
      have e3 : s = t := Option.some.inj hj
      have e4 : j = i := by omega
      subst e3 e4
      exact ok
  · rintro H ⟨ss, hl, hok, K1, hDH, p1⟩
    exact hd ss H hl hok K1 ⟨da, dl, hDH⟩ p1
/-- a comprehension of lists of texts -/
theorem lc_rows {J : It} {n : Nat} {G : Hp → Prop} {Y : Nat → Hp → V → Hp → Prop} (wk : Walk J n G Y) {a l : Addr} {H1 : Hp} {D : Addr} {σ : L2.St} {vs : List Nat} {i0 : Nat} {te : TE} {Qd : Hp → Prop} (Ok : List Str → Prop) (k m : Nat)
    (hlen : n ≤ 1000000) (hD : H1 D = none) (pot : Pot a l m H1) (hG : ∀ H', Kept [a, l] H1 H' → G H') (hw : ∀ v, wipe ((wipe σ vs).set i0 (some v)) vs = wipe σ vs)
    (hs : ∀ i x H H' (Q' : VK), i < n → Y i H x H' → Kept [a, l] H1 H → Pot a l (m - i * k) H → (∀ q xs H4, H q = none → LS a l H4 q xs → Ok xs → Kept [a, l] H H4 → Pot a l (m - (i + 1) * k) H4 → Q' (.ref q) H4) → te ((wipe σ vs).set i0 (some x)) H' Q')
    (hd : ∀ (rows : List SRow) H', rows.length = n → (∀ r ∈ rows, Ok r.2) → Kept [a, l] H1 H' → LL a l H' D rows → Pot a l (m - n * k) H' → Qd H') :
    ∃ W : Nat → Nat → Hp → Prop, (∃ m, W 0 m (upd H1 D (.lst []))) ∧ ∀ i m H, W i m H →
      (J.stop i H ∧ Qd H) ∨ (J.go i H ∧ ∃ Nx : Hp → Prop, (∀ H', Nx H' → ∃ m', m' < m ∧ W (i + 1) m' H') ∧ ∀ x H', J.yld i H x H' → gName i0 x (wipe σ vs) H' fun σ2 H2 => wipe σ2 vs = wipe σ vs ∧ tYes σ2 H2 fun b H3 =>
        if b = true then te σ2 H3 fun y H4 => ∃ acc, H4 D = some (.lst acc) ∧ acc.length < sizeLine ∧ Nx (upd H4 D (.lst (acc ++ [y]))) else Nx H3) := by
  obtain ⟨da, dl⟩ := pot.ne hD
  refine lc_it wk (fun i H' => ∃ rows : List SRow, rows.length = i ∧ (∀ r ∈ rows, Ok r.2 ∧ r.1 ≠ D) ∧ Kept [a, l] H1 H' ∧ LL a l H' D rows ∧ Pot a l (m - i * k) H')
    ⟨[], rfl, (fun r h => by cases h), Kept.refl.new hD, ⟨da, dl, upd_same, (fun r h => by cases h)⟩, by rw [Nat.zero_mul]; exact pot.new hD⟩ (fun i H _ ⟨_, _, _, K1, _, _⟩ => hG H K1) ?_ ?_
  · rintro i x H H' hi ⟨rows, hl, hok, K1, hLL, p1⟩ hy
    refine ⟨hw x, ?_⟩
    show te _ _ _
    refine hs i x H H' _ hi hy K1 p1 fun q xs H4 hq hls ok K2 p2 => ?_
    have hL4 := hLL.kept K2
    have qD : q ≠ D := fun e => by rw [e, hLL.at_] at hq; cases hq
    refine ⟨_, hL4.at_, by rw [List.length_map, hl, sizeLine_eq]; omega, rows ++ [(q, xs)], by rw [List.length_append, hl]; rfl, fun r hr => ?_, (K1.trans K2).put (.inr hD), ⟨da, dl, by rw [upd_same, List.map_append]; rfl, fun r hr => ?_⟩, p2.put da dl⟩
    · rcases List.mem_append.mp hr with z | z
      · exact hok r z
      · rw [List.mem_singleton.mp z]
        exact ⟨ok, qD⟩
    · rcases List.mem_append.mp hr with z | z
      · exact (hL4.each r z).put (hok r z).2
      · rw [List.mem_singleton.mp z]
        exact hls.put qD
  · rintro H ⟨rows, hl, hok, K1, hLL, p1⟩
    exact hd rows H hl (fun r hr => (hok r hr).1) K1 hLL p1
/-! ### _law_piece -/
abbrev sPiece : Stmt := top 35
abbrev NPiece : List Str := ["_law_pot_here", "_law_others", "_law_found", "_law_k"]
theorem scPiece : FnScope NPiece ["_law_pot_here", "_law_others"] (defScope sPiece) := ⟨rfl, rfl, rfl, by decide +kernel, rfl, by decide +kernel, by decide +kernel⟩
def spPiece : Sp := fun vs H Q _ => ∃ (a l : Addr) (m : Nat) (o : Str) (B : Tx), vs = [.ref a, .str o] ∧ Oth B o ∧ 18 ≤ m ∧ Pot a l m H ∧
  ∀ p xs H', H p = none → LS a l H' p xs → Piece B (xs.map tl) → okPart ((xs.map tl).flatten) → xs.length ≤ 9 → Kept [a, l] H H' → Pot a l (m - 18) H' → Q (.ref p) H'
theorem ok_piece (D : DefAt K mg "_law_piece" sPiece) (GL : Glb K w mg) (F__law_draw : FnAt P w K mg base CX0 "_law_draw" ["_law_pot_here", "_law_many"] [] 2 spDraw) (F__law_atom : FnAt P w K mg base CX0 "_law_atom" ["_law_pot_here", "_law_others"] [] 4 spAtom) :
    FnAt P w K mg base CX0 "_law_piece" ["_law_pot_here", "_law_others"] [] 5 spPiece := by
  refine D.ok scPiece (fun _ _ _ _ _ _ us hl => match us, hl with | [_, _], _ => rfl) (fun vs H Q E h => ?_) (fun f cdv A outer s H vs Q E hr h => ?_)
  · obtain ⟨a, l, m, o, B, rfl, _⟩ := h
    rfl
  · obtain ⟨a, l, m, o, B, rfl, ho, hm, pot, k⟩ := h
    refine ⟨_, (pss_cons (ps_setLc (i := 2) (own := [("_law_k", 3)]) (g := gName 3) rfl scPiece.nd rfl rfl (sw_true rfl rfl rfl (by decide +kernel)) (pi_range1 (by rfl) GL.range (pa_cons (pe_op op_add pe_int (pe_cf F__law_draw (hr.mono (by decide)) pass0 (pa_cons (pv 0) (pa_cons (pe_ix (ix_listK (K := K)) (pe_lst (pa_cons pe_int (pa_cons pe_int (pa_cons pe_int pa_nil)))) (pe_cf F__law_draw (hr.mono (by decide)) pass0 (pa_cons (pv 0) (pa_cons pe_int pa_nil))) (fun _ _ => rfl)) pa_nil)))) pa_nil)) (blkOk_by (own := [("_law_k", 3)]) (N := NPiece) (sc := defScope sPiece) (by decide +kernel)) (fun _ _ _ _ _ => pg_name (i := 3) scPiece.nd rfl (Or.inl rfl)) (fun _ _ _ _ _ => pts_nil) (fun _ _ _ _ _ => (pe_cf F__law_atom (hr.mono (by decide)) pass0 (pa_cons (pv 0) (pa_cons (pv 1) pa_nil)))))
      (pss_one (ps_ret (pe_op op_cat (pv 2) (pe_op op_rep (pe_lst (pa_cons pe_str pa_nil)) (pe_callTy call_int1 (by rfl) GL.int (by decide +kernel) (pa_cons (pe_cmpR op_in_seq (pe_joinK (K := K) pe_str (pv 2)) (pe_tup (pa_cons pe_str (pa_cons pe_str pa_nil))) (by rfl)) pa_nil))))))), ?_⟩
    refine ⟨_, rfl, (show 3 ≤ sizeLine by decide), fun q hq => ⟨_, rfl, a, l, 3, m, rfl, by decide, by decide, by omega, pot.new hq, fun r H1 hr1 K1 p1 => ?_⟩⟩
    have hq1 := K1 q _ (by have := pot.ne hq; simp [this.1, this.2]) upd_same
    obtain ⟨n, hn, n1, n2⟩ : ∃ n : Nat, ([V.int 3, .int 3, .int 8] : List V)[r]? = some (.int (n : Nat)) ∧ 1 ≤ n ∧ n ≤ 8 := by
      match r, hr1 with
      | 0, _ => exact ⟨3, rfl, by decide, by decide⟩
      | 1, _ => exact ⟨3, rfl, by decide, by decide⟩
      | 2, _ => exact ⟨8, rfl, by decide, by decide⟩
    refine ⟨q, _, r, _, rfl, rfl, SqL.of hq1, atI_nat hn, a, l, n, m - 1, rfl, n1, by omega, by omega, p1, fun r2 H2 hr2 K2 p2 => ?_⟩
    refine ⟨_, _, rfl, rfl, _, rfl, by omega, by omega, fun D hD => ?_⟩
    have e1 : ((1 : Int) + ((r2 : Nat) : Int)).toNat = r2 + 1 := by omega
    rw [e1]
    have K12 : Kept [a, l] H H2 := (Kept.refl.new hq).trans (K1.trans K2)
    refine lc_strs (walk_range (lo := 0) (n := r2 + 1)) (fun _ s => Atm B (tl s)) 2 (m - 2) (by omega) hD p2 (fun _ _ => True.intro) (fun _ => rfl) (fun i x H3 H4 Q' hi hy K3 p3 hQ => ?_) (fun ss H3 hlen hok K3 hls p3 => ?_)
    · obtain ⟨rfl, rfl⟩ := hy
      exact ⟨_, rfl, _, rfl, a, l, _, o, B, rfl, ho, by omega, p3, fun s H4 hs K4 p4 => hQ s H4 hs K4 (p4.le (by omega))⟩
    · have okl : ∀ x ∈ ss, Atm B (tl x) := fun x hx => by
        obtain ⟨i, hi⟩ := List.mem_iff_getElem?.mp hx
        exact hok i x hi
      have hsz : ∀ (xs : List Str), (∀ x ∈ xs, Atm B (tl x)) → (xs.map (·.length)).sum ≤ 3 * xs.length := by
        intro xs
        induction xs with
        | nil => intro _; exact Nat.le_refl _
        | cons x r ih =>
          intro h
          have h1 := ih fun y hy => h y (by simp [hy])
          have h2 : x.length ≤ 3 := by
            rw [len_tl]
            rcases h x (by simp) with ⟨c, e, _⟩ | ⟨c, d, e, _⟩ <;> rw [e] <;> simp
          simp only [List.map_cons, List.sum_cons, List.length_cons]
          omega
      have hs1 := hsz ss okl
      have l0 : (Str.ofString "").length = 0 := by decide +kernel
      refine ⟨_, rfl, (show 1 ≤ sizeLine by decide), fun e he => ?_⟩
      have hls4 := hls.new (o := .lst [.str "a"]) he
      have De : D ≠ e := ne_of_none hls.2.2 he
      refine ⟨⟨_, rfl⟩, _, rfl, _, D, ss, rfl, rfl, .inl (SqL.of hls4.2.2), by rw [l0]; omega, (show 2 ≤ sizeLine by decide), fun t ht => ⟨t, _, rfl, .inr (SqT.of upd_same), rfl, rfl, ?_⟩⟩
      have hls5 := hls4.new (o := .tup [.str ".", .str ".."]) ht
      have he5 : upd (upd H3 e (.lst [.str "a"])) t (.tup [.str ".", .str ".."]) e = some (.lst [.str "a"]) := by
        have : e ≠ t := fun z => by rw [← z, upd_same] at ht; cases ht
        rw [upd_ne this, upd_same]
      have K5 : Kept [a, l] H (upd (upd H3 e (.lst [.str "a"])) t (.tup [.str ".", .str ".."])) := ((K12.trans K3).new he).new ht
      have p5 := (p3.new (o := .lst [.str "a"]) he).new (o := .tup [.str ".", .str ".."]) ht
      generalize upd (upd H3 e (.lst [.str "a"])) t (.tup [.str ".", .str ".."]) = H5 at hls5 he5 K5 p5
      have ein : inV (.str (Txt.join "" ss)) [.str ".", .str ".."] = decide ((ss.map tl).flatten = [46] ∨ (ss.map tl).flatten = [46, 46]) := by
        have j0 := join0 ss
        have t1 : tl (Str.ofString ".") = [46] := by decide +kernel
        have t2 : tl (Str.ofString "..") = [46, 46] := by decide +kernel
        show ((Str.ofString "." == Txt.join "" ss) || ((Str.ofString ".." == Txt.join "" ss) || false)) = _
        rw [Bool.or_false, ← j0]
        have h1 : ∀ y : Str, (y == Txt.join "" ss) = decide (tl (Txt.join "" ss) = tl y) := fun y => by
          by_cases q : tl (Txt.join "" ss) = tl y
          · rw [decide_eq_true q, ext_tl q]
            exact beq_self_eq_true _
          · rw [decide_eq_false q]
            refine Bool.eq_false_iff.mpr fun z => q ?_
            rw [eq_of_beq z]
        rw [h1, h1, t1, t2, Bool.decide_or]
      show (∃ i, [V.bl (inV (.str (Txt.join "" ss)) [.str ".", .str ".."])] = [V.int i] ∧ _) ∨ _
      rw [ein]
      have nn : ss ≠ [] := fun z => by rw [z] at hlen; simp at hlen
      have fin : ∀ (ys : List Str) (b : Nat), b ≤ 1 → (List.replicate b ([V.str "a"] : List V)).flatten = ys.map V.str → ys.length ≤ 1 → Piece B ((ss ++ ys).map tl) → okPart (((ss ++ ys).map tl).flatten) →
          rRep (.ref e) (.int (b : Nat)) H5 fun y H' => rCat (.ref D) y H' Q := by
        intro ys b hb ey hy hp hok2
        refine ⟨e, _, _, rfl, rfl, he5, by omega, by omega, ?_, fun p hp' => ?_⟩
        · rw [sizeLine_eq]
          show 1 * ((b : Nat) : Int).toNat ≤ _
          omega
        · have ey2 : (List.replicate (((b : Nat) : Int).toNat) ([V.str "a"] : List V)).flatten = ys.map V.str := ey
          rw [ey2]
          have hls6 := hls5.new (o := .lst (ys.map V.str)) hp'
          refine ⟨D, p, _, _, rfl, rfl, hls6.2.2, upd_same, ?_, fun u hu => ?_⟩
          · rw [List.length_map, List.length_map, hlen, sizeLine_eq]
            omega
          · have p6 := p5.new (o := .lst (ys.map V.str)) hp'
            have un := p6.ne hu
            refine k u (ss ++ ys) _ ((K5.new hp').free hu (by simp [un.1, un.2])) ⟨un.1, un.2, ?_⟩ hp hok2 ?_ ((K5.new hp').new hu) ((p6.new hu).le (by omega))
            · rw [upd_same, List.map_append]
            · rw [List.length_append, hlen]
              omega
      have fne : (ss.map tl).flatten ≠ [] := Piece.flat_ne (B := B) ⟨by simpa using nn, fun x hx => by
        obtain ⟨y, hy, rfl⟩ := List.mem_map.mp hx
        exact okl y hy⟩
      by_cases q : (ss.map tl).flatten = [46] ∨ (ss.map tl).flatten = [46, 46]
      · rw [decide_eq_true q]
        refine .inr ⟨true, rfl, ?_⟩
        refine fin ["a"] 1 (by decide) rfl (by decide) ⟨by simp, fun x hx => ?_⟩ ?_
        · obtain ⟨y, hy, rfl⟩ := List.mem_map.mp hx
          rcases List.mem_append.mp hy with z | z
          · exact okl y z
          · rw [List.mem_singleton.mp z]
            refine atm_sign (c := 97) (by decide) (by decide) (plain_free (ho.elim (fun h => .inl h.1) fun h => .inr h.1) (by decide))
        · rw [List.map_append, List.flatten_append]
          rcases q with q | q <;> rw [q] <;> exact ⟨by decide, by decide, by decide⟩
      · rw [decide_eq_false q]
        refine .inr ⟨false, rfl, ?_⟩
        refine fin [] 0 (by decide) rfl (by decide) ⟨by simpa using nn, fun x hx => ?_⟩ ?_
        · rw [List.append_nil] at hx
          obtain ⟨y, hy, rfl⟩ := List.mem_map.mp hx
          exact okl y hy
        · rw [List.append_nil]
          exact ⟨fne, fun z => q (.inl z), fun z => q (.inr z)⟩
end Kp
namespace Kp
open PySem PySem.Spec PyProof.Rows L2 TL
variable {P : Program} {w : World} {K : PySem.W.Frag} {mg : Str → Option Value} {base : Heap}
/-! ### {'leaf': 70, 'seal': 700}[kind] -/
theorem rd_gates {σ : L2.St} {H : Hp} {Q : VK} {j : Nat} {k : Str} (hj : σ[j]? = some (some (.str k))) (hk : tl k = leafT ∨ tl k = sealT) (q : ∀ H', Same H H' → Q (.int (ownG (tl k) : Nat)) H') :
    tDGet (tDisp [(tC (.str "leaf"), tC (.int 70)), (tC (.str "seal"), tC (.int 700))]) (tVar j) σ H Q := by
  intro p hp
  refine ⟨upd_same, [(.inr "leaf", .int 70), (.inr "seal", .int 700)], rfl, by decide, ?_⟩
  refine ⟨_, hj, p, .int (ownG (tl k) : Nat), rfl, .inl ⟨_, .inr k, .inl upd_same, rfl, ?_⟩, q _ (Same.put (Same.new (Same.refl H) hp) hp)⟩
  rcases hk with h | h
  · have e : k = "leaf" := ext_tl (by rw [h]; decide +kernel)
    subst e
    decide +kernel
  · have e : k = "seal" := ext_tl (by rw [h]; decide +kernel)
    subst e
    decide +kernel
/-! ### _law_content -/
structure CtAt (K : PySem.W.Frag) (a l : Addr) (H : Hp) (p : Addr) (c : Ct) : Prop where
  ex : ∃ (k : Str) (hp pp ap : Addr) (hs : List Str) (pr ar : List SRow), H p = some (.tup [.str k, .ref hp, .int (c.gate : Nat), .ref pp, .ref ap]) ∧ LS a l H hp hs ∧ LL a l H pp pr ∧ LL a l H ap ar ∧
    tl k = c.kind ∧ hs.map tl = c.host ∧ pr.map (fun r => r.2.map tl) = c.parts ∧ ar.map (fun r => r.2.map tl) = c.asks ∧ p ≠ a ∧ p ≠ l
theorem Kept.seqT {a l p : Addr} {H H' : Hp} {xs : List V} (k : Kept [a, l] H H') (pa : p ≠ a) (pl : p ≠ l) (h : SqT K H p xs) : SqT K H' p xs := by
  rcases h with (h | ⟨o, h⟩) | h
  · exact .inl (.inl (k p _ (by simp [pa, pl]) h))
  · exact .inl (.inr ⟨o, k p _ (by simp [pa, pl]) h⟩)
  · exact .inr h
theorem CtAt.kept {a l p : Addr} {H H' : Hp} {c : Ct} (h : CtAt K a l H p c) (k : Kept [a, l] H H') : CtAt K a l H' p c := by
  obtain ⟨kk, hp, pp, ap, hs, pr, ar, h1, h2, h3, h4, h5, h6, h7, h8, h9, h10⟩ := h.ex
  exact ⟨kk, hp, pp, ap, hs, pr, ar, k p _ (by simp [h9, h10]) h1, h2.kept k, h3.kept k, h4.kept k, h5, h6, h7, h8, h9, h10⟩
/-- few and short -/
structure Sz (c : Ct) (n : Nat) : Prop where
  host : c.host.length ≤ 4 + n
  word : ∀ w ∈ c.host, w.length ≤ 4
  parts : c.parts.length ≤ 6 + n
  part : ∀ p ∈ c.parts, p.length ≤ 9
  asks : c.asks.length ≤ 6 + n
  ask : ∀ p ∈ c.asks, p.length ≤ 9
def WordT (w : Tx) : Prop := w ≠ [] ∧ w.all wordC = true ∧ w.length ≤ 4
/-- [_law_piece(pot, o) for k in range(_law_draw(pot, [x, y, z][_law_draw(pot, 3)]))] -/
theorem rd_pieces {σ : L2.St} {H : Hp} {Q : VK} {a l : Addr} {m : Nat} {o : Str} {B : Tx} (x y z : Int) (hx : 1 ≤ x ∧ x ≤ 7) (hy : 1 ≤ y ∧ y ≤ 7) (hz : 1 ≤ z ∧ z ≤ 7) (hm : 110 ≤ m) (ho : Oth B o) (pot : Pot a l m H) (h0 : σ[0]? = some (some (.ref a)))
    (hw : ∀ v, wipe ((wipe σ [4]).set 4 (some v)) [4] = wipe σ [4]) (hw0 : ∀ v, ((wipe σ [4]).set 4 (some v))[0]? = some (some (.ref a)))
    (k : ∀ D rows H', H D = none → rows.length ≤ 6 → (∀ r ∈ rows, Piece B (r.2.map tl) ∧ okPart ((r.2.map tl).flatten) ∧ r.2.length ≤ 9) → Kept [a, l] H H' → LL a l H' D rows → Pot a l (m - 110) H' → Q (.ref D) H') :
    tLc (iRng1 (tCons (tCall spDraw [] E0 (tCons (tVar 0) (tCons (tOp (rIxL K) (tLst (tCons (tC (.int x)) (tCons (tC (.int y)) (tCons (tC (.int z)) tNil)))) (tCall spDraw [] E0 (tCons (tVar 0) (tCons (tC (.int 3)) tNil)))) tNil))) tNil))
      (gName 4) tYes (tCall spPiece [] E0 (tCons (tVar 0) (tCons (tC (.str o)) tNil))) [4] σ H Q := by
  refine ⟨_, h0, (show 3 ≤ sizeLine by decide), fun q hq => ⟨_, h0, a, l, 3, m, rfl, by decide, by decide, by omega, pot.new hq, fun r H1 hr1 K1 p1 => ?_⟩⟩
  have hq1 := K1 q _ (by have := pot.ne hq; simp [this.1, this.2]) upd_same
  obtain ⟨n, hn, n1, n2⟩ : ∃ n : Nat, ([V.int x, .int y, .int z] : List V)[r]? = some (.int (n : Nat)) ∧ 1 ≤ n ∧ n ≤ 7 := by
    match r, hr1 with
    | 0, _ => exact ⟨x.toNat, by rw [Int.toNat_of_nonneg (by omega)]; rfl, by omega, by omega⟩
    | 1, _ => exact ⟨y.toNat, by rw [Int.toNat_of_nonneg (by omega)]; rfl, by omega, by omega⟩
    | 2, _ => exact ⟨z.toNat, by rw [Int.toNat_of_nonneg (by omega)]; rfl, by omega, by omega⟩
  refine ⟨q, _, r, _, rfl, rfl, SqL.of hq1, atI_nat hn, a, l, n, m - 1, rfl, n1, by omega, by omega, p1, fun r2 H2 hr2 K2 p2 => ?_⟩
  refine ⟨_, rfl, by omega, by omega, fun D hD => ?_⟩
  have K12 : Kept [a, l] H H2 := (Kept.refl.new hq).trans (K1.trans K2)
  have hD0 : H D = none := K12.free hD (by have := p2.ne hD; simp [this.1, this.2])
  rw [Int.toNat_natCast]
  refine lc_rows (walk_range (lo := 0) (n := r2)) (fun xs => Piece B (xs.map tl) ∧ okPart ((xs.map tl).flatten) ∧ xs.length ≤ 9) 18 (m - 1 - 1) (by omega) hD p2 (fun _ _ => True.intro) hw (fun i x' H3 H4 Q' hi hy' K3 p3 hQ => ?_) (fun rows H3 hlen hok K3 hLL p3 => ?_)
  · obtain ⟨rfl, rfl⟩ := hy'
    have : i * 18 ≤ 5 * 18 := Nat.mul_le_mul_right 18 (by omega)
    exact ⟨_, hw0 _, a, l, _, o, B, rfl, ho, by omega, p3, fun p xs H4 hp hls hpc hok hlen9 K4 p4 => hQ p xs H4 hp hls ⟨hpc, hok, hlen9⟩ K4 (p4.le (by omega))⟩
  · have : r2 * 18 ≤ 6 * 18 := Nat.mul_le_mul_right 18 (by omega)
    exact k D rows H3 hD0 (by omega) hok (K12.trans K3) hLL (p3.le (by omega))
theorem rd_piecesS {σ : L2.St} {H : Hp} {i : Nat} {u : TS} {D : Ends} {a l : Addr} {m : Nat} {o : Str} {B : Tx} (x y z : Int) (hx : 1 ≤ x ∧ x ≤ 7) (hy : 1 ≤ y ∧ y ≤ 7) (hz : 1 ≤ z ∧ z ≤ 7) (hm : 110 ≤ m) (ho : Oth B o) (pot : Pot a l m H) (h0 : σ[0]? = some (some (.ref a)))
    (hw : ∀ v, wipe ((wipe σ [4]).set 4 (some v)) [4] = wipe σ [4]) (hw0 : ∀ v, ((wipe σ [4]).set 4 (some v))[0]? = some (some (.ref a)))
    (k : ∀ p rows H', H p = none → rows.length ≤ 6 → (∀ r ∈ rows, Piece B (r.2.map tl) ∧ okPart ((r.2.map tl).flatten) ∧ r.2.length ≤ 9) → Kept [a, l] H H' → LL a l H' p rows → Pot a l (m - 110) H' → u D (σ.set i (some (.ref p))) H') :
    tSeq (tAsg (tLc (iRng1 (tCons (tCall spDraw [] E0 (tCons (tVar 0) (tCons (tOp (rIxL K) (tLst (tCons (tC (.int x)) (tCons (tC (.int y)) (tCons (tC (.int z)) tNil)))) (tCall spDraw [] E0 (tCons (tVar 0) (tCons (tC (.int 3)) tNil)))) tNil))) tNil))
      (gName 4) tYes (tCall spPiece [] E0 (tCons (tVar 0) (tCons (tC (.str o)) tNil))) [4]) (gName i)) u D σ H := by
  unfold tSeq tAsg
  exact rd_pieces (Q := fun x H1 => gName i x σ H1 (u D)) x y z hx hy hz hm ho pot h0 hw hw0 k
abbrev sContent : Stmt := top 36
abbrev NContent : List Str := ["_law_pot_here", "_law_signs", "_law_kind", "_law_host", "_law_k", "_law_word", "_law_j", "_law_own_here", "_law_gate_here", "_law_parts", "_law_asks_here"]
theorem scContent : FnScope NContent ["_law_pot_here"] (defScope sContent) := ⟨rfl, rfl, rfl, by decide +kernel, rfl, by decide +kernel, by decide +kernel⟩
def spContent (K : PySem.W.Frag) : Sp := fun vs H Q _ => ∃ (a l : Addr) (m : Nat), vs = [.ref a] ∧ 300 ≤ m ∧ Pot a l m H ∧
  ∀ p c H', H p = none → CtAt K a l H' p c → WfCt c → Sz c 0 → Kept [a, l] H H' → Pot a l (m - 300) H' → Q (.ref p) H'
theorem ok_content (D : DefAt K mg "_law_content" sContent) (GL : Glb K w mg) (F__law_draw : FnAt P w K mg base CX0 "_law_draw" ["_law_pot_here", "_law_many"] [] 2 spDraw) (F__law_pick : FnAt P w K mg base CX0 "_law_pick" ["_law_pot_here", "_law_some"] [] 3 spPick)
    (F__law_piece : FnAt P w K mg base CX0 "_law_piece" ["_law_pot_here", "_law_others"] [] 5 spPiece) : FnAt P w K mg base CX0 "_law_content" ["_law_pot_here"] [] 6 (spContent K) := by
  refine D.ok scContent (fun _ _ _ _ _ _ us hl => match us, hl with | [_], _ => rfl) (fun vs H Q E h => ?_) (fun f cdv A outer s H vs Q E hr h => ?_)
  · obtain ⟨a, l, m, rfl, _⟩ := h
    rfl
  · obtain ⟨a, l, m, rfl, hm, pot, kk⟩ := h
    refine ⟨_, (pss_cons (ps_set (i := 1) scContent.nd rfl (Or.inr rfl) pe_str)
      (pss_cons (ps_par (i := 2) (j := 3) rfl scContent.nd rfl rfl (by decide) rfl rfl (pa_cons (pe_cf F__law_pick (hr.mono (by decide)) pass0 (pa_cons (pv 0) (pa_cons (pe_lst (pa_cons pe_str (pa_cons pe_str pa_nil))) pa_nil))) (pa_cons (pe_lst pa_nil) pa_nil)) (by rfl))
      (pss_cons (ps_for PassesOwn.never rfl (pi_range1 (by rfl) GL.range (pa_cons (pe_op op_add pe_int (pe_cf F__law_draw (hr.mono (by decide)) pass0 (pa_cons (pv 0) (pa_cons pe_int pa_nil)))) pa_nil)) (pg_name (i := 4) scContent.nd rfl (Or.inl rfl)) (pss_cons (ps_set (i := 5) scContent.nd rfl (Or.inl rfl) (pe_joinK (K := K) pe_str (pe_lc (own := [("_law_j", 6)]) (g := gName 6) rfl scContent.nd (pi_range1 (by rfl) GL.range (pa_cons (pe_op op_add pe_int (pe_cf F__law_draw (hr.mono (by decide)) pass0 (pa_cons (pv 0) (pa_cons pe_int pa_nil)))) pa_nil)) (blkOk_by (own := [("_law_j", 6)]) (N := NContent) (sc := defScope sContent) (by decide +kernel)) (fun _ _ _ _ _ => pg_name (i := 6) scContent.nd rfl (Or.inl rfl)) (fun _ _ _ _ _ => pts_nil) (fun _ _ _ _ _ => (pe_cf F__law_pick (hr.mono (by decide)) pass0 (pa_cons (pv 0) (pa_cons (pv 1) pa_nil)))))))
      (pss_one (ps_expr (pe_bm PySem.F.plainAttrs_list PySem.F.slot_list_append PySem.F.type_list_append mt_append (pv 3) (pa_cons (pe_ix (ix_listK (K := K)) (pe_lst (pa_cons pe_str (pa_cons (pv 5) (pa_cons (pv 5) (pa_cons (pv 5) (pa_cons pe_str pa_nil)))))) (pe_cf F__law_draw (hr.mono (by decide)) pass0 (pa_cons (pv 0) (pa_cons pe_int pa_nil))) (fun _ _ => rfl)) pa_nil))))))
      (C8.pss_cut (ps_if (PW.pt (pw_and (pt_cmpR op_gt (pe_callB (cr_lenSeq (K := K)) (by rfl) GL.len (by decide +kernel) (pa_cons (pv 3) pa_nil)) pe_int (nomark _)) (pw_and1 (pt_cmpR op_eq (pe_ix (ix_listK (K := K)) (pv 3) pe_int (fun _ _ => rfl)) pe_str (nomark _))))) (pss_one (ps_asg pe_str (pg_sub (pv 3) pe_int set_list))) pss_nil)
      (pss_cons (ps_set (i := 7) scContent.nd rfl (Or.inl rfl) (pe_dget (hu_of hr) (pe_disp (pps_cons pe_str pe_int (pps_cons pe_str pe_int pps_nil)) (by rfl) (by rfl) (fun z => by cases z) (by decide)) (pv 2) (fun _ _ => rfl)))
      (C8.pss_cut (ps_set (i := 8) scContent.nd rfl (Or.inl rfl) (pe_ix (ix_listK (K := K)) (pe_lst (pa_cons (pv 7) (pa_cons (pv 7) (pa_cons (pe_op op_sub pe_int (pv 7)) (pa_cons (pe_cf F__law_draw (hr.mono (by decide)) pass0 (pa_cons (pv 0) (pa_cons pe_int pa_nil))) (pa_cons pe_int (pa_cons (pe_cf F__law_draw (hr.mono (by decide)) pass0 (pa_cons (pv 0) (pa_cons pe_int pa_nil))) pa_nil))))))) (pe_cf F__law_draw (hr.mono (by decide)) pass0 (pa_cons (pv 0) (pa_cons pe_int pa_nil))) (fun _ _ => rfl)))
      (pss_cons (ps_setLc (i := 9) (own := [("_law_k", 4)]) (g := gName 4) rfl scContent.nd rfl rfl (sw_true rfl rfl rfl (by decide +kernel)) (pi_range1 (by rfl) GL.range (pa_cons (pe_cf F__law_draw (hr.mono (by decide)) pass0 (pa_cons (pv 0) (pa_cons (pe_ix (ix_listK (K := K)) (pe_lst (pa_cons pe_int (pa_cons pe_int (pa_cons pe_int pa_nil)))) (pe_cf F__law_draw (hr.mono (by decide)) pass0 (pa_cons (pv 0) (pa_cons pe_int pa_nil))) (fun _ _ => rfl)) pa_nil))) pa_nil)) (blkOk_by (own := [("_law_k", 4)]) (N := NContent) (sc := defScope sContent) (by decide +kernel)) (fun _ _ _ _ _ => pg_name (i := 4) scContent.nd rfl (Or.inl rfl)) (fun _ _ _ _ _ => pts_nil) (fun _ _ _ _ _ => (pe_cf F__law_piece (hr.mono (by decide)) pass0 (pa_cons (pv 0) (pa_cons pe_str pa_nil)))))
      (pss_cons (ps_setLc (i := 10) (own := [("_law_k", 4)]) (g := gName 4) rfl scContent.nd rfl rfl (sw_true rfl rfl rfl (by decide +kernel)) (pi_range1 (by rfl) GL.range (pa_cons (pe_cf F__law_draw (hr.mono (by decide)) pass0 (pa_cons (pv 0) (pa_cons (pe_ix (ix_listK (K := K)) (pe_lst (pa_cons pe_int (pa_cons pe_int (pa_cons pe_int pa_nil)))) (pe_cf F__law_draw (hr.mono (by decide)) pass0 (pa_cons (pv 0) (pa_cons pe_int pa_nil))) (fun _ _ => rfl)) pa_nil))) pa_nil)) (blkOk_by (own := [("_law_k", 4)]) (N := NContent) (sc := defScope sContent) (by decide +kernel)) (fun _ _ _ _ _ => pg_name (i := 4) scContent.nd rfl (Or.inl rfl)) (fun _ _ _ _ _ => pts_nil) (fun _ _ _ _ _ => (pe_cf F__law_piece (hr.mono (by decide)) pass0 (pa_cons (pv 0) (pa_cons pe_str pa_nil)))))
      (pss_one (ps_ret (pe_tup (pa_cons (pv 2) (pa_cons (pv 3) (pa_cons (pv 8) (pa_cons (pv 9) (pa_cons (pv 10) pa_nil)))))))))))))))), ?_⟩
    have sg : tl (Str.ofString "abcdefghijklmnopqrstuvwxyz0123456789-") = [97, 98, 99, 100, 101, 102, 103, 104, 105, 106, 107, 108, 109, 110, 111, 112, 113, 114, 115, 116, 117, 118, 119, 120, 121, 122, 48, 49, 50, 51, 52, 53, 54, 55, 56, 57, 45] := by decide +kernel
    have sgw : ∀ c ∈ tl (Str.ofString "abcdefghijklmnopqrstuvwxyz0123456789-"), wordC c = true := by rw [sg]; decide
    have sgl : (Str.ofString "abcdefghijklmnopqrstuvwxyz0123456789-").length = 37 := by rw [len_tl, sg]; rfl
    generalize Str.ofString "abcdefghijklmnopqrstuvwxyz0123456789-" = sgs at sgw sgl
    clear sg
    refine ⟨_, rfl, (show 2 ≤ sizeLine by decide), fun q hq => ?_⟩
    have qn := pot.ne hq
    refine ⟨a, l, m, by omega, pot.new hq, .inr ⟨q, _, rfl, qn.1, qn.2, upd_same, by simp, by decide, fun v H1 hv K1 p1 => ?_⟩⟩
    obtain ⟨kd, rfl, hk⟩ : ∃ kd : Str, v = .str kd ∧ (tl kd = leafT ∨ tl kd = sealT) := by
      simp only [List.mem_cons, List.not_mem_nil, or_false] at hv
      rcases hv with e | e
      · exact ⟨_, e, .inl (by decide +kernel)⟩
      · exact ⟨_, e, .inr (by decide +kernel)⟩
    have K1 : Kept [a, l] H H1 := (Kept.refl.new hq).trans K1
    refine ⟨(show 0 ≤ sizeLine by decide), fun hp hhp => ⟨_, _, rfl, ?_⟩⟩
    have hn := p1.ne hhp
    have p1' := p1.new (o := .lst []) hhp
    have hh0 : H hp = none := K1.free hhp (by simp [hn.1, hn.2])
    have K1' : Kept [a, l] H (upd H1 hp (.lst [])) := K1.new hhp
    have hls0 : LS a l (upd H1 hp (.lst [])) hp [] := ⟨hn.1, hn.2, upd_same⟩
    generalize upd H1 hp (.lst []) = H2 at p1' K1' hls0
    refine ⟨_, rfl, a, l, 4, m - 1, rfl, by decide, by decide, by omega, p1', fun r H3 hr3 K3 p3 => ?_⟩
    refine ⟨_, _, rfl, rfl, _, rfl, by omega, by omega, ?_⟩
    have e1 : ((1 : Int) + ((r : Nat) : Int)).toNat = r + 1 := by omega
    rw [e1]
    have hls3 := hls0.kept K3
    have K3 : Kept [a, l] H H3 := K1'.trans K3
    refine for_it (walk_range (lo := 0) (n := r + 1)) (fun i σ H' => ∃ (u v z : Option V) (hs : List Str), σ = [some (.ref a), some (.str sgs), some (.str kd), some (.ref hp), u, v, z, none, none, none, none] ∧ hs.length = i ∧ (∀ w ∈ hs, WordT (tl w)) ∧ LS a l H' hp hs ∧ Kept [a, l] H H' ∧ Pot a l (m - 2 - i * 6) H')
      ⟨_, _, _, [], rfl, rfl, (fun w hw => by cases hw), hls3, K3, by rw [Nat.zero_mul]; exact p3⟩ (fun _ _ _ _ _ => True.intro) ?_ ?_
    · rintro i y σ H4 H5 hi ⟨u, v, z, hs, rfl, hlen, hw, hls4, K4, p4⟩ ⟨rfl, rfl⟩
      have hp0 : ∀ {q : Addr} {o : HO} {H'' : Hp}, H'' q = none → LS a l H'' hp hs → hp ≠ q := fun hq h => ne_of_none h.2.2 hq
      refine ⟨⟨_, rfl⟩, _, rfl, a, l, 4, m - 2 - i * 6, rfl, by decide, by decide, by omega, p4, fun r6 H6 hr6 K6 p6 => ?_⟩
      refine ⟨_, _, rfl, rfl, _, rfl, by omega, by omega, fun D hD => ?_⟩
      have e2 : ((1 : Int) + ((r6 : Nat) : Int)).toNat = r6 + 1 := by omega
      rw [e2]
      have hls6 := hls4.kept K6
      have K6 : Kept [a, l] H H6 := K4.trans K6
      refine lc_strs (walk_range (lo := 0) (n := r6 + 1)) (fun _ s => ∃ c, tl s = [c] ∧ wordC c = true) 1 (m - 2 - i * 6 - 1) (by omega) hD p6 (fun _ _ => True.intro) (fun _ => rfl) (fun i2 x H7 H8 Q' hi2 hy2 K7 p7 hQ => ?_) (fun ss H7 hlen7 hok7 K7 hlsD p7 => ?_)
      · obtain ⟨rfl, rfl⟩ := hy2
        exact ⟨_, rfl, _, rfl, a, l, _, by omega, p7, .inl ⟨sgs, rfl, by omega, by omega, fun c H8 hc K8 p8 => hQ _ H8 ⟨c, rfl, sgw c hc⟩ K8 (p8.le (by omega))⟩⟩
      · have hwd : WordT (tl (Txt.join "" ss)) ∧ (ss.map (·.length)).sum ≤ 4 := by
          rw [join0]
          have key : ∀ (xs : List Str), (∀ s ∈ xs, ∃ c, tl s = [c] ∧ wordC c = true) → ((xs.map tl).flatten).all wordC = true ∧ ((xs.map tl).flatten).length = xs.length ∧ (xs.map (·.length)).sum = xs.length := by
            intro xs
            induction xs with
            | nil => intro _; exact ⟨rfl, rfl, rfl⟩
            | cons x t ih =>
              intro h
              obtain ⟨h1, h2, h3⟩ := ih fun y hy => h y (by simp [hy])
              obtain ⟨c, ec, wc⟩ := h x (by simp)
              have lx := len_tl x
              rw [ec] at lx
              simp only [List.map_cons, List.flatten_cons, List.all_append, List.length_append, List.sum_cons, List.length_cons, ec, h1, h2, h3, List.all_cons, List.all_nil, List.length_nil, wc]
              refine ⟨rfl, by omega, ?_⟩
              rw [lx]
              show 1 + t.length = t.length + 1
              omega
          obtain ⟨h1, h2, h3⟩ := key ss fun s hs => by
            obtain ⟨j, hj⟩ := List.mem_iff_getElem?.mp hs
            exact hok7 j s hj
          refine ⟨⟨fun z => ?_, h1, by omega⟩, by omega⟩
          rw [z] at h2
          simp only [List.length_nil] at h2
          omega
        have l0 : (Str.ofString "").length = 0 := by decide +kernel
        refine ⟨_, D, ss, rfl, rfl, .inl (SqL.of hlsD.2.2), by rw [l0]; omega, ?_⟩
        have hls7 := hls6.kept (Kept.trans (Kept.refl (H := H6)) K7)
        have K7 : Kept [a, l] H H7 := K6.trans K7
        generalize Txt.join "" ss = wd at hwd
        refine ⟨_, rfl, .inl ⟨rfl, _, SqL.of hls7.2.2⟩, _, rfl, _, rfl, _, rfl, (show 5 ≤ sizeLine by decide), fun q hq => ?_⟩
        have qn := p7.ne hq
        refine ⟨_, rfl, a, l, 5, m - 2 - i * 6 - 5, rfl, by decide, by decide, by omega, (p7.le (by omega)).new hq, fun r8 H8 hr8 K8 p8 => ?_⟩
        have hq8 := K8 q _ (by simp [qn.1, qn.2]) upd_same
        have hls8 := (hls7.new (o := .lst [.str "www", .str wd, .str wd, .str wd, .str "ww"]) hq).kept K8
        have K8 : Kept [a, l] H H8 := (K7.new hq).trans K8
        obtain ⟨wd2, hwd2, hwt⟩ : ∃ wd2 : Str, ([V.str "www", .str wd, .str wd, .str wd, .str "ww"] : List V)[r8]? = some (.str wd2) ∧ WordT (tl wd2) := by
          have t1 : tl (Str.ofString "www") = [119, 119, 119] := by decide +kernel
          have t2 : tl (Str.ofString "ww") = [119, 119] := by decide +kernel
          match r8, hr8 with
          | 0, _ => exact ⟨_, rfl, by rw [t1]; exact ⟨by decide, by decide, by decide⟩⟩
          | 1, _ => exact ⟨_, rfl, hwd.1⟩
          | 2, _ => exact ⟨_, rfl, hwd.1⟩
          | 3, _ => exact ⟨_, rfl, hwd.1⟩
          | 4, _ => exact ⟨_, rfl, by rw [t2]; exact ⟨by decide, by decide, by decide⟩⟩
        refine ⟨q, _, r8, _, rfl, rfl, SqL.of hq8, atI_nat hwd2, hp, _, _, rfl, rfl, hls8.2.2, by rw [List.length_map, hlen, sizeLine_eq]; omega, ?_⟩
        refine ⟨_, _, _, hs ++ [wd2], rfl, by rw [List.length_append, hlen]; rfl, fun x hx => ?_, ⟨hn.1, hn.2, by rw [upd_same, List.map_append]; rfl⟩, K8.put (.inr hh0), (p8.put hn.1 hn.2).le (by omega)⟩
        rcases List.mem_append.mp hx with z | z
        · exact hw x z
        · rw [List.mem_singleton.mp z]
          exact hwt
    · rintro σ H4 ⟨u, v, z, hs, rfl, hlen, hw, hls4, K4, p4⟩
      refine ⟨fun σ H' => ∃ hs : List Str, σ = [some (.ref a), some (.str sgs), some (.str kd), some (.ref hp), u, v, z, none, none, none, none] ∧ 1 ≤ hs.length ∧ hs.length ≤ 4 ∧ (∀ w ∈ hs, WordT (tl w)) ∧ (2 < hs.length → (hs.map tl).head? ≠ some www) ∧ LS a l H' hp hs ∧ Kept [a, l] H H' ∧ Pot a l (m - 26) H', ?_, ?_⟩
      · have p4' := p4.le (m' := m - 26) (by omega)
        refine ⟨_, rfl, hp, _, rfl, .inl (SqL.of hls4.2.2), _, _, rfl, rfl, _, rfl, ?_⟩
        rw [List.length_map]
        by_cases q2 : 2 < hs.length
        · rw [decide_eq_true (by omega)]
          cases hs with
          | nil => simp at q2
          | cons h0 hr =>
            refine iteT ⟨_, rfl, hp, _, 0, .str h0, rfl, rfl, SqL.of hls4.2.2, atI_nat (j := 0) rfl, rfl, _, rfl, ?_⟩
            rw [str_is h0 "www" www (by decide +kernel)]
            by_cases q3 : tl h0 = www
            · rw [decide_eq_true q3]
              refine iteT ?_
              refine ⟨_, rfl, hp, _, 0, 0, rfl, rfl, hls4.2.2, (by unfold ixN; rw [if_pos (by decide), if_pos (by simp only [List.length_map, List.length_cons]; omega)]; rfl), ?_⟩
              have t4 : tl (Str.ofString "wwww") = [119, 119, 119, 119] := by decide +kernel
              refine ⟨"wwww" :: hr, rfl, by simp, by simp only [List.length_cons] at hlen ⊢; omega, fun x hx => ?_, fun _ => ?_, ⟨hn.1, hn.2, by rw [upd_same]; rfl⟩, K4.put (.inr hh0), p4'.put hn.1 hn.2⟩
              · rcases List.mem_cons.mp hx with z | z
                · rw [z, t4]
                  exact ⟨by decide, by decide, by decide⟩
                · exact hw x (List.mem_cons_of_mem _ z)
              · simp only [List.map_cons, List.head?_cons, t4]
                decide
            · rw [decide_eq_false q3]
              refine iteF ?_
              refine ⟨h0 :: hr, rfl, by simp, by omega, hw, fun _ => ?_, hls4, K4, p4'⟩
              simp only [List.map_cons, List.head?_cons]
              exact fun e => q3 (Option.some.inj e)
        · rw [decide_eq_false (by omega)]
          refine iteF (iteF ⟨hs, rfl, by omega, by omega, hw, fun h => absurd h q2, hls4, K4, p4'⟩)
      · rintro σ H5 ⟨hs, rfl, hl1, hl4, hw, hhd, hls5, K5, p5⟩
        refine rd_gates rfl hk fun H6 s6 => ?_
        have hls6 := hls5.kept (Kept.same s6)
        have K6 : Kept [a, l] H H6 := K5.trans (Kept.same s6)
        have p6 := p5.same s6
        have ho : ownG (tl kd) = 70 ∨ ownG (tl kd) = 700 := by unfold ownG; split <;> simp
        refine ⟨fun σ H' => ∃ g : Nat, σ = [some (.ref a), some (.str sgs), some (.str kd), some (.ref hp), u, v, z, some (.int (ownG (tl kd) : Nat)), some (.int (g : Nat)), none, none] ∧ g < 100000 ∧ LS a l H' hp hs ∧ Kept [a, l] H H' ∧ Pot a l (m - 29) H', ?_, ?_⟩
        · refine ⟨_, rfl, _, rfl, _, rfl, _, _, rfl, rfl, _, rfl, a, l, 100000, m - 26, rfl, by decide, by decide, by omega, p6, fun d1 H7 hd1 K7 p7 => ?_⟩
          refine ⟨_, rfl, a, l, 1000, m - 26 - 1, rfl, by decide, by decide, by omega, p7, fun d2 H8 hd2 K8 p8 => ⟨(show 6 ≤ sizeLine by decide), fun q hq => ?_⟩⟩
          have qn := p8.ne hq
          refine ⟨_, rfl, a, l, 6, m - 26 - 1 - 1, rfl, by decide, by decide, by omega, p8.new hq, fun r9 H9 hr9 K9 p9 => ?_⟩
          have hq9 := K9 q _ (by simp [qn.1, qn.2]) upd_same
          have K69 := (K7.trans K8).trans ((Kept.refl.new hq).trans K9)
          obtain ⟨g, hg, hg2⟩ : ∃ g : Nat, ([V.int (ownG (tl kd) : Nat), .int (ownG (tl kd) : Nat), .int (770 - (ownG (tl kd) : Nat)), .int (d1 : Nat), .int 0, .int (d2 : Nat)] : List V)[r9]? = some (.int (g : Nat)) ∧ g < 100000 := by
            match r9, hr9 with
            | 0, _ => exact ⟨_, rfl, by omega⟩
            | 1, _ => exact ⟨_, rfl, by omega⟩
            | 2, _ =>
              refine ⟨770 - ownG (tl kd), ?_, by omega⟩
              have e : ((770 - ownG (tl kd) : Nat) : Int) = 770 - (ownG (tl kd) : Nat) := by omega
              rw [e]
              rfl
            | 3, _ => exact ⟨_, rfl, by omega⟩
            | 4, _ => exact ⟨0, rfl, by omega⟩
            | 5, _ => exact ⟨_, rfl, by omega⟩
          exact ⟨q, _, r9, _, rfl, rfl, SqL.of hq9, atI_nat hg, g, rfl, hg2, hls6.kept K69, K6.trans K69, p9.le (by omega)⟩
        · rintro σ H7 ⟨g, rfl, hg, hls7, K7, p7⟩
          have oP : Oth BP (Str.ofString "&\"") := .inl ⟨rfl, by decide +kernel⟩
          have oA : Oth BA (Str.ofString "?/\"") := .inr ⟨rfl, by decide +kernel⟩
          refine rd_piecesS (K := K) (σ := [some (.ref a), some (.str sgs), some (.str kd), some (.ref hp), u, v, z, some (.int (ownG (tl kd) : Nat)), some (.int (g : Nat)), none, none]) 3 3 7 (B := BP) (by decide) (by decide) (by decide) (by omega) oP p7 (by rfl) (by exact fun _ => rfl) (by exact fun _ => rfl) fun pp pr H8 hpp lenP okP K8 hP p8 => ?_
          have hls8 := hls7.kept K8
          have K8 : Kept [a, l] H H8 := K7.trans K8
          refine rd_piecesS (K := K) (σ := [some (.ref a), some (.str sgs), some (.str kd), some (.ref hp), u, v, z, some (.int (ownG (tl kd) : Nat)), some (.int (g : Nat)), some (.ref pp), none]) 1 3 6 (B := BA) (by decide) (by decide) (by decide) (by omega) oA p8 (by rfl) (by exact fun _ => rfl) (by exact fun _ => rfl) fun ap ar H9 hap lenA okA K9 hA p9 => ?_
          have hls9 := hls8.kept K9
          have hP9 := hP.kept K9
          have K9 : Kept [a, l] H H9 := K8.trans K9
          refine ⟨_, rfl, _, rfl, _, rfl, _, rfl, _, rfl, (show 5 ≤ sizeLine by decide), fun t ht => ?_⟩
          have tn := p9.ne ht
          have ht0 : H t = none := K9.free ht (by simp [tn.1, tn.2])
          refine kk t ⟨tl kd, hs.map tl, g, pr.map (fun r => r.2.map tl), ar.map (fun r => r.2.map tl)⟩ _ ht0 ⟨kd, hp, pp, ap, hs, pr, ar, upd_same, hls9.new ht, hP9.new ht, hA.new ht, rfl, rfl, rfl, rfl, tn.1, tn.2⟩ ?_ ?_ (K9.new ht) ((p9.new ht).le (by omega))
          · refine ⟨hk, fun e => ?_, fun x hx => ?_, fun h => hhd (by simpa using h), hg, fun x hx => ?_, fun x hx => ?_⟩
            · have := congrArg List.length e
              rw [List.length_map] at this
              simp only [List.length_nil] at this
              omega
            · obtain ⟨y, hy, rfl⟩ := List.mem_map.mp hx
              exact ⟨(hw y hy).1, (hw y hy).2.1⟩
            · obtain ⟨y, hy, rfl⟩ := List.mem_map.mp hx
              exact ⟨(okP y hy).1, (okP y hy).2.1⟩
            · obtain ⟨y, hy, rfl⟩ := List.mem_map.mp hx
              exact (okA y hy).1
          · refine ⟨?_, fun x hx => ?_, ?_, fun x hx => ?_, ?_, fun x hx => ?_⟩
            · show (hs.map tl).length ≤ 4
              rw [List.length_map]; omega
            · obtain ⟨y, hy, rfl⟩ := List.mem_map.mp hx
              exact (hw y hy).2.2
            · show (pr.map _).length ≤ 6
              rw [List.length_map]; omega
            · obtain ⟨y, hy, rfl⟩ := List.mem_map.mp hx
              rw [List.length_map]
              exact (okP y hy).2.2
            · show (ar.map _).length ≤ 6
              rw [List.length_map]; omega
            · obtain ⟨y, hy, rfl⟩ := List.mem_map.mp hx
              rw [List.length_map]
              exact (okA y hy).2.2
end Kp
namespace Kp
open PySem PySem.Spec PyProof.Rows L2 TL
variable {P : Program} {w : World} {K : PySem.W.Frag} {mg : Str → Option Value} {base : Heap}
/-! ### _law_either -/
/-- sign by sign, as it was or a capital -/
inductive Eith : Tx → Tx → Prop
  | nil : Eith [] []
  | cons {c d : Nat} {x y : Tx} : (d = c ∨ d = up1 c) → Eith x y → Eith (c :: x) (d :: y)
theorem Eith.len {x y : Tx} (h : Eith x y) : y.length = x.length := by
  induction h with
  | nil => rfl
  | cons _ _ ih => rw [List.length_cons, List.length_cons, ih]
theorem Eith.low {x y : Tx} (h : Eith x y) (hx : ∀ c ∈ x, lowC c = c) : low y = x := by
  induction h with
  | nil => rfl
  | @cons c d x y hd _ ih =>
    have e1 : lowC d = c := by
      have hc := hx c (by simp)
      rcases hd with rfl | rfl
      · exact hc
      · unfold lowC at hc ⊢
        unfold up1
        by_cases q : 97 ≤ c ∧ c ≤ 122
        · rw [if_pos q, if_pos (capC_iff.mpr (by omega))]
          omega
        · rw [if_neg q]
          exact hc
    show lowC d :: Kp.low y = _
    rw [e1, ih fun z hz => hx z (by simp [hz])]
theorem Eith.all {x y : Tx} {f : Nat → Bool} (h : Eith x y) (hx : ∀ c ∈ x, f c = true ∧ f (up1 c) = true) : y.all f = true := by
  induction h with
  | nil => rfl
  | @cons c d x y hd _ ih =>
    rw [List.all_cons, ih fun z hz => hx z (by simp [hz])]
    rcases hd with rfl | rfl
    · rw [(hx _ (by simp)).1]; rfl
    · rw [(hx _ (by simp)).2]; rfl
theorem eith_of : ∀ (x : Tx) (ss : List Str), ss.length = x.length → (∀ (i : Nat) (s : Str), ss[i]? = some s → ∃ c d : Nat, (x : List Nat)[i]? = some c ∧ tl s = [d] ∧ (d = c ∨ d = up1 c)) → Eith x ((ss.map tl).flatten)
  | [], [], _, _ => .nil
  | [], s :: r, h, _ => by simp at h
  | c :: x, [], h, _ => by simp at h
  | c :: x, s :: r, h, hs => by
    obtain ⟨c', d, h1, h2, h3⟩ := hs 0 s rfl
    have e : c = c' := Option.some.inj h1
    subst e
    rw [List.map_cons, List.flatten_cons, h2]
    exact .cons h3 (eith_of x r (by simpa using h) fun i t ht => hs (i + 1) t ht)
abbrev sEither : Stmt := top 38
abbrev NEither : List Str := ["_law_pot_here", "_law_text", "_law_sign"]
theorem scEither : FnScope NEither ["_law_pot_here", "_law_text"] (defScope sEither) := ⟨rfl, rfl, rfl, by decide +kernel, rfl, by decide +kernel, by decide +kernel⟩
def spEither : Sp := fun vs H Q _ => ∃ (a l : Addr) (m : Nat) (x : Str), vs = [.ref a, .str x] ∧ okS x ∧ x.length ≤ 1000 ∧ x.length ≤ m ∧ Pot a l m H ∧ ∀ r H', Eith (tl x) (tl r) → Kept [a, l] H H' → Pot a l (m - x.length) H' → Q (.str r) H'
theorem ok_either (D : DefAt K mg "_law_either" sEither) (GL : Glb K w mg) (F__law_draw : FnAt P w K mg base CX0 "_law_draw" ["_law_pot_here", "_law_many"] [] 2 spDraw) : FnAt P w K mg base CX0 "_law_either" ["_law_pot_here", "_law_text"] [] 3 spEither := by
  refine D.ok scEither (fun _ _ _ _ _ _ us hl => match us, hl with | [_, _], _ => rfl) (fun vs H Q E h => ?_) (fun f cdv A outer s H vs Q E hr h => ?_)
  · obtain ⟨a, l, m, x, rfl, _⟩ := h
    rfl
  · obtain ⟨a, l, m, x, rfl, okx, hx, hm, pot, k⟩ := h
    refine ⟨_, (pss_one (ps_ret (pe_joinK (K := K) pe_str (pe_lc (own := [("_law_sign", 2)]) (g := gName 2) rfl scEither.nd (pi_str (pv 1)) (blkOk_by (own := [("_law_sign", 2)]) (N := NEither) (sc := defScope sEither) (by decide +kernel)) (fun _ _ _ _ _ => pg_name (i := 2) scEither.nd rfl (Or.inl rfl)) (fun _ _ _ _ _ => pts_nil) (fun _ _ _ _ _ => (pe_ix (ix_listK (K := K)) (pe_lst (pa_cons (pv 2) (pa_cons (pe_upper (pv 2)) pa_nil))) (pe_cf F__law_draw (hr.mono (by decide)) pass0 (pa_cons (pv 0) (pa_cons pe_int pa_nil))) (fun _ _ => rfl))))))), ?_⟩
    have hl := len_tl x
    have hsz : x.cps.size = x.length := rfl
    refine ⟨⟨_, rfl⟩, _, rfl, x, rfl, fun D hD => ?_⟩
    have hD0 := pot.ne hD
    refine lc_strs walk_str (fun i s => ∃ c d, (tl x)[i]? = some c ∧ tl s = [d] ∧ (d = c ∨ d = up1 c)) 1 m (by omega) hD pot (fun _ _ => True.intro) (fun _ => rfl) (fun i y H3 H4 Q' hi hy K3 p3 hQ => ?_) (fun ss H3 hlen hok K3 hls p3 => ?_)
    · obtain ⟨rfl, c, hc, rfl⟩ := hy
      have hc2 : (tl x)[i]? = some c := by
        show x.cps.toList[i]? = some c
        rw [Array.getElem?_toList]
        exact hc
      have hc3 := okx c (List.mem_of_getElem? hc2)
      have hu : Txt.upper (⟨#[c]⟩ : Str) = ⟨#[up1 c]⟩ := SX.upper_S (a := [c]) (by simp [hc3])
      refine ⟨_, rfl, _, rfl, ⟨_, rfl⟩, ⟨#[c]⟩, rfl, rfl, (show 1 ≤ 5592405 by decide), (show 2 ≤ sizeLine by decide), fun q hq => ?_⟩
      have qn := p3.ne hq
      refine ⟨_, rfl, a, l, 2, m - i * 1, rfl, by decide, by decide, by omega, p3.new hq, fun r H5 hr5 K5 p5 => ?_⟩
      have hq5 := K5 q _ (by simp [qn.1, qn.2]) upd_same
      have K5 := (Kept.refl.new hq).trans K5
      rw [hu] at hq5
      match r, hr5 with
      | 0, _ => exact ⟨q, _, 0, _, rfl, rfl, SqL.of hq5, atI_nat (j := 0) rfl, hQ _ H5 ⟨c, c, hc2, rfl, .inl rfl⟩ K5 (p5.le (by omega))⟩
      | 1, _ => exact ⟨q, _, 1, _, rfl, rfl, SqL.of hq5, atI_nat (j := 1) rfl, hQ _ H5 ⟨c, up1 c, hc2, rfl, .inr rfl⟩ K5 (p5.le (by omega))⟩
    · have hE := eith_of (tl x) ss (by omega) hok
      have j0 := join0 ss
      have l0 : (Str.ofString "").length = 0 := by decide +kernel
      have hs1 : (ss.map (·.length)).sum = ((ss.map tl).flatten).length := by
        rw [len_strs, List.length_flatten]
        rfl
      have hs2 := hE.len
      refine ⟨_, D, ss, rfl, rfl, .inl (SqL.of hls.2.2), by rw [l0]; omega, k _ H3 (by rw [j0]; exact hE) K3 (p3.le (by omega))⟩
/-! ### _law_coded -/
abbrev sCoded : Stmt := top 39
abbrev NCoded : List Str := ["_law_pot_here", "_law_piece_here", "_law_found", "_law_atom_here"]
theorem scCoded : FnScope NCoded ["_law_pot_here", "_law_piece_here"] (defScope sCoded) := ⟨rfl, rfl, rfl, by decide +kernel, rfl, by decide +kernel, by decide +kernel⟩
def spCoded : Sp := fun vs H Q _ => ∃ (a l p : Addr) (m : Nat) (xs : List Str) (B : Tx), vs = [.ref a, .ref p] ∧ NoHex B ∧ LS a l H p xs ∧ (∀ x ∈ xs, Atm B (tl x)) ∧ xs.length ≤ 9 ∧ 27 ≤ m ∧ Pot a l m H ∧
  ∀ r H', Cod B ((xs.map tl).flatten) (tl r) → (tl r).length ≤ 27 → Kept [a, l] H H' → Pot a l (m - 27) H' → Q (.str r) H'
theorem up_hex : ∀ c : Nat, c < 128 → shexC c = true → hexC c = true ∧ hexC (up1 c) = true ∧ lowC c = c ∧ lowC (up1 c) = c := by decide +kernel
theorem eith_hex {x y : Nat} {t : Tx} (h : Eith [x, y] t) (hx : shexC x = true) (hy : shexC y = true) : ∃ x' y', t = [x', y'] ∧ hexC x' = true ∧ hexC y' = true ∧ lowC x' = x ∧ lowC y' = y := by
  cases h with
  | cons h1 h2 =>
    cases h2 with
    | cons h3 h4 =>
      cases h4
      have bx : x < 128 := by rw [shexC_iff] at hx; omega
      have b_y : y < 128 := by rw [shexC_iff] at hy; omega
      obtain ⟨a1, a2, a3, a4⟩ := up_hex x bx hx
      obtain ⟨b1, b2, b3, b4⟩ := up_hex y b_y hy
      refine ⟨_, _, rfl, ?_, ?_, ?_, ?_⟩
      · rcases h1 with rfl | rfl
        · exact a1
        · exact a2
      · rcases h3 with rfl | rfl
        · exact b1
        · exact b2
      · rcases h1 with rfl | rfl
        · exact a3
        · exact a4
      · rcases h3 with rfl | rfl
        · exact b3
        · exact b4
theorem ok_coded (D : DefAt K mg "_law_coded" sCoded) (GL : Glb K w mg) (F__law_draw : FnAt P w K mg base CX0 "_law_draw" ["_law_pot_here", "_law_many"] [] 2 spDraw) (F__law_either : FnAt P w K mg base CX0 "_law_either" ["_law_pot_here", "_law_text"] [] 3 spEither)
    (F__law_plain : FnAt P w K mg base CX0 "_law_plain" [] [] 1 spPlain) (F__law_code : FnAt P w K mg base CX0 "_law_code" ["_law_number"] [] 1 spCode) (F__law_number_of : FnAt P w K mg base CX0 "_law_number_of" ["_law_sign"] [] 1 spNumOf) :
    FnAt P w K mg base CX0 "_law_coded" ["_law_pot_here", "_law_piece_here"] [] 4 spCoded := by
  refine D.ok scCoded (fun _ _ _ _ _ _ us hl => match us, hl with | [_, _], _ => rfl) (fun vs H Q E h => ?_) (fun f cdv A outer s H vs Q E hr h => ?_)
  · obtain ⟨a, l, p, m, xs, B, rfl, _⟩ := h
    rfl
  · obtain ⟨a, l, p, m, xs, B, rfl, nB, hls, hat, hlen, hm, pot, k⟩ := h
    refine ⟨_, (pss_cons (ps_set (i := 2) scCoded.nd rfl (Or.inl rfl) pe_str)
      (pss_cons (ps_for PassesOwn.never rfl (pi_list (pv 1)) (pg_name (i := 3) scCoded.nd rfl (Or.inl rfl)) (pss_one (ps_if (pt_cmpR op_eq (pe_callB call_len_str (by rfl) GL.len (by decide +kernel) (pa_cons (pv 3) pa_nil)) pe_int (nomark _)) (pss_one (ps_set (i := 2) scCoded.nd rfl (Or.inl rfl) (pe_op op_add_str (pe_op op_add_str (pv 2) pe_str) (pe_cf F__law_either (hr.mono (by decide)) pass0 (pa_cons (pv 0) (pa_cons (pe_slice sl_str (pv 3) (po_some pe_int) po_none) pa_nil)))))) (pss_one (ps_if (PW.pt (pw_and (pt_cmpR op_in_sign (pv 3) (pe_cf0 F__law_plain (hr.mono (by decide)) pass0) (by rfl)) (pw_and1 (pt_cmpR op_eq (pe_cf F__law_draw (hr.mono (by decide)) pass0 (pa_cons (pv 0) (pa_cons pe_int pa_nil))) pe_int (nomark _))))) (pss_one (ps_set (i := 2) scCoded.nd rfl (Or.inl rfl) (pe_op op_add_str (pe_op op_add_str (pv 2) pe_str) (pe_cf F__law_either (hr.mono (by decide)) pass0 (pa_cons (pv 0) (pa_cons (pe_cf F__law_code (hr.mono (by decide)) pass0 (pa_cons (pe_cf F__law_number_of (hr.mono (by decide)) pass0 (pa_cons (pv 3) pa_nil)) pa_nil)) pa_nil)))))) (pss_one (ps_set (i := 2) scCoded.nd rfl (Or.inl rfl) (pe_op op_add_str (pv 2) (pv 3)))))))))
      (pss_one (ps_ret (pv 2))))), ?_⟩
    have t0 : tl (Str.ofString "") = [] := by decide +kernel
    have t1 : tl (Str.ofString "~") = [126] := by decide +kernel
    have l1 : (Str.ofString "~").length = 1 := by decide +kernel
    refine ⟨_, rfl, p, rfl, ⟨_, SqL.of hls.2.2⟩, for_list (K := K) (a := p) (xs := xs.map V.str) (fun i σ H' => ∃ (s : Str) (u : Option V), σ = [some (.ref a), some (.ref p), some (.str s), u] ∧ Cod B (((xs.take i).map tl).flatten) (tl s) ∧ (tl s).length ≤ 3 * i ∧ Kept [a, l] H H' ∧ Pot a l (m - 3 * i) H')
      ⟨_, _, rfl, by rw [t0]; exact Cod.nil, by rw [t0]; exact Nat.zero_le _, Kept.refl, pot⟩ (fun i σ H' _ ⟨_, _, _, _, _, K1, _⟩ => SqL.of (hls.kept K1).2.2) ?_ ?_⟩
    · rintro i y σ H1 hi ⟨s, u, rfl, hc, hs, K1, p1⟩
      obtain ⟨x, hx, rfl⟩ := strs_at hi
      have hm' : x ∈ xs := List.mem_of_getElem? hx
      have il : i < xs.length := (List.getElem?_eq_some_iff.mp hx).1
      have ed : ((xs.take (i + 1)).map tl).flatten = ((xs.take i).map tl).flatten ++ tl x := by
        rw [List.take_add_one, hx]
        simp
      have lx := len_tl x
      have lsx := len_tl s
      have la : (tl x).length ≤ 3 := by rcases hat x hm' with ⟨c, e, _⟩ | ⟨c, d, e, _⟩ <;> rw [e] <;> simp
      refine ⟨_, rfl, x, rfl, by rw [sizeLine_eq]; omega, rfl, _, rfl, ?_⟩
      have ei : decide (V.int (x.length : Nat) = V.int 3) = decide ((tl x).length = 3) := decide_eq_decide.mpr ⟨fun e => by have := V.int.inj e; omega, fun e => by rw [lx, e]; rfl⟩
      rw [ei]
      have more : ∀ (t r : Tx), Cod B (((xs.take i).map tl).flatten) t → Cod B (tl x) r → Cod B (((xs.take (i + 1)).map tl).flatten) (t ++ r) := fun t r h1 h2 => by
        rw [ed]
        exact h1.app h2
      rcases hat x hm' with ⟨c, ec, c1, c2, c3⟩ | ⟨c, d, ec, hc1, hc2, hc3⟩
      · rw [decide_eq_false (by rw [ec]; exact (by decide : ¬ (1 = 3)))]
        have ex : x = ⟨#[c]⟩ := ext_tl ec
        have plainOut : ∀ H2, Kept [a, l] H H2 → Pot a l (m - 3 * (i + 1)) H2 → ∃ (s' : Str) (u : Option V), [some (V.ref a), some (.ref p), some (.str (s ++ x)), some (.str x)] = [some (V.ref a), some (.ref p), some (.str s'), u] ∧ Cod B (((xs.take (i + 1)).map tl).flatten) (tl s') ∧ (tl s').length ≤ 3 * (i + 1) ∧ Kept [a, l] H H2 ∧ Pot a l (m - 3 * (i + 1)) H2 := fun H2 K2 p2 => by
          refine ⟨_, _, rfl, ?_, ?_, K2, p2⟩
          · rw [tl_app]
            exact more _ _ hc (by rw [ec]; exact cod_sign c1 c2 c3)
          · rw [tl_app, List.length_append]
            omega
        refine iteF ⟨_, rfl, rfl, fun z hz => ⟨c, z, by rw [ex], rfl, _, rfl, ?_⟩⟩
        have ezz : z.cps.toList = plainL := hz
        rw [ezz]
        by_cases q : c ∈ plainL
        · rw [decide_eq_true q]
          have hp := plainL_all c q
          refine iteT ⟨_, rfl, a, l, 5, m - 3 * i, rfl, by decide, by decide, by omega, p1, fun r H2 hr2 K2 p2 => ⟨rfl, _, rfl, ?_⟩⟩
          cases decide (V.int (r : Nat) = V.int 0) with
          | false =>
            refine iteF ?_
            exact ⟨_, rfl, _, rfl, _, _, rfl, rfl, by rw [sizeLine_eq]; omega, plainOut H2 (K1.trans K2) (p2.le (by omega))⟩
          | true =>
            refine iteT ?_
            have b := plain_bound hp
            refine ⟨_, rfl, _, _, rfl, rfl, by rw [sizeLine_eq, l1]; omega, _, rfl, _, rfl, c, by rw [ex]; rfl, hp, c, rfl, by omega, fun t x' y' ht hx' hy' hxy => ?_⟩
            have lt := len_tl t
            rw [ht] at lt
            have lt2 : t.length = 2 := lt
            have okt : okS t := fun z hz => by
              have hz2 : z ∈ tl t := hz
              rw [ht] at hz2
              rw [shexC_iff] at hx' hy'
              simp only [List.mem_cons, List.not_mem_nil, or_false] at hz2
              rcases hz2 with e | e <;> omega
            refine ⟨a, l, m - 3 * i - 1, t, rfl, okt, by omega, by omega, p2, fun r' H3 hE K3 p3 => ?_⟩
            rw [ht] at hE
            obtain ⟨x2, y2, er, g1, g2, g3, g4⟩ := eith_hex hE hx' hy'
            have lr := len_tl r'
            rw [er] at lr
            have lr2 : r'.length = 2 := lr
            have lq : (s ++ Str.ofString "~").length = s.length + 1 := by
              have := len_tl (s ++ Str.ofString "~")
              rw [tl_app, List.length_append, t1] at this
              rw [this, lsx]
              rfl
            refine ⟨_, _, rfl, rfl, by rw [sizeLine_eq, lq]; omega, _, _, rfl, ?_, ?_, (K1.trans K2).trans K3, p3.le (by omega)⟩
            · rw [tl_app, tl_app, t1, er]
              have e2 : tl s ++ [126] ++ [x2, y2] = tl s ++ [126, x2, y2] := by simp
              rw [e2]
              refine more _ _ hc ?_
              rw [ec]
              refine cod_plain nB g1 g2 ?_ hp
              rw [← hx2_low g1 g2, g3, g4, hxy]
            · rw [tl_app, tl_app, t1, er, List.length_append, List.length_append]
              simp only [List.length_cons, List.length_nil]
              omega
        · rw [decide_eq_false q]
          refine iteF ?_
          refine iteF ⟨_, rfl, _, rfl, _, _, rfl, rfl, by rw [sizeLine_eq]; omega, plainOut H1 K1 (p1.le (by omega))⟩
      · rw [decide_eq_true (by rw [ec]; rfl)]
        have hcut : tl (cutS x (some 1) none) = [c, d] := by
          have := cut_from (tl x) 1 x rfl
          rw [ec] at this
          exact this
        have lcut := len_tl (cutS x (some 1) none)
        rw [hcut] at lcut
        have lcut2 : (cutS x (some 1) none).length = 2 := lcut
        have okt : okS (cutS x (some 1) none) := fun z hz => by
          have hz2 : z ∈ tl (cutS x (some 1) none) := hz
          rw [hcut] at hz2
          rw [shexC_iff] at hc1 hc2
          simp only [List.mem_cons, List.not_mem_nil, or_false] at hz2
          rcases hz2 with e | e <;> omega
        refine iteT ⟨_, rfl, _, _, rfl, rfl, by rw [sizeLine_eq, l1]; omega, _, rfl, _, rfl, _, rfl, x, rfl, by rw [sizeLine_eq]; omega, a, l, m - 3 * i, _, rfl, okt, by omega, by omega, p1, fun r' H3 hE K3 p3 => ?_⟩
        rw [hcut] at hE
        obtain ⟨x2, y2, er, g1, g2, g3, g4⟩ := eith_hex hE hc1 hc2
        have lr := len_tl r'
        rw [er] at lr
        have lr2 : r'.length = 2 := lr
        have lq : (s ++ Str.ofString "~").length = s.length + 1 := by
          have := len_tl (s ++ Str.ofString "~")
          rw [tl_app, List.length_append, t1] at this
          rw [this, lsx]
          rfl
        refine ⟨_, _, rfl, rfl, by rw [sizeLine_eq, lq]; omega, _, _, rfl, ?_, ?_, K1.trans K3, p3.le (by omega)⟩
        · rw [tl_app, tl_app, t1, er]
          have e2 : tl s ++ [126] ++ [x2, y2] = tl s ++ [126, x2, y2] := by simp
          rw [e2]
          refine more _ _ hc ?_
          rw [ec]
          exact cod_hex nB g1 g2 g3 g4 hc3
        · rw [tl_app, tl_app, t1, er, List.length_append, List.length_append]
          simp only [List.length_cons, List.length_nil]
          omega
    · rintro σ H1 ⟨s, u, rfl, hc, hs, K1, p1⟩
      have ef : xs.take (xs.map V.str).length = xs := by rw [List.length_map, List.take_length]
      rw [ef] at hc
      rw [List.length_map] at hs p1
      exact ⟨_, rfl, k s H1 hc (by omega) K1 (p1.le (by omega))⟩
end Kp
namespace Kp
open PySem PySem.Spec PyProof.Rows L2 TL
variable {P : Program} {w : World} {K : PySem.W.Frag} {mg : Str → Option Value} {base : Heap}
/-! ### _law_gate -/
theorem rep_one (n c : Nat) : (List.replicate n ([c] : Tx)).flatten = List.replicate n c := by
  induction n with
  | zero => rfl
  | succ n ih => rw [List.replicate_succ, List.flatten_cons, ih, List.replicate_succ]; rfl
theorem val_zeros (n : Nat) (x : Tx) : NumText.digitsVal (List.replicate n 48 ++ x) = NumText.digitsVal x := by
  unfold NumText.digitsVal
  rw [List.foldl_append]
  congr 1
  induction n with
  | zero => rfl
  | succ n ih => rw [List.replicate_succ, List.foldl_cons]; exact ih
abbrev sGate : Stmt := top 40
abbrev NGate : List Str := ["_law_pot_here", "_law_kind", "_law_gate_here", "_law_text"]
theorem scGate : FnScope NGate ["_law_pot_here", "_law_kind", "_law_gate_here"] (defScope sGate) := ⟨rfl, rfl, rfl, by decide +kernel, rfl, by decide +kernel, by decide +kernel⟩
def spGate : Sp := fun vs H Q _ => ∃ (a l : Addr) (m : Nat) (k : Str) (g : Nat), vs = [.ref a, .str k, .int (g : Nat)] ∧ (tl k = leafT ∨ tl k = sealT) ∧ g < 100000 ∧ 2 ≤ m ∧ Pot a l m H ∧
  ∀ r H', ((tl r = [] ∧ g = ownG (tl k)) ∨ ∃ q, tl r = 58 :: q ∧ isGateL q = true ∧ NumText.digitsVal q = g) → (tl r).length ≤ 6 → Kept [a, l] H H' → Pot a l (m - 2) H' → Q (.str r) H'
theorem log_small {g : Nat} (h : g < 100000) : ((g : Nat) : Int).natAbs.log2 < 1920 := by
  have h1 : g < 2 ^ 17 := Nat.lt_of_lt_of_le h (by decide)
  have h2 : ((g : Nat) : Int).natAbs = g := rfl
  rw [h2]
  by_cases z : g = 0
  · rw [z]; decide
  · exact Nat.lt_of_lt_of_le ((Nat.log2_lt z).mpr h1) (by decide)
theorem ok_gate (D : DefAt K mg "_law_gate" sGate) (GL : Glb K w mg) (F__law_draw : FnAt P w K mg base CX0 "_law_draw" ["_law_pot_here", "_law_many"] [] 2 spDraw) : FnAt P w K mg base CX0 "_law_gate" ["_law_pot_here", "_law_kind", "_law_gate_here"] [] 3 spGate := by
  refine D.ok scGate (fun _ _ _ _ _ _ us hl => match us, hl with | [_, _, _], _ => rfl) (fun vs H Q E h => ?_) (fun f cdv A outer s H vs Q E hr h => ?_)
  · obtain ⟨a, l, m, k, g, rfl, _⟩ := h
    rfl
  · obtain ⟨a, l, m, k, g, rfl, hk, hg, hm, pot, kk⟩ := h
    refine ⟨_, (C8.pss_cut (ps_if (PW.pt (pw_and (pt_cmpR op_eq (pv 2) (pe_dget (hu_of hr) (pe_disp (pps_cons pe_str pe_int (pps_cons pe_str pe_int pps_nil)) (by rfl) (by rfl) (fun z => by cases z) (by decide)) (pv 1) (fun _ _ => rfl)) (nomark _)) (pw_and1 (pt_cmpR op_eq (pe_cf F__law_draw (hr.mono (by decide)) pass0 (pa_cons (pv 0) (pa_cons pe_int pa_nil))) pe_int (nomark _))))) (pss_one (ps_ret pe_str)) pss_nil)
      (pss_cons (ps_set (i := 3) scGate.nd rfl (Or.inl rfl) (pe_callTy call_str_int (by rfl) GL.str (by decide +kernel) (pa_cons (pv 2) pa_nil)))
      (pss_one (ps_ret (pe_op op_add_str (pe_op op_add_str pe_str (pe_op op_repS pe_str (pe_cf F__law_draw (hr.mono (by decide)) pass0 (pa_cons (pv 0) (pa_cons (pe_op op_sub pe_int (pe_callB call_len_str (by rfl) GL.len (by decide +kernel) (pa_cons (pv 3) pa_nil))) pa_nil))))) (pv 3)))))), ?_⟩
    refine ⟨fun σ H' => σ = [some (.ref a), some (.str k), some (.int (g : Nat)), none] ∧ Kept [a, l] H H' ∧ Pot a l (m - 1) H', ?_, ?_⟩
    · refine ⟨_, rfl, ?_⟩
      refine rd_gates rfl hk fun H1 s1 => ⟨rfl, _, rfl, ?_⟩
      have eg : decide (V.int (g : Nat) = V.int (ownG (tl k) : Nat)) = decide (g = ownG (tl k)) := decide_eq_decide.mpr ⟨fun e => by have := V.int.inj e; omega, fun e => by rw [e]⟩
      rw [eg]
      have p1 := pot.same s1
      by_cases q : g = ownG (tl k)
      · rw [decide_eq_true q]
        refine iteT ⟨_, rfl, a, l, 2, m, rfl, by decide, by decide, by omega, p1, fun r H2 hr2 K2 p2 => ⟨rfl, _, rfl, ?_⟩⟩
        have t0 : tl (Str.ofString "") = [] := by decide +kernel
        cases decide (V.int (r : Nat) = V.int 0) with
        | true =>
          refine iteT ?_
          exact kk _ H2 (.inl ⟨t0, q⟩) (by rw [t0]; decide) ((Kept.same s1).trans K2) (p2.le (by omega))
        | false =>
          refine iteF ?_
          exact ⟨rfl, (Kept.same s1).trans K2, p2⟩
      · rw [decide_eq_false q]
        exact iteF (iteF ⟨rfl, Kept.same s1, p1.le (by omega)⟩)
    · rintro σ H1 ⟨rfl, K1, p1⟩
      have tn : tl (toString ((g : Nat) : Int) : Str) = numL g := tl_num g
      have ln := len_tl (toString ((g : Nat) : Int) : Str)
      rw [tn] at ln
      have dg := digits_gate hg
      have nl := num_len hg
      have n1 : 1 ≤ (numL g).length := List.length_pos_iff.mpr (numL_ne g)
      refine ⟨_, rfl, _, rfl, log_small hg, ?_⟩
      refine ⟨_, rfl, _, rfl, _, rfl, by rw [sizeLine_eq]; omega, _, _, rfl, rfl, a, l, 6 - (numL g).length, m - 1, ?_, by omega, by omega, by omega, p1, fun r H2 hr2 K2 p2 => ?_⟩
      · have e : (6 : Int) - ((toString ((g : Nat) : Int) : Str).length : Nat) = ((6 - (numL g).length : Nat) : Int) := by omega
        show [V.ref a, V.int (6 - ((toString ((g : Nat) : Int) : Str).length : Nat))] = _
        rw [e]
      · have l0 : (Str.ofString "0").length = 1 := by decide +kernel
        have t0 : tl (Str.ofString "0") = [48] := by decide +kernel
        have tc : tl (Str.ofString ":") = [58] := by decide +kernel
        have tr : tl (repS (Str.ofString "0") ((r : Nat) : Int).toNat) = List.replicate r 48 := by
          show (List.replicate ((r : Nat) : Int).toNat (tl (Str.ofString "0"))).flatten = _
          rw [t0, rep_one]
          rfl
        have lrp := len_tl (repS (Str.ofString "0") ((r : Nat) : Int).toNat)
        rw [tr, List.length_replicate] at lrp
        have lc : (Str.ofString ":").length = 1 := by decide +kernel
        have lq := len_tl (Str.ofString ":" ++ repS (Str.ofString "0") ((r : Nat) : Int).toNat)
        rw [tl_app, List.length_append, tc, tr, List.length_replicate] at lq
        simp only [List.length_cons, List.length_nil] at lq
        refine ⟨_, _, rfl, rfl, by omega, by omega, by rw [l0]; decide, _, _, rfl, rfl, by rw [sizeLine_eq]; omega, _, rfl, _, _, rfl, rfl, by rw [sizeLine_eq]; omega, ?_⟩
        have et : tl (Str.ofString ":" ++ repS (Str.ofString "0") ((r : Nat) : Int).toNat ++ (toString ((g : Nat) : Int) : Str)) = 58 :: (List.replicate r 48 ++ numL g) := by
          rw [tl_app, tl_app, tc, tr, tn]
          rfl
        refine kk _ H2 (.inr ⟨_, et, ?_, ?_⟩) ?_ (K1.trans K2) (p2.le (by omega))
        · unfold isGateL at dg ⊢
          simp only [Bool.and_eq_true, decide_eq_true_eq] at dg ⊢
          refine ⟨⟨?_, ?_⟩, ?_⟩
          · rw [List.length_append]; omega
          · rw [List.length_append, List.length_replicate]; omega
          · rw [List.all_append, dg.2, Bool.and_true]
            exact List.all_eq_true.mpr fun c hc => by rw [List.eq_of_mem_replicate hc]; rfl
        · rw [val_zeros, numL_val]
        · rw [et]
          simp only [List.length_cons, List.length_append, List.length_replicate]
          omega
end Kp
namespace Kp
open PySem PySem.Spec PyProof.Rows L2 TL
variable {P : Program} {w : World} {K : PySem.W.Frag} {mg : Str → Option Value} {base : Heap}
/-! ### _law_way -/
/-- segments that may stand in a way -/
def SegOk (s : Tx) : Prop := isW s = true ∧ ∀ d ∈ s, d ∉ BP
/-- segments that tell nothing -/
structure Menu (ms : List Str) : Prop where
  ok : ∀ s ∈ ms, SegOk (tl s)
  fold : ∀ f, ((ms.map tl).map toldL).foldl stepW f = f
  few : sumL (ms.map tl) + ms.length ≤ 14
theorem step_nil (f : List Tx) : stepW f [] = f := by unfold stepW; rw [if_neg (by decide), if_pos (.inl rfl)]
theorem step_dot (f : List Tx) : stepW f [46] = f := by unfold stepW; rw [if_neg (by decide), if_pos (.inr rfl)]
theorem step_dots (f : List Tx) : stepW f [46, 46] = f.dropLast := by unfold stepW; rw [if_pos rfl]
theorem step_one (f : List Tx) {c : Nat} (h : c ≠ 46) : stepW f [c] = f ++ [[c]] := stepW_ok ⟨by simp, by simpa using h, by simp⟩
theorem seg_all {ts : List Tx} (h : ts.all (fun s => isW s && s.all fun d => !BP.contains d) = true) : ∀ s ∈ ts, SegOk s := fun s hs => by
  have := List.all_eq_true.mp h s hs
  rw [Bool.and_eq_true] at this
  refine ⟨this.1, fun d hd z => ?_⟩
  have h2 := List.all_eq_true.mp this.2 d hd
  rw [Bool.not_eq_true'] at h2
  rw [List.contains_iff_mem.mpr z] at h2
  cases h2
theorem menu_of {ms : List Str} {ts us : List Tx} (e : ms.map tl = ts) (h : ts.all (fun s => isW s && s.all fun d => !BP.contains d) = true) (eu : ts.map toldL = us) (hf : ∀ f, us.foldl stepW f = f) (hl : sumL ts + ts.length ≤ 14) : Menu ms := by
  refine ⟨fun s hs => seg_all h _ (by rw [← e]; exact List.mem_map.mpr ⟨s, hs, rfl⟩), fun f => by rw [e, eu]; exact hf f, ?_⟩
  have := congrArg List.length e
  rw [List.length_map] at this
  rw [e, this]
  exact hl
theorem menu0 : Menu [] := ⟨(fun s h => by cases h), fun f => rfl, by decide⟩
theorem menu1 : Menu [""] := menu_of (ts := [[]]) (us := [[]]) (by decide +kernel) (by decide +kernel) (by decide +kernel) (fun f => step_nil f) (by decide)
theorem menu2 : Menu ["."] := menu_of (ts := [[46]]) (us := [[46]]) (by decide +kernel) (by decide +kernel) (by decide +kernel) (fun f => step_dot f) (by decide)
theorem menu3 : Menu ["~2e"] := menu_of (ts := [[126, 50, 101]]) (us := [[46]]) (by decide +kernel) (by decide +kernel) (by decide +kernel) (fun f => step_dot f) (by decide)
theorem menu4 : Menu ["x", ".."] := menu_of (ts := [[120], [46, 46]]) (us := [[120], [46, 46]]) (by decide +kernel) (by decide +kernel) (by decide +kernel) (fun f => by
  show stepW (stepW f [120]) [46, 46] = f
  rw [step_one f (by decide), step_dots, List.dropLast_concat]) (by decide)
theorem menu5 : Menu ["x", "y", "..", "~2e~2e"] := menu_of (ts := [[120], [121], [46, 46], [126, 50, 101, 126, 50, 101]]) (us := [[120], [121], [46, 46], [46, 46]]) (by decide +kernel) (by decide +kernel) (by decide +kernel) (fun f => by
  show stepW (stepW (stepW (stepW f [120]) [121]) [46, 46]) [46, 46] = f
  rw [step_one f (by decide), step_one _ (by decide), step_dots, step_dots, List.dropLast_concat, List.dropLast_concat]) (by decide)
theorem menu6 : Menu ["", "z", "", ".."] := menu_of (ts := [[], [122], [], [46, 46]]) (us := [[], [122], [], [46, 46]]) (by decide +kernel) (by decide +kernel) (by decide +kernel) (fun f => by
  show stepW (stepW (stepW (stepW f []) [122]) []) [46, 46] = f
  rw [step_nil, step_one _ (by decide), step_nil, step_dots, List.dropLast_concat]) (by decide)
theorem menu7 : Menu ["q", ".."] := menu_of (ts := [[113], [46, 46]]) (us := [[113], [46, 46]]) (by decide +kernel) (by decide +kernel) (by decide +kernel) (fun f => by
  show stepW (stepW f [113]) [46, 46] = f
  rw [step_one f (by decide), step_dots, List.dropLast_concat]) (by decide)
/-- the segments so far make these parts -/
structure WayS (ms : List Str) (ps : List Tx) (n : Nat) : Prop where
  ok : ∀ s ∈ ms, SegOk (tl s)
  fold : ((ms.map tl).map toldL).foldl stepW [] = ps
  few : sumL (ms.map tl) + ms.length ≤ n
theorem WayS.menu {ms us : List Str} {ps : List Tx} {n : Nat} (h : WayS ms ps n) (m : Menu us) : WayS (ms ++ us) ps (n + 14) := by
  refine ⟨fun s hs => (List.mem_append.mp hs).elim (h.ok s) (m.ok s), ?_, ?_⟩
  · rw [List.map_append, List.map_append, List.foldl_append, h.fold, m.fold]
  · have h1 := h.few
    have h2 := m.few
    rw [List.map_append, sumL_app, List.length_append]
    omega
theorem WayS.le {ms : List Str} {ps : List Tx} {n n' : Nat} (h : WayS ms ps n) (hn : n ≤ n') : WayS ms ps n' := ⟨h.ok, h.fold, Nat.le_trans h.few hn⟩
theorem WayS.part {ms : List Str} {ps : List Tx} {n : Nat} {r : Str} {p : Tx} (h : WayS ms ps n) (c : Cod BP p (tl r)) (hl : (tl r).length ≤ 27) (hp : okPart p) : WayS (ms ++ [r]) (ps ++ [p]) (n + 28) := by
  refine ⟨fun s hs => ?_, ?_, ?_⟩
  · rcases List.mem_append.mp hs with z | z
    · exact h.ok s z
    · rw [List.mem_singleton.mp z]
      exact ⟨c.isw, c.free⟩
  · rw [List.map_append, List.map_append, List.foldl_append, h.fold]
    show stepW ps (toldL (tl r)) = _
    rw [c.told, stepW_ok hp]
  · have h1 := h.few
    rw [List.map_append, sumL_app, List.length_append]
    show sumL (ms.map tl) + sumL [tl r] + (ms.length + 1) ≤ _
    have : sumL [tl r] = (tl r).length := by simp [sumL]
    omega
abbrev sWay : Stmt := top 41
abbrev NWay : List Str := ["_law_pot_here", "_law_parts", "_law_some", "_law_part", "_law_turn", "_law_menu", "_law_one"]
theorem scWay : FnScope NWay ["_law_pot_here", "_law_parts"] (defScope sWay) := ⟨rfl, rfl, rfl, by decide +kernel, rfl, by decide +kernel, by decide +kernel⟩
/-- rows that hold these pieces -/
def RowsOk (B : Tx) (rows : List SRow) : Prop := ∀ r ∈ rows, Piece B (r.2.map tl) ∧ r.2.length ≤ 9
def flatR (rows : List SRow) : List Tx := rows.map fun r => (r.2.map tl).flatten
def spWay : Sp := fun vs H Q _ => ∃ (a l p : Addr) (m : Nat) (rows : List SRow), vs = [.ref a, .ref p] ∧ LL a l H p rows ∧ RowsOk BP rows ∧ (∀ q ∈ flatR rows, okPart q) ∧ rows.length ≤ 10 ∧ 330 ≤ m ∧ Pot a l m H ∧
  ∀ r H' segs, tl r = wayP segs → WayW segs (flatR rows) → (tl r).length ≤ 800 → Kept [a, l] H H' → Pot a l (m - 330) H' → Q (.str r) H'
theorem rows_at {rows : List SRow} {i : Nat} {x : V} (h : (rows.map fun r => V.ref r.1)[i]? = some x) : ∃ r, rows[i]? = some r ∧ x = .ref r.1 := by
  rw [List.getElem?_map] at h
  cases e : rows[i]? with
  | none => rw [e] at h; cases h
  | some r => rw [e] at h; exact ⟨r, rfl, (Option.some.inj h).symm⟩
theorem ok_way (D : DefAt K mg "_law_way" sWay) (GL : Glb K w mg) (F__law_draw : FnAt P w K mg base CX0 "_law_draw" ["_law_pot_here", "_law_many"] [] 2 spDraw) (F__law_pick : FnAt P w K mg base CX0 "_law_pick" ["_law_pot_here", "_law_some"] [] 3 spPick)
    (F__law_coded : FnAt P w K mg base CX0 "_law_coded" ["_law_pot_here", "_law_piece_here"] [] 4 spCoded) : FnAt P w K mg base CX0 "_law_way" ["_law_pot_here", "_law_parts"] [] 5 spWay := by
  refine D.ok scWay (fun _ _ _ _ _ _ us hl => match us, hl with | [_, _], _ => rfl) (fun vs H Q E h => ?_) (fun f cdv A outer s H vs Q E hr h => ?_)
  · obtain ⟨a, l, p, m, rows, rfl, _⟩ := h
    rfl
  · obtain ⟨a, l, p, m, rows, rfl, hLL, hrows, hokp, hlen, hm, pot, k⟩ := h
    refine ⟨_, (pss_cons (ps_set (i := 2) scWay.nd rfl (Or.inl rfl) (pe_op op_rep (pe_lst (pa_cons (pe_ix (ix_listK (K := K)) (pe_lst (pa_cons pe_str (pa_cons pe_str pa_nil))) (pe_cf F__law_draw (hr.mono (by decide)) pass0 (pa_cons (pv 0) (pa_cons pe_int pa_nil))) (fun _ _ => rfl)) pa_nil)) (pe_op op_fdiv (pe_cf F__law_draw (hr.mono (by decide)) pass0 (pa_cons (pv 0) (pa_cons pe_int pa_nil))) pe_int)))
      (pss_cons (ps_for PassesOwn.never rfl (pi_list (pv 1)) (pg_name (i := 3) scWay.nd rfl (Or.inl rfl)) (pss_cons (ps_for PassesOwn.never rfl (pi_range1 (by rfl) GL.range (pa_cons (pe_op op_mul (pe_op op_fdiv (pe_cf F__law_draw (hr.mono (by decide)) pass0 (pa_cons (pv 0) (pa_cons pe_int pa_nil))) pe_int) (pe_op op_add pe_int (pe_cf F__law_draw (hr.mono (by decide)) pass0 (pa_cons (pv 0) (pa_cons pe_int pa_nil))))) pa_nil)) (pg_name (i := 4) scWay.nd rfl (Or.inl rfl)) (pss_cons (ps_set (i := 5) scWay.nd rfl (Or.inl rfl) (pe_lst (pa_cons (pe_lst (pa_cons pe_str pa_nil)) (pa_cons (pe_lst (pa_cons pe_str pa_nil)) (pa_cons (pe_lst (pa_cons pe_str pa_nil)) (pa_cons (pe_lst (pa_cons pe_str (pa_cons pe_str pa_nil))) (pa_cons (pe_lst (pa_cons pe_str (pa_cons pe_str (pa_cons pe_str (pa_cons pe_str pa_nil))))) (pa_cons (pe_lst (pa_cons pe_str (pa_cons pe_str (pa_cons pe_str (pa_cons pe_str pa_nil))))) pa_nil))))))))
      (pss_one (ps_set (i := 2) scWay.nd rfl (Or.inl rfl) (pe_op op_cat (pv 2) (pe_cf F__law_pick (hr.mono (by decide)) pass0 (pa_cons (pv 0) (pa_cons (pv 5) pa_nil))))))))
      (pss_one (ps_expr (pe_bm PySem.F.plainAttrs_list PySem.F.slot_list_append PySem.F.type_list_append mt_append (pv 2) (pa_cons (pe_cf F__law_coded (hr.mono (by decide)) pass0 (pa_cons (pv 0) (pa_cons (pv 3) pa_nil))) pa_nil))))))
      (pss_cons (ps_set (i := 2) scWay.nd rfl (Or.inl rfl) (pe_op op_cat (pv 2) (pe_cf F__law_pick (hr.mono (by decide)) pass0 (pa_cons (pv 0) (pa_cons (pe_lst (pa_cons (pe_lst pa_nil) (pa_cons (pe_lst pa_nil) (pa_cons (pe_lst (pa_cons pe_str pa_nil)) (pa_cons (pe_lst (pa_cons pe_str pa_nil)) (pa_cons (pe_lst (pa_cons pe_str (pa_cons pe_str pa_nil))) pa_nil)))))) pa_nil)))))
      (pss_one (ps_ret (pe_joinK (K := K) pe_str (pe_lc (own := [("_law_one", 6)]) (g := gName 6) rfl scWay.nd (pi_list (pv 2)) (blkOk_by (own := [("_law_one", 6)]) (N := NWay) (sc := defScope sWay) (by decide +kernel)) (fun _ _ _ _ _ => pg_name (i := 6) scWay.nd rfl (Or.inl rfl)) (fun _ _ _ _ _ => pts_nil) (fun _ _ _ _ _ => (pe_op op_add_str pe_str (pv 6)))))))))), ?_⟩
    -- the first segment
    refine ⟨(show 2 ≤ sizeLine by decide), fun q hq => ?_⟩
    have qn := pot.ne hq
    refine ⟨_, rfl, a, l, 2, m, rfl, by decide, by decide, by omega, pot.new hq, fun r1 H1 hr1 K1 p1 => ?_⟩
    have hq1 := K1 q _ (by simp [qn.1, qn.2]) upd_same
    have K1 : Kept [a, l] H H1 := (Kept.refl.new hq).trans K1
    obtain ⟨s1, hs1, ws1⟩ : ∃ s1 : Str, ([V.str "..", .str "~2E."] : List V)[r1]? = some (.str s1) ∧ WayS [s1] [] 14 := by
      match r1, hr1 with
      | 0, _ => exact ⟨_, rfl, ⟨fun s hs => by rw [List.mem_singleton.mp hs]; exact seg_all (ts := [[46, 46]]) (by decide +kernel) _ (by decide +kernel), by decide +kernel, by decide +kernel⟩⟩
      | 1, _ => exact ⟨_, rfl, ⟨fun s hs => by rw [List.mem_singleton.mp hs]; exact seg_all (ts := [[126, 50, 69, 46]]) (by decide +kernel) _ (by decide +kernel), by decide +kernel, by decide +kernel⟩⟩
    refine ⟨q, _, r1, _, rfl, rfl, SqL.of hq1, atI_nat hs1, (show 1 ≤ sizeLine by decide), fun e he => ?_⟩
    have en := p1.ne he
    refine ⟨_, rfl, a, l, 5, m - 1, rfl, by decide, by decide, by omega, p1.new he, fun r2 H2 hr2 K2 p2 => ?_⟩
    have he2 := K2 e _ (by simp [en.1, en.2]) upd_same
    have K2 : Kept [a, l] H H2 := K1.trans ((Kept.refl.new he).trans K2)
    refine ⟨_, _, rfl, rfl, ⟨by decide, by decide⟩, e, _, _, rfl, rfl, he2, by omega, by omega, ?_, fun S0 hS0 => ?_⟩
    · show 1 * (((r2 : Nat) : Int) / 4).toNat ≤ sizeLine
      rw [sizeLine_eq]
      omega
    · have Sn := p2.ne hS0
      obtain ⟨ms0, em0, ws0⟩ : ∃ ms0 : List Str, (List.replicate (((r2 : Nat) : Int) / 4).toNat [V.str s1]).flatten = ms0.map V.str ∧ WayS ms0 [] 14 := by
        have : (((r2 : Nat) : Int) / 4).toNat = 0 ∨ (((r2 : Nat) : Int) / 4).toNat = 1 := by omega
        rcases this with e | e
        · rw [e]
          exact ⟨[], rfl, ⟨(fun s h => by cases h), rfl, by decide⟩⟩
        · rw [e]
          exact ⟨[s1], rfl, ws1⟩
      rw [em0]
      have p3 := (p2.new (o := .lst (ms0.map V.str)) hS0).le (m' := m - 2) (by omega)
      have K3 : Kept [a, l] H (upd H2 S0 (.lst (ms0.map V.str))) := K2.new hS0
      have hS : LS a l (upd H2 S0 (.lst (ms0.map V.str))) S0 ms0 := ⟨Sn.1, Sn.2, upd_same⟩
      have S0H : H S0 = none := K2.free hS0 (by simp [Sn.1, Sn.2])
      generalize upd H2 S0 (.lst (ms0.map V.str)) = H3 at p3 K3 hS
      refine ⟨_, rfl, p, rfl, ⟨_, SqL.of (hLL.kept K3).at_⟩, for_list (K := K) (a := p) (xs := rows.map fun r => V.ref r.1) (fun i σ H' => ∃ (S : Addr) (ms : List Str) (u v z : Option V), σ = [some (.ref a), some (.ref p), some (.ref S), u, v, z, none] ∧ H S = none ∧ LS a l H' S ms ∧ WayS ms ((flatR rows).take i) (14 + 70 * i) ∧ Kept [a, l] H H' ∧ Pot a l (m - 2 - 32 * i) H')
        ⟨S0, ms0, _, _, _, rfl, S0H, hS, ws0, K3, p3⟩ (fun i σ H' _ ⟨_, _, _, _, _, _, _, _, _, K', _⟩ => SqL.of (hLL.kept K').at_) ?_ ?_⟩
      · rintro i y σ H4 hi ⟨S, ms, u, v, z, rfl, SH, hS4, ws4, K4, p4⟩
        obtain ⟨row, hrow, rfl⟩ := rows_at hi
        have il : i < rows.length := (List.getElem?_eq_some_iff.mp hrow).1
        have hrm : row ∈ rows := List.mem_of_getElem? hrow
        refine ⟨_, rfl, a, l, 4, m - 2 - 32 * i, rfl, by decide, by decide, by omega, p4, fun d1 H5 hd1 K5 p5 => ⟨_, _, rfl, rfl, ⟨by decide, by decide⟩, _, rfl, a, l, 3, m - 2 - 32 * i - 1, rfl, by decide, by decide, by omega, p5, fun d2 H6 hd2 K6 p6 => ?_⟩⟩
        have hj : 0 ≤ ((d1 : Nat) : Int) / 3 * (1 + ((d2 : Nat) : Int)) ∧ ((d1 : Nat) : Int) / 3 * (1 + ((d2 : Nat) : Int)) ≤ 3 := by
          have : ((d1 : Nat) : Int) / 3 = 0 ∨ ((d1 : Nat) : Int) / 3 = 1 := by omega
          rcases this with e | e
          · rw [e, Int.zero_mul]; omega
          · rw [e, Int.one_mul]; omega
        refine ⟨_, _, rfl, rfl, _, _, rfl, rfl, .inl ⟨by omega, by omega⟩, _, rfl, by omega, by omega, ?_⟩
        have hn3 : (((d1 : Nat) : Int) / 3 * (1 + ((d2 : Nat) : Int))).toNat ≤ 3 := by omega
        generalize (((d1 : Nat) : Int) / 3 * (1 + ((d2 : Nat) : Int))).toNat = nt at hn3
        have hS6 := (hS4.kept K5).kept K6
        have K6 : Kept [a, l] H H6 := (K4.trans K5).trans K6
        refine for_it (walk_range (lo := 0) (n := nt)) (fun t σ H' => ∃ (S : Addr) (ms : List Str) (v z : Option V), σ = [some (.ref a), some (.ref p), some (.ref S), some (.ref row.1), v, z, none] ∧ H S = none ∧ LS a l H' S ms ∧ WayS ms ((flatR rows).take i) (14 + 70 * i + 14 * t) ∧ Kept [a, l] H H' ∧ Pot a l (m - 2 - 32 * i - 2 - t) H')
          ⟨S, ms, _, _, rfl, SH, hS6, ws4, K6, p6⟩ (fun _ _ _ _ _ => True.intro) ?_ ?_
        · rintro t y σ H7 H8 ht ⟨S, ms, v, z, rfl, SH, hS7, ws7, K7, p7⟩ ⟨rfl, rfl⟩
          have few7 := ws7.few
          refine ⟨(show 1 ≤ sizeLine by decide), fun q1 hq1 => ?_⟩
          have nq1 := p7.ne hq1
          have L1 : LS a l (upd H8 q1 (.lst [.str ""])) q1 [""] := ⟨nq1.1, nq1.2, upd_same⟩
          have pl1 := p7.new (o := .lst [.str ""]) hq1
          have kl1 := (Kept.refl (B := [a, l]) (H := H8)).new (o := .lst [.str ""]) hq1
          generalize (upd H8 q1 (.lst [.str ""])) = H8_1 at L1 pl1 kl1 ⊢
          refine ⟨(show 1 ≤ sizeLine by decide), fun q2 hq2 => ?_⟩
          have nq2 := pl1.ne hq2
          have L2 : LS a l (upd H8_1 q2 (.lst [.str "."])) q2 ["."] := ⟨nq2.1, nq2.2, upd_same⟩
          have L1 := L1.new (o := .lst [.str "."]) hq2
          have pl2 := pl1.new (o := .lst [.str "."]) hq2
          have kl2 := kl1.new (o := .lst [.str "."]) hq2
          generalize (upd H8_1 q2 (.lst [.str "."])) = H8_2 at L1 L2 pl2 kl2 ⊢
          refine ⟨(show 1 ≤ sizeLine by decide), fun q3 hq3 => ?_⟩
          have nq3 := pl2.ne hq3
          have L3 : LS a l (upd H8_2 q3 (.lst [.str "~2e"])) q3 ["~2e"] := ⟨nq3.1, nq3.2, upd_same⟩
          have L1 := L1.new (o := .lst [.str "~2e"]) hq3
          have L2 := L2.new (o := .lst [.str "~2e"]) hq3
          have pl3 := pl2.new (o := .lst [.str "~2e"]) hq3
          have kl3 := kl2.new (o := .lst [.str "~2e"]) hq3
          generalize (upd H8_2 q3 (.lst [.str "~2e"])) = H8_3 at L1 L2 L3 pl3 kl3 ⊢
          refine ⟨(show 2 ≤ sizeLine by decide), fun q4 hq4 => ?_⟩
          have nq4 := pl3.ne hq4
          have L4 : LS a l (upd H8_3 q4 (.lst [.str "x", .str ".."])) q4 ["x", ".."] := ⟨nq4.1, nq4.2, upd_same⟩
          have L1 := L1.new (o := .lst [.str "x", .str ".."]) hq4
          have L2 := L2.new (o := .lst [.str "x", .str ".."]) hq4
          have L3 := L3.new (o := .lst [.str "x", .str ".."]) hq4
          have pl4 := pl3.new (o := .lst [.str "x", .str ".."]) hq4
          have kl4 := kl3.new (o := .lst [.str "x", .str ".."]) hq4
          generalize (upd H8_3 q4 (.lst [.str "x", .str ".."])) = H8_4 at L1 L2 L3 L4 pl4 kl4 ⊢
          refine ⟨(show 4 ≤ sizeLine by decide), fun q5 hq5 => ?_⟩
          have nq5 := pl4.ne hq5
          have L5 : LS a l (upd H8_4 q5 (.lst [.str "x", .str "y", .str "..", .str "~2e~2e"])) q5 ["x", "y", "..", "~2e~2e"] := ⟨nq5.1, nq5.2, upd_same⟩
          have L1 := L1.new (o := .lst [.str "x", .str "y", .str "..", .str "~2e~2e"]) hq5
          have L2 := L2.new (o := .lst [.str "x", .str "y", .str "..", .str "~2e~2e"]) hq5
          have L3 := L3.new (o := .lst [.str "x", .str "y", .str "..", .str "~2e~2e"]) hq5
          have L4 := L4.new (o := .lst [.str "x", .str "y", .str "..", .str "~2e~2e"]) hq5
          have pl5 := pl4.new (o := .lst [.str "x", .str "y", .str "..", .str "~2e~2e"]) hq5
          have kl5 := kl4.new (o := .lst [.str "x", .str "y", .str "..", .str "~2e~2e"]) hq5
          generalize (upd H8_4 q5 (.lst [.str "x", .str "y", .str "..", .str "~2e~2e"])) = H8_5 at L1 L2 L3 L4 L5 pl5 kl5 ⊢
          refine ⟨(show 4 ≤ sizeLine by decide), fun q6 hq6 => ?_⟩
          have nq6 := pl5.ne hq6
          have L6 : LS a l (upd H8_5 q6 (.lst [.str "", .str "z", .str "", .str ".."])) q6 ["", "z", "", ".."] := ⟨nq6.1, nq6.2, upd_same⟩
          have L1 := L1.new (o := .lst [.str "", .str "z", .str "", .str ".."]) hq6
          have L2 := L2.new (o := .lst [.str "", .str "z", .str "", .str ".."]) hq6
          have L3 := L3.new (o := .lst [.str "", .str "z", .str "", .str ".."]) hq6
          have L4 := L4.new (o := .lst [.str "", .str "z", .str "", .str ".."]) hq6
          have L5 := L5.new (o := .lst [.str "", .str "z", .str "", .str ".."]) hq6
          have pl6 := pl5.new (o := .lst [.str "", .str "z", .str "", .str ".."]) hq6
          have kl6 := kl5.new (o := .lst [.str "", .str "z", .str "", .str ".."]) hq6
          generalize (upd H8_5 q6 (.lst [.str "", .str "z", .str "", .str ".."])) = H8_6 at L1 L2 L3 L4 L5 L6 pl6 kl6 ⊢
          refine ⟨(show 6 ≤ sizeLine by decide), fun qm hqm => ?_⟩
          have nqm := pl6.ne hqm
          have hmenu : (upd H8_6 qm (.lst [.ref q1, .ref q2, .ref q3, .ref q4, .ref q5, .ref q6])) qm = some (.lst [.ref q1, .ref q2, .ref q3, .ref q4, .ref q5, .ref q6]) := upd_same
          have L1 := L1.new (o := .lst [.ref q1, .ref q2, .ref q3, .ref q4, .ref q5, .ref q6]) hqm
          have L2 := L2.new (o := .lst [.ref q1, .ref q2, .ref q3, .ref q4, .ref q5, .ref q6]) hqm
          have L3 := L3.new (o := .lst [.ref q1, .ref q2, .ref q3, .ref q4, .ref q5, .ref q6]) hqm
          have L4 := L4.new (o := .lst [.ref q1, .ref q2, .ref q3, .ref q4, .ref q5, .ref q6]) hqm
          have L5 := L5.new (o := .lst [.ref q1, .ref q2, .ref q3, .ref q4, .ref q5, .ref q6]) hqm
          have L6 := L6.new (o := .lst [.ref q1, .ref q2, .ref q3, .ref q4, .ref q5, .ref q6]) hqm
          have plm := pl6.new (o := .lst [.ref q1, .ref q2, .ref q3, .ref q4, .ref q5, .ref q6]) hqm
          have klm := kl6.new (o := .lst [.ref q1, .ref q2, .ref q3, .ref q4, .ref q5, .ref q6]) hqm
          generalize (upd H8_6 qm (.lst [.ref q1, .ref q2, .ref q3, .ref q4, .ref q5, .ref q6])) = H9 at hmenu L1 L2 L3 L4 L5 L6 plm klm ⊢
          have pickOk : ∀ v ∈ ([V.ref q1, V.ref q2, V.ref q3, V.ref q4, V.ref q5, V.ref q6] : List V), ∃ q us, v = .ref q ∧ LS a l H9 q us ∧ Menu us := fun v hv => by
            simp only [List.mem_cons, List.not_mem_nil, or_false] at hv
            rcases hv with e | e | e | e | e | e
            · exact ⟨_, _, e, L1, menu1⟩
            · exact ⟨_, _, e, L2, menu2⟩
            · exact ⟨_, _, e, L3, menu3⟩
            · exact ⟨_, _, e, L4, menu4⟩
            · exact ⟨_, _, e, L5, menu5⟩
            · exact ⟨_, _, e, L6, menu6⟩
          have hS9 := hS7.kept klm
          have K9 : Kept [a, l] H H9 := K7.trans klm
          refine ⟨_, rfl, _, rfl, _, rfl, a, l, m - 2 - 32 * i - 2 - t, by omega, plm, .inr ⟨qm, _, rfl, nqm.1, nqm.2, hmenu, by simp, by simp, fun v H10 hv K10 p10 => ?_⟩⟩
          obtain ⟨q, us, rfl, hq, hmen⟩ := pickOk v hv
          have hfew := hmen.few
          have hS10 := hS9.kept K10
          have hq10 := hq.kept K10
          refine ⟨S, q, _, _, rfl, rfl, hS10.2.2, hq10.2.2, by rw [List.length_map, List.length_map, sizeLine_eq]; omega, fun S' hS' => ?_⟩
          have n' := p10.ne hS'
          have K11 : Kept [a, l] H H10 := K9.trans K10
          refine ⟨S', ms ++ us, _, _, rfl, K11.free hS' (by simp [n'.1, n'.2]), ⟨n'.1, n'.2, by rw [upd_same, List.map_append]⟩, (ws7.menu hmen).le (by omega), K11.new hS', (p10.new hS').le (by omega)⟩
        · rintro σ H7 ⟨S, ms, v, z, rfl, SH, hS7, ws7, K7, p7⟩
          have few7 := ws7.few
          refine ⟨_, rfl, .inl ⟨rfl, _, SqL.of hS7.2.2⟩, _, rfl, _, rfl, a, l, row.1, m - 2 - 32 * i - 2 - nt, row.2, BP, rfl, noHexP, (hLL.each row hrm).kept K7, fun x hx => (hrows row hrm).1.at_ _ (List.mem_map.mpr ⟨x, hx, rfl⟩), (hrows row hrm).2, by omega, p7, fun r H8 hc hl K8 p8 => ?_⟩
          have hS8 := hS7.kept K8
          refine ⟨S, _, _, rfl, rfl, hS8.2.2, by rw [List.length_map, sizeLine_eq]; omega, ?_⟩
          have et : (flatR rows).take (i + 1) = (flatR rows).take i ++ [(row.2.map tl).flatten] := by
            rw [List.take_add_one]
            congr 1
            unfold flatR
            rw [List.getElem?_map, hrow]
            rfl
          have hpk : okPart ((row.2.map tl).flatten) := hokp _ (List.mem_map.mpr ⟨row, hrm, rfl⟩)
          refine ⟨S, ms ++ [r], _, _, _, rfl, SH, ⟨hS8.1, hS8.2.1, by rw [upd_same, List.map_append]; rfl⟩, ?_, (K7.trans K8).put (.inr SH), (p8.put hS8.1 hS8.2.1).le (by omega)⟩
          rw [et]
          exact (ws7.part hc hl hpk).le (by omega)
      · rintro σ H4 ⟨S, ms, u, v, z, rfl, SH, hS4, ws4, K4, p4⟩
        have ef : (flatR rows).take (rows.map fun r => V.ref r.1).length = flatR rows := List.take_of_length_le (by unfold flatR; rw [List.length_map, List.length_map]; exact Nat.le_refl _)
        rw [ef, List.length_map] at ws4
        rw [List.length_map] at p4
        have few4 := ws4.few
        refine ⟨_, rfl, _, rfl, ?_⟩
        refine ⟨(show 0 ≤ sizeLine by decide), fun q1 hq1 => ?_⟩
        have nq1 := p4.ne hq1
        have L1 : LS a l (upd H4 q1 (.lst [])) q1 [] := ⟨nq1.1, nq1.2, upd_same⟩
        have pl1 := p4.new (o := .lst []) hq1
        have kl1 := (Kept.refl (B := [a, l]) (H := H4)).new (o := .lst []) hq1
        generalize (upd H4 q1 (.lst [])) = H4_1 at L1 pl1 kl1 ⊢
        refine ⟨(show 0 ≤ sizeLine by decide), fun q2 hq2 => ?_⟩
        have nq2 := pl1.ne hq2
        have L2 : LS a l (upd H4_1 q2 (.lst [])) q2 [] := ⟨nq2.1, nq2.2, upd_same⟩
        have L1 := L1.new (o := .lst []) hq2
        have pl2 := pl1.new (o := .lst []) hq2
        have kl2 := kl1.new (o := .lst []) hq2
        generalize (upd H4_1 q2 (.lst [])) = H4_2 at L1 L2 pl2 kl2 ⊢
        refine ⟨(show 1 ≤ sizeLine by decide), fun q3 hq3 => ?_⟩
        have nq3 := pl2.ne hq3
        have L3 : LS a l (upd H4_2 q3 (.lst [.str ""])) q3 [""] := ⟨nq3.1, nq3.2, upd_same⟩
        have L1 := L1.new (o := .lst [.str ""]) hq3
        have L2 := L2.new (o := .lst [.str ""]) hq3
        have pl3 := pl2.new (o := .lst [.str ""]) hq3
        have kl3 := kl2.new (o := .lst [.str ""]) hq3
        generalize (upd H4_2 q3 (.lst [.str ""])) = H4_3 at L1 L2 L3 pl3 kl3 ⊢
        refine ⟨(show 1 ≤ sizeLine by decide), fun q4 hq4 => ?_⟩
        have nq4 := pl3.ne hq4
        have L4 : LS a l (upd H4_3 q4 (.lst [.str "."])) q4 ["."] := ⟨nq4.1, nq4.2, upd_same⟩
        have L1 := L1.new (o := .lst [.str "."]) hq4
        have L2 := L2.new (o := .lst [.str "."]) hq4
        have L3 := L3.new (o := .lst [.str "."]) hq4
        have pl4 := pl3.new (o := .lst [.str "."]) hq4
        have kl4 := kl3.new (o := .lst [.str "."]) hq4
        generalize (upd H4_3 q4 (.lst [.str "."])) = H4_4 at L1 L2 L3 L4 pl4 kl4 ⊢
        refine ⟨(show 2 ≤ sizeLine by decide), fun q5 hq5 => ?_⟩
        have nq5 := pl4.ne hq5
        have L5 : LS a l (upd H4_4 q5 (.lst [.str "q", .str ".."])) q5 ["q", ".."] := ⟨nq5.1, nq5.2, upd_same⟩
        have L1 := L1.new (o := .lst [.str "q", .str ".."]) hq5
        have L2 := L2.new (o := .lst [.str "q", .str ".."]) hq5
        have L3 := L3.new (o := .lst [.str "q", .str ".."]) hq5
        have L4 := L4.new (o := .lst [.str "q", .str ".."]) hq5
        have pl5 := pl4.new (o := .lst [.str "q", .str ".."]) hq5
        have kl5 := kl4.new (o := .lst [.str "q", .str ".."]) hq5
        generalize (upd H4_4 q5 (.lst [.str "q", .str ".."])) = H4_5 at L1 L2 L3 L4 L5 pl5 kl5 ⊢
        refine ⟨(show 5 ≤ sizeLine by decide), fun qm hqm => ?_⟩
        have nqm := pl5.ne hqm
        have hmenu : (upd H4_5 qm (.lst [.ref q1, .ref q2, .ref q3, .ref q4, .ref q5])) qm = some (.lst [.ref q1, .ref q2, .ref q3, .ref q4, .ref q5]) := upd_same
        have L1 := L1.new (o := .lst [.ref q1, .ref q2, .ref q3, .ref q4, .ref q5]) hqm
        have L2 := L2.new (o := .lst [.ref q1, .ref q2, .ref q3, .ref q4, .ref q5]) hqm
        have L3 := L3.new (o := .lst [.ref q1, .ref q2, .ref q3, .ref q4, .ref q5]) hqm
        have L4 := L4.new (o := .lst [.ref q1, .ref q2, .ref q3, .ref q4, .ref q5]) hqm
        have L5 := L5.new (o := .lst [.ref q1, .ref q2, .ref q3, .ref q4, .ref q5]) hqm
        have plm := pl5.new (o := .lst [.ref q1, .ref q2, .ref q3, .ref q4, .ref q5]) hqm
        have klm := kl5.new (o := .lst [.ref q1, .ref q2, .ref q3, .ref q4, .ref q5]) hqm
        generalize (upd H4_5 qm (.lst [.ref q1, .ref q2, .ref q3, .ref q4, .ref q5])) = H9 at hmenu L1 L2 L3 L4 L5 plm klm ⊢
        have pickOk : ∀ v ∈ ([V.ref q1, V.ref q2, V.ref q3, V.ref q4, V.ref q5] : List V), ∃ q us, v = .ref q ∧ LS a l H9 q us ∧ Menu us := fun v hv => by
          simp only [List.mem_cons, List.not_mem_nil, or_false] at hv
          rcases hv with e | e | e | e | e
          · exact ⟨_, _, e, L1, menu0⟩
          · exact ⟨_, _, e, L2, menu0⟩
          · exact ⟨_, _, e, L3, menu1⟩
          · exact ⟨_, _, e, L4, menu2⟩
          · exact ⟨_, _, e, L5, menu7⟩
        have hS9 := hS4.kept klm
        have K9 : Kept [a, l] H H9 := K4.trans klm
        refine ⟨a, l, m - 2 - 32 * rows.length, by omega, plm, .inr ⟨qm, _, rfl, nqm.1, nqm.2, hmenu, by simp, by simp, fun v H10 hv K10 p10 => ?_⟩⟩
        obtain ⟨q, us, rfl, hq, hmen⟩ := pickOk v hv
        have hfew := hmen.few
        have hS10 := hS9.kept K10
        have hq10 := hq.kept K10
        refine ⟨S, q, _, _, rfl, rfl, hS10.2.2, hq10.2.2, by rw [List.length_map, List.length_map, sizeLine_eq]; omega, fun S' hS' => ?_⟩
        have n' := p10.ne hS'
        have K11 : Kept [a, l] H (upd H10 S' (.lst (ms.map V.str ++ us.map V.str))) := (K9.trans K10).new hS'
        have wsF := ws4.menu hmen
        have p11 := p10.new (o := .lst (ms.map V.str ++ us.map V.str)) hS'
        have hS11 : upd H10 S' (.lst (ms.map V.str ++ us.map V.str)) S' = some (.lst ((ms ++ us).map V.str)) := by rw [upd_same, List.map_append]
        generalize upd H10 S' (.lst (ms.map V.str ++ us.map V.str)) = H11 at K11 p11 hS11 ⊢
        generalize ms ++ us = segs at wsF hS11
        have fewF := wsF.few
        have lsl : (Str.ofString "/").length = 1 := by decide +kernel
        have tsl : tl (Str.ofString "/") = [47] := by decide +kernel
        have l0 : (Str.ofString "").length = 0 := by decide +kernel
        refine ⟨⟨_, rfl⟩, rd_lcL S' (segs.map V.str) (fun y => match y with | .str z => .str ((Str.ofString "/") ++ z) | y => y) rfl (SqL.of hS11) (fun _ => rfl) ?_ (fun y H12 Q' hy s12 q' => ?_) fun D H12 hD s12 hD12 => ?_⟩
        · rw [List.length_map]; omega
        · obtain ⟨z', hz, rfl⟩ := List.mem_map.mp hy
          have zl : (tl z').length ≤ sumL (segs.map tl) := by
            clear q' hS11 wsF fewF hy
            induction segs with
            | nil => cases hz
            | cons y r ih =>
              rw [List.map_cons, sumL_cons]
              rcases List.mem_cons.mp hz with e | hz
              · subst e; omega
              · have := ih hz; omega
          have zl2 := len_tl z'
          exact ⟨_, rfl, _, _, rfl, rfl, (by rw [sizeLine_eq]; omega), q' H12 (Same.refl H12)⟩
        · have em : (segs.map V.str).map (fun y => match y with | .str z => V.str ((Str.ofString "/") ++ z) | y => y) = (segs.map fun z => (Str.ofString "/") ++ z).map V.str := by
            rw [List.map_map, List.map_map]
            rfl
          rw [em] at hD12
          have ew : ((segs.map fun z => (Str.ofString "/") ++ z).map tl) = (segs.map tl).map (47 :: ·) := by
            rw [List.map_map, List.map_map]
            refine List.map_congr_left fun z _ => ?_
            show tl (Str.ofString "/" ++ z) = 47 :: tl z
            rw [tl_app, tsl]; rfl
          have wl := wayP_len (segs.map tl)
          rw [List.length_map] at wl
          have esum : sumL ((segs.map tl).map (47 :: ·)) = (wayP (segs.map tl)).length := by
            unfold sumL wayP
            rw [List.length_flatten]
          have tj : tl (Txt.join "" (segs.map fun z => (Str.ofString "/") ++ z)) = wayP (segs.map tl) := by
            rw [join0, ew]; rfl
          refine ⟨_, D, _, rfl, rfl, .inl (SqL.of hD12), ?_, ?_⟩
          · rw [len_strs, ew, esum, l0]; omega
          · refine k _ H12 (segs.map tl) tj ⟨fun s hs => ?_, wsF.fold⟩ (by rw [tj]; omega) (K11.trans (Kept.same s12)) ((p11.same s12).le (by omega))
            obtain ⟨z', hz, rfl⟩ := List.mem_map.mp hs
            exact wsF.ok z' hz
end Kp
namespace Kp
open PySem PySem.Spec PyProof.Rows L2 TL
variable {P : Program} {w : World} {K : PySem.W.Frag} {mg : Str → Option Value} {base : Heap}
/-! ### _law_asks -/
def AskOk (y : Tx) : Prop := isW y = true ∧ 35 ∉ y ∧ 38 ∉ y
def nonE (p : Tx) : Bool := decide (p ≠ [])
theorem ask_join {ys : List Tx} (hne : ys ≠ []) (h : ∀ y ∈ ys, AskOk y) : isW (joinC 38 ys) = true ∧ 35 ∉ joinC 38 ys ∧ splitC 38 (toldL (joinC 38 ys)) = ys.map toldL := by
  have hw : ∀ y ∈ ys, isW y = true := fun y hy => (h y hy).1
  refine ⟨isW_join (by decide) (by decide) hw, fun z => ?_, ?_⟩
  · rcases joinC_mem z with e | ⟨p, hp, e⟩
    · exact absurd e (by decide)
    · exact (h p hp).2.1 e
  · rw [told_join (by decide) (by decide) hw]
    refine splitC_join (by simpa using hne) fun p hp => ?_
    obtain ⟨y, hy, rfl⟩ := List.mem_map.mp hp
    exact told_free (by decide) (by decide) (by decide) (hw y hy) (h y hy).2.2
theorem askW_join {ys ps : List Tx} (hne : ys ≠ []) (h : ∀ y ∈ ys, AskOk y) (hp : ((ys.map toldL).filter nonE).Perm ps) : AskW (joinC 38 ys) ps ∧ AskW (38 :: joinC 38 ys) ps := by
  obtain ⟨h1, h2, h3⟩ := ask_join hne h
  refine ⟨⟨h1, h2, by rw [h3]; exact hp⟩, ⟨?_, ?_, ?_⟩⟩
  · rw [isW_sign (by decide)]
    exact ⟨by decide, h1⟩
  · simp [h2]
  · rw [toldL_sign _ (by decide), splitC_hit, h3]
    exact hp
theorem askW_none {q : Tx} (h : q = [] ∨ q = [38] ∨ q = [38, 38]) : AskW q [] := by
  have e : ∀ {ps : List Tx}, ps = [] → ps.Perm [] := fun h => by rw [h]
  rcases h with rfl | rfl | rfl
  · exact ⟨by decide +kernel, by decide, e (by decide +kernel)⟩
  · exact ⟨by decide +kernel, by decide, e (by decide +kernel)⟩
  · exact ⟨by decide +kernel, by decide, e (by decide +kernel)⟩
theorem seq_nat {n r : Nat} (h : r < n) : seqIndex? ((r : Nat) : Int) n = some r := by
  refine (ixN_seq (n := n) (i := (r : Int)) (j := r) ?_).1
  unfold ixN
  rw [if_pos (by omega), if_pos (by omega)]
  simp
/-- the texts still to be told and those that are written make ps -/
structure AskI (fs rs : List Str) (ps : List Tx) (n : Nat) : Prop where
  ok : ∀ y ∈ fs ++ rs, AskOk (tl y)
  perm : ((((fs ++ rs).map tl).map toldL).filter nonE).Perm ps
  sum : sumL ((fs ++ rs).map tl) ≤ 27 * n
  few : fs.length + 2 * rs.length ≤ 2 * n
theorem AskI.okS {fs rs : List Str} {ps : List Tx} {n : Nat} (h : AskI fs rs ps n) : ∀ y ∈ fs ++ rs, okS y := fun y hy c hc => by
  have := isW_bound (h.ok y hy).1 c hc
  omega
def blankS (e : Bool) : List Str := if e = true then [Str.ofString ""] else []
theorem erase_perm {α : Type} : ∀ (l : List α) (k : Nat) (h : k < l.length), (l[k] :: l.eraseIdx k).Perm l
  | [], _, h => absurd h (by simp)
  | a :: l, 0, _ => List.Perm.refl _
  | a :: l, k + 1, h => by
    have hk : k < l.length := by simpa using h
    have ih := erase_perm l k hk
    show (l[k] :: a :: l.eraseIdx k).Perm (a :: l)
    exact (List.Perm.swap a l[k] _).trans (ih.cons a)
theorem erase_map {α β : Type} (f : α → β) : ∀ (l : List α) (k : Nat), (l.map f).eraseIdx k = (l.eraseIdx k).map f
  | [], _ => rfl
  | a :: l, 0 => rfl
  | a :: l, k + 1 => by
    show f a :: (l.map f).eraseIdx k = f a :: (l.eraseIdx k).map f
    rw [erase_map f l k]
theorem AskI.step {fs rs : List Str} {ps : List Tx} {n k : Nat} (h : AskI fs rs ps n) (hk : k < rs.length) (e : Bool) : AskI (fs ++ [rs[k]] ++ blankS e) (rs.eraseIdx k) ps n := by
  have t0 : tl (Str.ofString "") = [] := by decide +kernel
  have pm : (fs ++ [rs[k]] ++ rs.eraseIdx k).Perm (fs ++ rs) := by
    rw [List.append_assoc]
    exact List.Perm.append_left fs (erase_perm rs k hk)
  have pm2 : (fs ++ [rs[k]] ++ blankS e ++ rs.eraseIdx k).Perm (blankS e ++ (fs ++ rs)) := by
    have h1 : (fs ++ [rs[k]] ++ blankS e ++ rs.eraseIdx k).Perm (blankS e ++ (fs ++ [rs[k]] ++ rs.eraseIdx k)) := by
      rw [List.append_assoc (fs ++ [rs[k]])]
      exact (List.perm_append_comm_assoc _ _ _)
    exact h1.trans (List.Perm.append_left _ pm)
  have len : (rs.eraseIdx k).length = rs.length - 1 := List.length_eraseIdx_of_lt hk
  refine ⟨fun y hy => ?_, ?_, ?_, ?_⟩
  · rcases List.mem_append.mp (pm2.mem_iff.mp hy) with z | z
    · cases e with
      | true =>
        rw [List.mem_singleton.mp z, t0]
        exact ⟨rfl, by simp, by simp⟩
      | false => cases z
    · exact h.ok y z
  · refine (((pm2.map tl).map toldL).filter nonE).trans ?_
    cases e with
    | true =>
      have : (((([Str.ofString ""] : List Str) ++ (fs ++ rs)).map tl).map toldL).filter nonE = (((fs ++ rs).map tl).map toldL).filter nonE := by
        rw [List.map_append, List.map_append, List.filter_append]
        show ([toldL (tl (Str.ofString ""))].filter nonE) ++ _ = _
        rw [t0]
        rfl
      exact (List.Perm.of_eq this).trans h.perm
    | false => exact h.perm
  · have : sumL ((fs ++ [rs[k]] ++ blankS e ++ rs.eraseIdx k).map tl) = sumL ((blankS e ++ (fs ++ rs)).map tl) := sumL_perm (pm2.map tl)
    rw [this, List.map_append, sumL_app]
    have h2 := h.sum
    cases e with
    | true =>
      show sumL [tl (Str.ofString "")] + sumL ((fs ++ rs).map tl) ≤ _
      rw [t0]
      have : sumL [([] : Tx)] = 0 := rfl
      omega
    | false =>
      have : sumL (([] : List Str).map tl) = 0 := rfl
      show sumL (([] : List Str).map tl) + sumL ((fs ++ rs).map tl) ≤ _
      omega
  · have h2 := h.few
    rw [len, List.length_append, List.length_append]
    have : (blankS e).length ≤ 1 := by cases e <;> simp [blankS]
    simp only [List.length_cons, List.length_nil]
    omega
theorem ask_init : ∀ (ss : List Str) (rows : List SRow), ss.length = rows.length → (∀ r ∈ rows, (r.2.map tl).flatten ≠ []) → (∀ (i : Nat) (s : Str), ss[i]? = some s → ∃ row, rows[i]? = some row ∧ Cod BA ((row.2.map tl).flatten) (tl s) ∧ (tl s).length ≤ 27) →
    (∀ y ∈ ss, AskOk (tl y)) ∧ ((ss.map tl).map toldL).filter nonE = flatR rows ∧ sumL (ss.map tl) ≤ 27 * rows.length
  | [], [], _, _, _ => ⟨(fun y h => by cases h), rfl, Nat.zero_le _⟩
  | [], _ :: _, h, _, _ => by simp at h
  | _ :: _, [], h, _, _ => by simp at h
  | s :: ss, r :: rows, h, hn, hs => by
    obtain ⟨h1, h2, h3⟩ := ask_init ss rows (by simpa using h) (fun r' hr => hn r' (by simp [hr])) fun i t ht => hs (i + 1) t ht
    obtain ⟨row, e, hc, hl⟩ := hs 0 s rfl
    have e2 : r = row := Option.some.inj e
    subst e2
    refine ⟨fun y hy => ?_, ?_, ?_⟩
    · rcases List.mem_cons.mp hy with z | z
      · rw [z]
        exact ⟨hc.isw, fun q => hc.free 35 q (by decide), fun q => hc.free 38 q (by decide)⟩
      · exact h1 y z
    · show (toldL (tl s) :: (ss.map tl).map toldL).filter nonE = (r.2.map tl).flatten :: flatR rows
      rw [hc.told, List.filter_cons, h2, if_pos]
      exact decide_eq_true (hn r (by simp))
    · rw [List.map_cons, sumL_cons, List.length_cons]
      omega
abbrev sAsks : Stmt := top 42
abbrev NAsks : List Str := ["_law_pot_here", "_law_asks_here", "_law_more", "_law_rest", "_law_found", "_law_ask"]
theorem scAsks : FnScope NAsks ["_law_pot_here", "_law_asks_here", "_law_more"] (defScope sAsks) := ⟨rfl, rfl, rfl, by decide +kernel, rfl, by decide +kernel, by decide +kernel⟩
def spAsks : Sp := fun vs H Q _ => ∃ (a l p q : Addr) (m : Nat) (rows : List SRow), vs = [.ref a, .ref p, .ref q] ∧ LL a l H p rows ∧ RowsOk BA rows ∧ rows.length ≤ 10 ∧ q ≠ a ∧ q ≠ l ∧ H q = some (.lst []) ∧ 300 ≤ m ∧ Pot a l m H ∧
  ∀ r H', ((tl r = [] ∧ rows = []) ∨ ∃ q, tl r = 63 :: q ∧ AskW q (flatR rows)) → (tl r).length ≤ 400 → Kept [a, l] H H' → Pot a l (m - 300) H' → Q (.str r) H'
theorem ok_asks (D : DefAt K mg "_law_asks" sAsks) (GL : Glb K w mg) (F__law_draw : FnAt P w K mg base CX0 "_law_draw" ["_law_pot_here", "_law_many"] [] 2 spDraw) (F__law_pick : FnAt P w K mg base CX0 "_law_pick" ["_law_pot_here", "_law_some"] [] 3 spPick)
    (F__law_coded : FnAt P w K mg base CX0 "_law_coded" ["_law_pot_here", "_law_piece_here"] [] 4 spCoded) : FnAt P w K mg base CX0 "_law_asks" ["_law_pot_here", "_law_asks_here", "_law_more"] [] 5 spAsks := by
  refine D.ok scAsks (fun _ _ _ _ _ _ us hl => match us, hl with | [_, _, _], _ => rfl) (fun vs H Q E h => ?_) (fun f cdv A outer s H vs Q E hr h => ?_)
  · obtain ⟨a, l, p, q, m, rows, rfl, _⟩ := h
    rfl
  · obtain ⟨a, l, p, q, m, rows, rfl, hLL, hrows, hlen, qa, ql, hq, hm, pot, k⟩ := h
    refine ⟨_, (pss_cons (ps_par (i := 3) (j := 4) rfl scAsks.nd rfl rfl (by decide) rfl rfl (pa_cons (pe_op op_cat (pe_lc (own := [("_law_ask", 5)]) (g := gName 5) rfl scAsks.nd (pi_list (pv 1)) (blkOk_by (own := [("_law_ask", 5)]) (N := NAsks) (sc := defScope sAsks) (by decide +kernel)) (fun _ _ _ _ _ => pg_name (i := 5) scAsks.nd rfl (Or.inl rfl)) (fun _ _ _ _ _ => pts_nil) (fun _ _ _ _ _ => (pe_cf F__law_coded (hr.mono (by decide)) pass0 (pa_cons (pv 0) (pa_cons (pv 5) pa_nil))))) (pv 2)) (pa_cons (pe_lst pa_nil) pa_nil)) (by rfl))
      (pss_cons (ps_while PassesOwn.never (pt_cmpR (op_neD hr.units) (pv 3) (pe_lst pa_nil) (nomark _)) (pss_cons (ps_expr (pe_bm PySem.F.plainAttrs_list PySem.F.slot_list_append PySem.F.type_list_append mt_append (pv 4) (pa_cons (pe_bm PySem.F.plainAttrs_list PySem.F.slot_list_pop PySem.F.type_list_pop mt_popAt (pv 3) (pa_cons (pe_cf F__law_draw (hr.mono (by decide)) pass0 (pa_cons (pv 0) (pa_cons (pe_callB (cr_lenSeq (K := K)) (by rfl) GL.len (by decide +kernel) (pa_cons (pv 3) pa_nil)) pa_nil))) pa_nil)) pa_nil)))
      (pss_one (ps_set (i := 4) scAsks.nd rfl (Or.inl rfl) (pe_op op_cat (pv 4) (pe_op op_rep (pe_lst (pa_cons pe_str pa_nil)) (pe_op op_fdiv (pe_cf F__law_draw (hr.mono (by decide)) pass0 (pa_cons (pv 0) (pa_cons pe_int pa_nil))) pe_int)))))))
      (pss_cons (ps_if (pt_cmpR (op_eqD hr.units) (pv 4) (pe_lst pa_nil) (nomark _)) (pss_one (ps_ret (pe_cf F__law_pick (hr.mono (by decide)) pass0 (pa_cons (pv 0) (pa_cons (pe_lst (pa_cons pe_str (pa_cons pe_str (pa_cons pe_str (pa_cons pe_str (pa_cons pe_str pa_nil)))))) pa_nil))))) pss_nil)
      (pss_one (ps_ret (pe_op op_add_str (pe_op op_add_str pe_str (pe_ix (ix_listK (K := K)) (pe_lst (pa_cons pe_str (pa_cons pe_str pa_nil))) (pe_op op_fdiv (pe_cf F__law_draw (hr.mono (by decide)) pass0 (pa_cons (pv 0) (pa_cons pe_int pa_nil))) pe_int) (fun _ _ => rfl))) (pe_joinK (K := K) pe_str (pv 4)))))))), ?_⟩
    refine ⟨_, rfl, p, rfl, ⟨_, SqL.of hLL.at_⟩, fun D hD => ?_⟩
    refine lc_strs (walk_list (K := K) (a := p) (xs := rows.map fun r => V.ref r.1)) (fun i s => ∃ row, rows[i]? = some row ∧ Cod BA ((row.2.map tl).flatten) (tl s) ∧ (tl s).length ≤ 27) 27 m (by rw [List.length_map]; omega) hD pot (fun H' K' => SqL.of (hLL.kept K').at_) (fun _ => rfl) (fun i x H1 H2 Q' hi hy K1 p1 hQ => ?_) (fun ss H1 hlen1 hok K1 hls p1 => ?_)
    · obtain ⟨rfl, hx⟩ := hy
      obtain ⟨row, hrow, rfl⟩ := rows_at hx
      have hrm : row ∈ rows := List.mem_of_getElem? hrow
      have il : i < rows.length := (List.getElem?_eq_some_iff.mp hrow).1
      exact ⟨_, rfl, _, rfl, a, l, row.1, m - i * 27, row.2, BA, rfl, noHexA, (hLL.each row hrm).kept K1, fun x hx => (hrows row hrm).1.at_ _ (List.mem_map.mpr ⟨x, hx, rfl⟩), (hrows row hrm).2, by omega, p1, fun r H3 hc hl K3 p3 => hQ r H3 ⟨row, hrow, hc, hl⟩ K3 (p3.le (by omega))⟩
    · rw [List.length_map] at hlen1 p1
      have hq1 := K1 q _ (by simp [qa, ql]) hq
      refine ⟨_, rfl, D, q, _, _, rfl, rfl, hls.2.2, hq1, by rw [List.length_map, sizeLine_eq]; simp; omega, fun R hR => ?_⟩
      have Rn := p1.ne hR
      have em : ss.map V.str ++ [] = ss.map V.str := List.append_nil _
      have hRs : LS a l (upd H1 R (.lst (ss.map V.str ++ []))) R ss := ⟨Rn.1, Rn.2, by rw [upd_same, em]⟩
      have RH : H R = none := K1.free hR (by simp [Rn.1, Rn.2])
      have p2 := p1.new (o := .lst (ss.map V.str ++ [])) hR
      have K2 : Kept [a, l] H (upd H1 R (.lst (ss.map V.str ++ []))) := K1.new hR
      generalize upd H1 R (.lst (ss.map V.str ++ [])) = H2 at hRs p2 K2 ⊢
      refine ⟨(show 0 ≤ sizeLine by decide), fun F hF => ⟨_, _, rfl, ?_⟩⟩
      have Fn := p2.ne hF
      have FH : H F = none := K2.free hF (by simp [Fn.1, Fn.2])
      have hFs : LS a l (upd H2 F (.lst [])) F [] := ⟨Fn.1, Fn.2, upd_same⟩
      have hRs3 := hRs.new (o := .lst []) hF
      have FR : F ≠ R := fun e => by rw [e, hRs.2.2] at hF; cases hF
      have p3 := p2.new (o := .lst []) hF
      have K3 : Kept [a, l] H (upd H2 F (.lst [])) := K2.new hF
      generalize upd H2 F (.lst []) = H3 at hFs hRs3 p3 K3 ⊢
      obtain ⟨i1, i2, i3⟩ := ask_init ss rows hlen1 (fun r hr => (hrows r hr).1.flat_ne) hok
      have init : AskI [] ss (flatR rows) rows.length := ⟨i1, by rw [List.nil_append, i2], i3, by simp; omega⟩
      refine ⟨fun M σ H' => ∃ (R F : Addr) (rs fs : List Str) (u : Option V), σ = [some (.ref a), some (.ref p), some (.ref q), some (.ref R), some (.ref F), u] ∧ M = rs.length ∧ LS a l H' R rs ∧ LS a l H' F fs ∧ F ≠ R ∧ H R = none ∧ H F = none ∧ AskI fs rs (flatR rows) rows.length ∧ Kept [a, l] H H' ∧ Pot a l (m - rows.length * 27 - 2 * (rows.length - rs.length)) H',
        ⟨_, R, F, ss, [], _, rfl, rfl, hRs3, hFs, FR, RH, FH, init, K3, by rw [hlen1, Nat.sub_self, Nat.mul_zero]; exact p3⟩, ?_⟩
      rintro M σ H4 ⟨R, F, rs, fs, u, rfl, rfl, hR4, hF4, FR, RH, FH, inv, K4, p4⟩
      have few := inv.few
      have sm := inv.sum
      refine ⟨_, rfl, (show 0 ≤ sizeLine by decide), fun e he => ?_⟩
      have hR5 := hR4.new (o := .lst []) he
      have hF5 := hF4.new (o := .lst []) he
      have p5 := p4.new (o := .lst []) he
      have K5 : Kept [a, l] H (upd H4 e (.lst [])) := K4.new he
      refine ⟨_, _, Dp.lst (SqL.of hR5.2.2) (dp_strs rs), Dp.lst (SqL.of upd_same) .nil, (shaped_strs fun y hy => inv.okS y (List.mem_append_right _ hy)).1, by decide +kernel, _, rfl, ?_⟩
      generalize upd H4 e (.lst []) = H5 at hR5 hF5 p5 K5
      have en : (!PyData.eqv (.list (rs.map .str)) (.list [])) = !rs.isEmpty := by
        show (!PyData.eqvAll (rs.map .str) []) = _
        rw [eqv_nil, isEmpty_map]
      rw [en]
      by_cases hrs : rs = []
      · rw [hrs]
        refine iteF ?_
        rw [hrs] at inv
        have iok := inv.ok
        have iperm := inv.perm
        have isum := inv.sum
        have ifew := inv.few
        rw [List.append_nil] at iok iperm isum
        have p5 := p5.le (m' := m - 292) (by omega)
        refine ⟨_, rfl, (show 0 ≤ sizeLine by decide), fun e2 he2 => ?_⟩
        have hF6 := hF5.new (o := .lst []) he2
        have p6 := p5.new (o := .lst []) he2
        have K6 : Kept [a, l] H (upd H5 e2 (.lst [])) := K5.new he2
        refine ⟨_, _, Dp.lst (SqL.of hF6.2.2) (dp_strs fs), Dp.lst (SqL.of upd_same) .nil, (shaped_strs fun y hy => inv.okS y (List.mem_append_left _ hy)).1, by decide +kernel, _, rfl, ?_⟩
        generalize upd H5 e2 (.lst []) = H6 at hF6 p6 K6
        have en2 : PyData.eqv (.list (fs.map .str)) (.list []) = fs.isEmpty := by
          show PyData.eqvAll (fs.map .str) [] = _
          rw [eqv_nil, isEmpty_map]
        rw [en2]
        by_cases hfs : fs = []
        · have hr0 : rows = [] := by
            rw [hfs] at iperm
            have h1 := iperm.length_eq
            simp only [List.map_nil, List.filter_nil, List.length_nil] at h1
            cases rows with
            | nil => rfl
            | cons r t => simp [flatR] at h1
          rw [hfs]
          refine iteT ⟨_, rfl, (show 5 ≤ sizeLine by decide), fun e3 he3 => ?_⟩
          have n3 := p6.ne he3
          refine ⟨a, l, m - 292, by omega, p6.new he3, .inr ⟨e3, _, rfl, n3.1, n3.2, upd_same, by simp, by simp, fun v H7 hv K7 p7 => ?_⟩⟩
          have K7 : Kept [a, l] H H7 := (K6.new he3).trans K7
          have p7 := p7.le (m' := m - 300) (by omega)
          have t0 : tl (Str.ofString "") = [] := by decide +kernel
          have t1 : tl (Str.ofString "?") = [63] := by decide +kernel
          have t2 : tl (Str.ofString "?&") = [63, 38] := by decide +kernel
          have t3 : tl (Str.ofString "?&&") = [63, 38, 38] := by decide +kernel
          have fr : flatR rows = [] := by rw [hr0]; rfl
          simp only [List.mem_cons, List.not_mem_nil, or_false] at hv
          rcases hv with e | e | e | e | e
          · rw [e]; exact k _ H7 (.inl ⟨t0, hr0⟩) (by rw [t0]; decide) K7 p7
          · rw [e]; exact k _ H7 (.inl ⟨t0, hr0⟩) (by rw [t0]; decide) K7 p7
          · rw [e]; exact k _ H7 (.inr ⟨[], t1, by rw [fr]; exact askW_none (.inl rfl)⟩) (by rw [t1]; decide) K7 p7
          · rw [e]; exact k _ H7 (.inr ⟨[38], t2, by rw [fr]; exact askW_none (.inr (.inl rfl))⟩) (by rw [t2]; decide) K7 p7
          · rw [e]; exact k _ H7 (.inr ⟨[38, 38], t3, by rw [fr]; exact askW_none (.inr (.inr rfl))⟩) (by rw [t3]; decide) K7 p7
        · have hfs2 : fs.isEmpty = false := by
            cases fs with
            | nil => exact absurd rfl hfs
            | cons _ _ => rfl
          rw [hfs2]
          refine iteF ⟨(show 2 ≤ sizeLine by decide), fun e3 he3 => ?_⟩
          have n3 := p6.ne he3
          refine ⟨_, rfl, a, l, 8, m - 292, rfl, by decide, by decide, by omega, p6.new he3, fun r7 H7 hr7 K7 p7 => ?_⟩
          have h37 := K7 e3 _ (by simp [n3.1, n3.2]) upd_same
          have K67 := (Kept.refl.new (o := .lst [.str "", .str "&"]) he3).trans K7
          have hF7 := hF6.kept K67
          have K7 : Kept [a, l] H H7 := K6.trans K67
          have t0 : tl (Str.ofString "") = [] := by decide +kernel
          have t1 : tl (Str.ofString "?") = [63] := by decide +kernel
          have t2 : tl (Str.ofString "&") = [38] := by decide +kernel
          have l2 : (Str.ofString "&").length = 1 := by decide +kernel
          obtain ⟨s2, hs2, es2⟩ : ∃ s2 : Str, atI ([V.str "", .str "&"] : List V) (((r7 : Nat) : Int) / 7) = some (.str s2) ∧ (tl s2 = [] ∨ tl s2 = [38]) := by
            have : ((r7 : Nat) : Int) / 7 = ((0 : Nat) : Int) ∨ ((r7 : Nat) : Int) / 7 = ((1 : Nat) : Int) := by omega
            rcases this with e | e
            · rw [e]; exact ⟨_, atI_nat (j := 0) rfl, .inl t0⟩
            · rw [e]; exact ⟨_, atI_nat (j := 1) rfl, .inr t2⟩
          have hne : fs.map tl ≠ [] := by simpa using hfs
          obtain ⟨w1, w2⟩ := askW_join (ys := fs.map tl) (ps := flatR rows) hne (fun y hy => by
            obtain ⟨z, hz, rfl⟩ := List.mem_map.mp hy
            exact iok z hz) iperm
          have tj : tl (Txt.join "&" fs) = joinC 38 (fs.map tl) := join1 (d := 38) t2 fs
          have jl := joinC_len 38 (fs.map tl)
          rw [List.length_map] at jl
          have ljn := len_tl (Txt.join "&" fs)
          rw [tj] at ljn
          have ls2 : (tl s2).length ≤ 1 := by rcases es2 with e | e <;> rw [e] <;> simp
          have ls2' := len_tl s2
          have lq := len_tl (Str.ofString "?" ++ s2)
          rw [tl_app, List.length_append, t1] at lq
          simp only [List.length_cons, List.length_nil] at lq
          have l1 : (Str.ofString "?").length = 1 := by decide +kernel
          have simpl : ifew = ifew := rfl
          simp only [List.length_nil] at ifew
          refine ⟨_, _, rfl, rfl, ⟨by decide, by decide⟩, e3, _, _, _, rfl, rfl, SqL.of h37, hs2, _, _, rfl, rfl, by rw [l1, sizeLine_eq]; omega, ⟨_, rfl⟩, _, rfl, _, F, fs, rfl, rfl, .inl (SqL.of hF7.2.2), by rw [len_strs, l2]; omega, _, _, rfl, rfl, by rw [sizeLine_eq]; omega, ?_⟩
          have et : tl (Str.ofString "?" ++ s2 ++ Txt.join "&" fs) = 63 :: (tl s2 ++ joinC 38 (fs.map tl)) := by
            rw [tl_app, tl_app, t1, tj]
            rfl
          refine k _ H7 (.inr ⟨_, et, ?_⟩) (by rw [et]; simp only [List.length_cons, List.length_append]; omega) K7 (p7.le (by omega))
          rcases es2 with e | e
          · rw [e]; exact w1
          · rw [e]; exact w2
      · have hrs2 : (!rs.isEmpty) = true := by
          cases rs with
          | nil => exact absurd rfl hrs
          | cons _ _ => rfl
        rw [hrs2]
        have rpos : 1 ≤ rs.length := List.length_pos_iff.mpr hrs
        refine iteT ⟨_, fun _ _ n => n, ?_⟩
        refine ⟨_, rfl, .inl ⟨rfl, _, SqL.of hF5.2.2⟩, _, rfl, .inl ⟨rfl, _, SqL.of hR5.2.2⟩, _, rfl, _, rfl, R, _, rfl, .inl (SqL.of hR5.2.2), a, l, (rs.map V.str).length, _, rfl, by rw [List.length_map]; exact rpos, by rw [List.length_map]; omega, ?_, p5, fun r H6 hr6 K6 p6 => ?_⟩
        · omega
        · rw [List.length_map] at hr6
          have hR6 := hR5.kept K6
          have hF6 := hF5.kept K6
          have K6 : Kept [a, l] H H6 := K5.trans K6
          have hg : (rs.map V.str)[r]? = some (.str rs[r]) := by rw [List.getElem?_map, List.getElem?_eq_getElem hr6]; rfl
          refine ⟨R, _, _, r, _, rfl, rfl, hR6.2.2, by omega, by omega, seq_nat (by rw [List.length_map]; exact hr6), hg, ?_⟩
          have hR7 : LS a l (upd H6 R (.lst ((rs.map V.str).eraseIdx r))) R (rs.eraseIdx r) := ⟨hR6.1, hR6.2.1, by rw [upd_same, erase_map]⟩
          have hF7 := hF6.put (o := .lst ((rs.map V.str).eraseIdx r)) FR
          have p7 := p6.put (o := .lst ((rs.map V.str).eraseIdx r)) hR6.1 hR6.2.1
          have K7 : Kept [a, l] H (upd H6 R (.lst ((rs.map V.str).eraseIdx r))) := K6.put (.inr RH)
          generalize upd H6 R (.lst ((rs.map V.str).eraseIdx r)) = H7 at hR7 hF7 p7 K7
          refine ⟨F, _, _, rfl, rfl, hF7.2.2, by rw [List.length_map, sizeLine_eq]; omega, ?_⟩
          have hF8 : LS a l (upd H7 F (.lst (fs.map V.str ++ [V.str rs[r]]))) F (fs ++ [rs[r]]) := ⟨hF7.1, hF7.2.1, by rw [upd_same, List.map_append]; rfl⟩
          have hR8 := hR7.put (o := .lst (fs.map V.str ++ [V.str rs[r]])) (Ne.symm FR)
          have p8 := p7.put (o := .lst (fs.map V.str ++ [V.str rs[r]])) hF7.1 hF7.2.1
          have K8 : Kept [a, l] H (upd H7 F (.lst (fs.map V.str ++ [V.str rs[r]]))) := K7.put (.inr FH)
          generalize upd H7 F (.lst (fs.map V.str ++ [V.str rs[r]])) = H8 at hF8 hR8 p8 K8 ⊢
          refine ⟨_, rfl, (show 1 ≤ sizeLine by decide), fun B hB => ?_⟩
          have Bn := p8.ne hB
          refine ⟨_, rfl, a, l, 5, _, rfl, by decide, by decide, ?_, p8.new hB, fun r9 H9 hr9 K9 p9 => ?_⟩
          · omega
          · have hB9 := K9 B _ (by simp [Bn.1, Bn.2]) upd_same
            have K89 := (Kept.refl.new (o := .lst [.str ""]) hB).trans K9
            have hF9 := hF8.kept K89
            have hR9 := hR8.kept K89
            have K9 : Kept [a, l] H H9 := K8.trans K89
            refine ⟨_, _, rfl, rfl, ⟨by decide, by decide⟩, B, _, _, rfl, rfl, hB9, by omega, by omega, ?_, fun C hC => ?_⟩
            · show 1 * (((r9 : Nat) : Int) / 4).toNat ≤ sizeLine
              rw [sizeLine_eq]
              omega
            · obtain ⟨be, ebe⟩ : ∃ be : Bool, (List.replicate (((r9 : Nat) : Int) / 4).toNat [V.str ""]).flatten = (blankS be).map V.str := by
                have : (((r9 : Nat) : Int) / 4).toNat = 0 ∨ (((r9 : Nat) : Int) / 4).toNat = 1 := by omega
                rcases this with e | e
                · rw [e]; exact ⟨false, rfl⟩
                · rw [e]; exact ⟨true, rfl⟩
              rw [ebe]
              have hF10 := hF9.new (o := .lst ((blankS be).map V.str)) hC
              have hR10 := hR9.new (o := .lst ((blankS be).map V.str)) hC
              have p10 := p9.new (o := .lst ((blankS be).map V.str)) hC
              have K10 : Kept [a, l] H (upd H9 C (.lst ((blankS be).map V.str))) := K9.new hC
              have bl : (blankS be).length ≤ 1 := by cases be <;> simp [blankS]
              refine ⟨F, C, _, _, rfl, rfl, hF10.2.2, upd_same, by rw [List.length_map, List.length_map, List.length_append, sizeLine_eq]; simp only [List.length_cons, List.length_nil]; omega, fun F' hF' => ?_⟩
              have F'n := p10.ne hF'
              have ler : (rs.eraseIdx r).length = rs.length - 1 := List.length_eraseIdx_of_lt hr6
              refine ⟨(rs.eraseIdx r).length, by omega, R, F', rs.eraseIdx r, fs ++ [rs[r]] ++ blankS be, u, rfl, rfl, hR10.new hF', ⟨F'n.1, F'n.2, by rw [upd_same, ← List.map_append]⟩, (fun e => by rw [e, hR10.2.2] at hF'; cases hF'), RH, K10.free hF' (by simp [F'n.1, F'n.2]), inv.step hr6 be, K10.new hF', (p10.new hF').le (by omega)⟩
end Kp
namespace Kp
open PySem PySem.Spec PyProof.Rows L2 TL
variable {P : Program} {w : World} {K : PySem.W.Frag} {mg : Str → Option Value} {base : Heap}
/-- a comprehension of texts that only reads -/
theorem lc_same {J : It} {n : Nat} {G : Hp → Prop} {Y : Nat → Hp → V → Hp → Prop} (wk : Walk J n G Y) {H1 : Hp} {D : Addr} {σ : L2.St} {vs : List Nat} {i0 : Nat} {te : TE} {Qd : Hp → Prop} (Ok : Nat → Str → Prop)
    (hlen : n ≤ 1000000) (hD : H1 D = none) (hG : ∀ H', Same H1 H' → G H') (hw : ∀ v, wipe ((wipe σ vs).set i0 (some v)) vs = wipe σ vs)
    (hs : ∀ i x H H' (Q' : VK), i < n → Y i H x H' → Same H1 H → (∀ s H4, Ok i s → Same H H4 → Q' (.str s) H4) → te ((wipe σ vs).set i0 (some x)) H' Q')
    (hd : ∀ (ss : List Str) H', ss.length = n → (∀ (i : Nat) (s : Str), ss[i]? = some s → Ok i s) → Same H1 H' → H' D = some (.lst (ss.map V.str)) → Qd H') :
    ∃ W : Nat → Nat → Hp → Prop, (∃ m, W 0 m (upd H1 D (.lst []))) ∧ ∀ i m H, W i m H →
      (J.stop i H ∧ Qd H) ∨ (J.go i H ∧ ∃ Nx : Hp → Prop, (∀ H', Nx H' → ∃ m', m' < m ∧ W (i + 1) m' H') ∧ ∀ x H', J.yld i H x H' → gName i0 x (wipe σ vs) H' fun σ2 H2 => wipe σ2 vs = wipe σ vs ∧ tYes σ2 H2 fun b H3 =>
        if b = true then te σ2 H3 fun y H4 => ∃ acc, H4 D = some (.lst acc) ∧ acc.length < sizeLine ∧ Nx (upd H4 D (.lst (acc ++ [y]))) else Nx H3) := by
  refine lc_it wk (fun i H' => ∃ ss : List Str, ss.length = i ∧ (∀ (j : Nat) (s : Str), ss[j]? = some s → Ok j s) ∧ Same H1 H' ∧ H' D = some (.lst (ss.map V.str)))
    ⟨[], rfl, (fun j s h => by simp at h), Same.new (Same.refl H1) hD, upd_same⟩ (fun i H _ ⟨_, _, _, K1, _⟩ => hG H K1) ?_ ?_
  · rintro i x H H' hi ⟨ss, hl, hok, K1, hDH⟩ hy
    refine ⟨hw x, ?_⟩
    show te _ _ _
    refine hs i x H H' _ hi hy K1 fun s H4 ok K2 => ?_
    refine ⟨_, K2 _ _ hDH, by rw [List.length_map, hl, sizeLine_eq]; omega, ss ++ [s], by rw [List.length_append, hl]; rfl, ?_, Same.put (K1.trans K2) hD, by rw [upd_same, List.map_append]; rfl⟩
    intro j t hj
    by_cases e : j < ss.length
    · rw [List.getElem?_append_left e] at hj
      exact hok j t hj
    · rw [List.getElem?_append_right (by omega)] at hj
      have e2 : j - ss.length = 0 := by
        cases q : j - ss.length with
        | zero => rfl
        | succ z => rw [q] at hj; simp at hj
      rw [e2] at hj
      have e3 : s = t := Option.some.inj hj
      have e4 : j = i := by omega
      subst e3 e4
      exact ok
  · rintro H ⟨ss, hl, hok, K1, hDH⟩
    exact hd ss H hl hok K1 hDH
theorem map_of_at (f : Tx → Tx) : ∀ (ss : List Str) (rows : List SRow), ss.length = rows.length → (∀ (i : Nat) (s : Str), ss[i]? = some s → ∃ row, rows[i]? = some row ∧ tl s = f ((row.2.map tl).flatten)) → ss.map tl = (flatR rows).map f
  | [], [], _, _ => rfl
  | [], _ :: _, h, _ => by simp at h
  | _ :: _, [], h, _ => by simp at h
  | s :: ss, r :: rows, h, hs => by
    have ih := map_of_at f ss rows (by simpa using h) fun i t ht => hs (i + 1) t ht
    obtain ⟨row, e, hc⟩ := hs 0 s rfl
    have e2 : r = row := Option.some.inj e
    subst e2
    show tl s :: ss.map tl = f ((r.2.map tl).flatten) :: (flatR rows).map f
    rw [hc, ih]
theorem sumL_le (k : Nat) : ∀ ps : List Tx, (∀ p ∈ ps, p.length ≤ k) → sumL ps ≤ k * ps.length
  | [], _ => Nat.zero_le _
  | p :: r, h => by
    have ih := sumL_le k r fun q hq => h q (by simp [hq])
    have := h p (by simp)
    rw [sumL_cons, List.length_cons, Nat.mul_succ]
    omega
theorem piece_len {B : Tx} {p : List Tx} (h : Piece B p) (hl : p.length ≤ 9) : p.flatten.length ≤ 27 := by
  have h1 : sumL p ≤ 3 * p.length := sumL_le 3 p fun a ha => by
    rcases h.at_ a ha with ⟨c, e, _⟩ | ⟨c, d, e, _⟩ <;> rw [e] <;> simp
  have e : p.flatten.length = sumL p := by unfold sumL; rw [List.length_flatten]
  omega
theorem dp_rows {a l : Addr} {H : Hp} : ∀ {rows : List SRow}, (∀ r ∈ rows, LS a l H r.1 r.2) → DpAll K H (rows.map fun r => V.ref r.1) (rows.map fun r => .list (r.2.map .str))
  | [], _ => .nil
  | r :: rows, h => .cons (.lst (SqL.of (h r (by simp)).2.2) (dp_strs r.2)) (dp_rows fun q hq => h q (by simp [hq]))
theorem shaped_rows {rows : List SRow} (h : ∀ r ∈ rows, ∀ y ∈ r.2, okS y) : SeqAt.shaped (.list (rows.map fun r => .list (r.2.map .str))) = true := by
  have h1 : ∀ rows : List SRow, (∀ r ∈ rows, ∀ y ∈ r.2, okS y) → PyData.canLayAll0 (rows.map fun r => .list (r.2.map .str)) = true := by
    intro rows
    induction rows with
    | nil => intro _; rfl
    | cons r t ih =>
      intro h
      show (PyData.canLay0 (.list (r.2.map .str)) && _) = true
      rw [ih fun q hq => h q (by simp [hq])]
      have : PyData.canLay0 (.list (r.2.map .str)) = PyData.canLayAll0 (r.2.map .str) := by simp [PyData.canLay0]
      rw [this, lay_strs (h r (by simp))]
      rfl
  have h2 : ∀ rows : List SRow, PyData.depthAll (rows.map fun r => .list (r.2.map .str)) ≤ 1 := by
    intro rows
    induction rows with
    | nil => decide
    | cons r t ih =>
      show max (PyData.depth (.list (r.2.map .str))) _ ≤ 1
      have : PyData.depth (.list (r.2.map .str)) ≤ 1 := by simp only [PyData.depth, depth_strs]; decide
      omega
  unfold SeqAt.shaped
  have e1 : PyData.canLay0 (.list (rows.map fun r => .list (r.2.map .str))) = PyData.canLayAll0 (rows.map fun r => .list (r.2.map .str)) := by simp [PyData.canLay0]
  have d1 : PyData.depth (.list (rows.map fun r => .list (r.2.map .str))) ≤ 64 := by
    have := h2 rows
    simp only [PyData.depth]
    omega
  rw [e1, h1 rows h, decide_eq_true d1]
  rfl
theorem atm_okS {B : Tx} {y : Str} (h : Atm B (tl y)) : okS y := fun c hc => by
  have := isW_bound h.isT.w c hc
  omega
/-- a content's rows are what WfCt says -/
theorem rows_ok {B : Tx} {rows : List SRow} {ps : List (List Tx)} (e : rows.map (fun r => r.2.map tl) = ps) (h : ∀ p ∈ ps, Piece B p) (hl : ∀ p ∈ ps, p.length ≤ 9) : RowsOk B rows := fun r hr => by
  have hm : r.2.map tl ∈ ps := by rw [← e]; exact List.mem_map.mpr ⟨r, hr, rfl⟩
  have := hl _ hm
  rw [List.length_map] at this
  exact ⟨h _ hm, this⟩
theorem flatR_eq {rows : List SRow} {ps : List (List Tx)} (e : rows.map (fun r => r.2.map tl) = ps) : flatR rows = ps.map List.flatten := by
  rw [← e, List.map_map]
  rfl
abbrev sForm : Stmt := top 37
abbrev NForm : List Str := ["_law_content_here", "_law_kind", "_law_host", "_law_gate_here", "_law_parts", "_law_asks_here", "_law_told", "_law_part", "_law_ask"]
theorem scForm : FnScope NForm ["_law_content_here"] (defScope sForm) := ⟨rfl, rfl, rfl, by decide +kernel, rfl, by decide +kernel, by decide +kernel⟩
def spForm (K : PySem.W.Frag) : Sp := fun vs H Q _ => ∃ (a l p : Addr) (c : Ct), vs = [.ref p] ∧ CtAt K a l H p c ∧ WfCt c ∧ Sz c 4 ∧ ∀ r H', Same H H' → tl r = formL (pgC c) → Q (.str r) H'
theorem ok_form (D : DefAt K mg "_law_form" sForm) (GL : Glb K w mg) : FnAt P w K mg base CX0 "_law_form" ["_law_content_here"] [] 1 (spForm K) := by
  refine D.ok scForm (fun _ _ _ _ _ _ us hl => match us, hl with | [_], _ => rfl) (fun vs H Q E h => ?_) (fun f cdv A outer s H vs Q E hr h => ?_)
  · obtain ⟨a, l, p, c, rfl, _⟩ := h
    rfl
  · obtain ⟨a, l, p, c, rfl, hc, wf, sz, k⟩ := h
    refine ⟨_, (pss_cons (ps_asg (pv 0) (pg_tup rfl (pgs_cons (pg_name (i := 1) scForm.nd rfl (Or.inl rfl)) (pgs_cons (pg_name (i := 2) scForm.nd rfl (Or.inl rfl)) (pgs_cons (pg_name (i := 3) scForm.nd rfl (Or.inl rfl)) (pgs_cons (pg_name (i := 4) scForm.nd rfl (Or.inl rfl)) (pgs_cons (pg_name (i := 5) scForm.nd rfl (Or.inl rfl)) pgs_nil)))))))
      (pss_cons (ps_set (i := 6) scForm.nd rfl (Or.inl rfl) (pe_op op_add_str (pe_op op_add_str (pv 1) pe_str) (pe_joinK (K := K) pe_str (pv 2))))
      (C8.pss_cut (ps_if (pt_cmpR op_ne (pv 3) (pe_dget (hu_of hr) (pe_disp (pps_cons pe_str pe_int (pps_cons pe_str pe_int pps_nil)) (by rfl) (by rfl) (fun z => by cases z) (by decide)) (pv 1) (fun _ _ => rfl)) (nomark _)) (pss_one (ps_set (i := 6) scForm.nd rfl (Or.inl rfl) (pe_op op_add_str (pe_op op_add_str (pv 6) pe_str) (pe_callTy call_str_int (by rfl) GL.str (by decide +kernel) (pa_cons (pv 3) pa_nil))))) pss_nil)
      (pss_cons (ps_set (i := 6) scForm.nd rfl (Or.inl rfl) (pe_op op_add_str (pv 6) (pe_joinK (K := K) pe_str (pe_lc (own := [("_law_part", 7)]) (g := gName 7) rfl scForm.nd (pi_list (pv 4)) (blkOk_by (own := [("_law_part", 7)]) (N := NForm) (sc := defScope sForm) (by decide +kernel)) (fun _ _ _ _ _ => pg_name (i := 7) scForm.nd rfl (Or.inl rfl)) (fun _ _ _ _ _ => pts_nil) (fun _ _ _ _ _ => (pe_op op_add_str pe_str (pe_joinK (K := K) pe_str (pv 7))))))))
      (C8.pss_cut (ps_if (pt_cmpR (op_neD hr.units) (pv 5) (pe_lst pa_nil) (nomark _)) (pss_one (ps_set (i := 6) scForm.nd rfl (Or.inl rfl) (pe_op op_add_str (pe_op op_add_str (pv 6) pe_str) (pe_joinK (K := K) pe_str (pe_callB cr_sortedSA (by rfl) GL.sorted (by decide +kernel) (pa_cons (pe_lc (own := [("_law_ask", 8)]) (g := gName 8) rfl scForm.nd (pi_list (pv 5)) (blkOk_by (own := [("_law_ask", 8)]) (N := NForm) (sc := defScope sForm) (by decide +kernel)) (fun _ _ _ _ _ => pg_name (i := 8) scForm.nd rfl (Or.inl rfl)) (fun _ _ _ _ _ => pts_nil) (fun _ _ _ _ _ => (pe_joinK (K := K) pe_str (pv 8)))) pa_nil)))))) pss_nil)
      (pss_one (ps_ret (pv 6)))))))), ?_⟩
    obtain ⟨kd, hp, pp, ap, hs, pr, ar, ht, hls, hP, hA, ek, eh, ep, ea, _, _⟩ := hc.ex
    have hk : tl kd = leafT ∨ tl kd = sealT := by rw [ek]; exact wf.kind
    refine ⟨_, rfl, p, _, rfl, SqT.of ht, rfl, _, _, rfl, _, _, rfl, _, _, rfl, _, _, rfl, _, _, rfl, rfl, ?_⟩
    have lh : hs.length ≤ 8 := by
      have := congrArg List.length eh
      rw [List.length_map] at this
      have := sz.host
      omega
    have sh := sumL_le 4 c.host sz.word
    have jh := joinC_len 46 c.host
    have szh := sz.host
    have t1 : tl (Str.ofString "://") = [58, 47, 47] := by decide +kernel
    have t2 : tl (Str.ofString ".") = [46] := by decide +kernel
    have l1 : (Str.ofString "://").length = 3 := by decide +kernel
    have l2 : (Str.ofString ".").length = 1 := by decide +kernel
    have lk := len_tl kd
    have lk4 : (tl kd).length = 4 := by rcases hk with e | e <;> rw [e] <;> rfl
    have tj : tl (Txt.join "." hs) = joinC 46 c.host := by rw [join1 (d := 46) t2, eh]
    have ljn := len_tl (Txt.join "." hs)
    rw [tj] at ljn
    have lq := len_tl (kd ++ Str.ofString "://")
    rw [tl_app, List.length_append, t1] at lq
    simp only [List.length_cons, List.length_nil] at lq
    refine ⟨_, rfl, _, _, rfl, rfl, by rw [sizeLine_eq]; omega, ⟨_, rfl⟩, _, rfl, _, hp, hs, rfl, rfl, .inl (SqL.of hls.2.2), by rw [len_strs, eh, l2]; omega, _, _, rfl, rfl, by rw [sizeLine_eq]; omega, ?_⟩
    have et0 : tl (kd ++ Str.ofString "://" ++ Txt.join "." hs) = c.kind ++ (58 :: 47 :: 47 :: joinC 46 c.host) := by
      rw [tl_app, tl_app, t1, tj, ek]
      simp
    generalize kd ++ Str.ofString "://" ++ Txt.join "." hs = told0 at et0
    have lt0 := len_tl told0
    rw [et0, List.length_append, ← ek, lk4] at lt0
    simp only [List.length_cons] at lt0
    have fP : flatR pr = c.parts.map List.flatten := flatR_eq ep
    have fA : flatR ar = c.asks.map List.flatten := flatR_eq ea
    have rP := rows_ok (B := BP) ep (fun q hq => (wf.parts q hq).1) sz.part
    have rA := rows_ok (B := BA) ea (fun q hq => wf.asks q hq) sz.ask
    have lP : pr.length ≤ 10 := by
      have h1 := congrArg List.length ep
      rw [List.length_map] at h1
      have := sz.parts
      omega
    have lA : ar.length ≤ 10 := by
      have h1 := congrArg List.length ea
      rw [List.length_map] at h1
      have := sz.asks
      omega
    have fPl : ∀ q ∈ flatR pr, q.length ≤ 27 := fun q hq => by
      obtain ⟨r, hr, rfl⟩ := List.mem_map.mp hq
      exact piece_len (rP r hr).1 (by rw [List.length_map]; exact (rP r hr).2)
    have fAl : ∀ q ∈ flatR ar, q.length ≤ 27 := fun q hq => by
      obtain ⟨r, hr, rfl⟩ := List.mem_map.mp hq
      exact piece_len (rA r hr).1 (by rw [List.length_map]; exact (rA r hr).2)
    have sP := sumL_le 27 (flatR pr) fPl
    have sA := sumL_le 27 (flatR ar) fAl
    have lfP : (flatR pr).length = pr.length := by unfold flatR; rw [List.length_map]
    have lfA : (flatR ar).length = ar.length := by unfold flatR; rw [List.length_map]
    have wl := wayP_len (flatR pr)
    have l0 : (Str.ofString "").length = 0 := by decide +kernel
    have gl : (gateP (pgC c)).length ≤ 6 := by
      unfold gateP
      split
      · simp
      · have := num_len wf.gate
        show (58 :: numL c.gate).length ≤ 6
        simp only [List.length_cons]
        omega
    refine ⟨fun σ H' => ∃ t : Str, σ = [some (.ref p), some (.str kd), some (.ref hp), some (.int (c.gate : Nat)), some (.ref pp), some (.ref ap), some (.str t), none, none] ∧ Same H H' ∧ tl t = c.kind ++ (58 :: 47 :: 47 :: (joinC 46 c.host ++ gateP (pgC c))), ?_, ?_⟩
    · refine ⟨_, rfl, ?_⟩
      refine rd_gates rfl hk fun H1 s1 => ⟨rfl, _, rfl, ?_⟩
      have eg : decide (V.int (c.gate : Nat) = V.int (ownG (tl kd) : Nat)) = decide (c.gate = ownG c.kind) := by
        rw [ek]
        exact decide_eq_decide.mpr ⟨fun e => by have := V.int.inj e; omega, fun e => by rw [e]⟩
      rw [eg]
      by_cases q : c.gate = ownG c.kind
      · rw [decide_eq_true q]
        refine iteF ⟨told0, rfl, s1, ?_⟩
        have : gateP (pgC c) = [] := if_pos q
        rw [this, List.append_nil]
        exact et0
      · rw [decide_eq_false q]
        have hgp : gateP (pgC c) = 58 :: numL c.gate := if_neg q
        have tn : tl (toString ((c.gate : Nat) : Int) : Str) = numL c.gate := tl_num c.gate
        have ln := len_tl (toString ((c.gate : Nat) : Int) : Str)
        rw [tn] at ln
        have nl := num_len wf.gate
        have tc : tl (Str.ofString ":") = [58] := by decide +kernel
        have lc : (Str.ofString ":").length = 1 := by decide +kernel
        have lq2 := len_tl (told0 ++ Str.ofString ":")
        rw [tl_app, List.length_append, tc, ← len_tl] at lq2
        simp only [List.length_cons, List.length_nil] at lq2
        refine iteT ⟨_, rfl, _, _, rfl, rfl, by rw [sizeLine_eq, lc]; omega, _, rfl, _, rfl, log_small wf.gate, _, _, rfl, rfl, by rw [sizeLine_eq]; omega, _, rfl, s1, ?_⟩
        rw [tl_app, tl_app, tc, tn, et0, hgp]
        simp
    · rintro σ H1 ⟨t, rfl, s1, et⟩
      have lt := len_tl t
      rw [et] at lt
      simp only [List.length_append, List.length_cons] at lt
      rw [← ek, lk4] at lt
      refine ⟨_, rfl, ⟨_, rfl⟩, _, rfl, pp, rfl, ⟨_, SqL.of (s1 _ _ hP.at_)⟩, fun D hD => ?_⟩
      refine lc_same (walk_list (K := K) (a := pp) (xs := pr.map fun r => V.ref r.1)) (fun i s => ∃ row, pr[i]? = some row ∧ tl s = 47 :: (row.2.map tl).flatten) (by rw [List.length_map]; omega) hD (fun H' s' => SqL.of (s' _ _ (s1 _ _ hP.at_))) (fun _ => rfl) (fun i x H2 H3 Q' hi hy s2 hQ => ?_) (fun ss H2 hlen2 hok s2 hD2 => ?_)
      · obtain ⟨rfl, hx⟩ := hy
        obtain ⟨row, hrow, rfl⟩ := rows_at hx
        have hrm : row ∈ pr := List.mem_of_getElem? hrow
        have hl2 := (s1.trans s2) _ _ (hP.each row hrm).2.2
        have tsl : tl (Str.ofString "/") = [47] := by decide +kernel
        have lsl : (Str.ofString "/").length = 1 := by decide +kernel
        have j0 := join0 row.2
        have fl := fPl _ (List.mem_map.mpr ⟨row, hrm, rfl⟩)
        have lj := len_tl (Txt.join "" row.2)
        rw [j0] at lj
        have hs1 : (row.2.map (·.length)).sum = ((row.2.map tl).flatten).length := by
          rw [len_strs, List.length_flatten]
          rfl
        exact ⟨⟨_, rfl⟩, _, rfl, _, row.1, row.2, rfl, rfl, .inl (SqL.of hl2), by rw [l0, hs1]; omega, _, _, rfl, rfl, by rw [lsl, sizeLine_eq]; omega, hQ (Str.ofString "/" ++ Txt.join "" row.2) _ ⟨row, hrow, by rw [tl_app, tsl, j0]; rfl⟩ (Same.refl _)⟩
      · rw [List.length_map] at hlen2
        have em := map_of_at (47 :: ·) ss pr hlen2 hok
        have j0 := join0 ss
        have hj : tl (Txt.join "" ss) = wayP (flatR pr) := by rw [j0, em]; rfl
        have hs1 : (ss.map (·.length)).sum = (wayP (flatR pr)).length := by
          rw [len_strs, ← hj, j0, List.length_flatten]
          rfl
        have lj := len_tl (Txt.join "" ss)
        rw [hj] at lj
        refine ⟨_, D, ss, rfl, rfl, .inl (SqL.of hD2), by rw [l0, hs1]; omega, _, _, rfl, rfl, by rw [sizeLine_eq]; omega, ?_⟩
        have et2 : tl (t ++ Txt.join "" ss) = c.kind ++ (58 :: 47 :: 47 :: (joinC 46 c.host ++ (gateP (pgC c) ++ wayP (flatR pr)))) := by
          rw [tl_app, et, hj]
          simp
        have lt2 := len_tl (t ++ Txt.join "" ss)
        rw [tl_app, List.length_append, hj, ← len_tl] at lt2
        have s2 : Same H H2 := s1.trans s2
        generalize t ++ Txt.join "" ss = t2 at et2 lt2
        refine ⟨fun σ H' => ∃ t3 : Str, σ = [some (.ref p), some (.str kd), some (.ref hp), some (.int (c.gate : Nat)), some (.ref pp), some (.ref ap), some (.str t3), none, none] ∧ Same H H' ∧ tl t3 = formL (pgC c), ?_, ?_⟩
        · refine ⟨_, rfl, (show 0 ≤ sizeLine by decide), fun e he => ?_⟩
          have s3 := Same.new (o := .lst []) s2 he
          have hA3 : upd H2 e (.lst []) ap = some (.lst (ar.map fun r => V.ref r.1)) := s3 _ _ hA.at_
          have hAe : ∀ r ∈ ar, LS a l (upd H2 e (.lst [])) r.1 r.2 := fun r hr => ⟨(hA.each r hr).1, (hA.each r hr).2.1, s3 _ _ (hA.each r hr).2.2⟩
          refine ⟨_, _, Dp.lst (SqL.of hA3) (dp_rows hAe), Dp.lst (SqL.of upd_same) .nil, shaped_rows fun r hr y hy => atm_okS ((rA r hr).1.at_ _ (List.mem_map.mpr ⟨y, hy, rfl⟩)), by decide +kernel, _, rfl, ?_⟩
          generalize upd H2 e (.lst []) = H3 at s3 hA3 hAe
          have en : (!PyData.eqv (.list (ar.map fun r => .list (r.2.map .str))) (.list [])) = !ar.isEmpty := by
            show (!PyData.eqvAll (ar.map fun r => .list (r.2.map .str)) []) = _
            rw [eqv_nil, isEmpty_map]
          rw [en]
          have eform : ∀ as : Tx, askP (pgC c).asks = as → c.kind ++ (58 :: 47 :: 47 :: (joinC 46 c.host ++ (gateP (pgC c) ++ wayP (flatR pr)))) ++ as = formL (pgC c) := by
            intro as h
            unfold formL
            rw [h, fP]
            show _ = c.kind ++ (58 :: 47 :: 47 :: (joinC 46 c.host ++ (gateP (pgC c) ++ (wayP (c.parts.map List.flatten) ++ as))))
            simp
          by_cases qa : ar = []
          · rw [qa]
            refine iteF ⟨t2, rfl, s3, ?_⟩
            rw [← eform [] ?_, List.append_nil, et2]
            have : (pgC c).asks = [] := by
              show sortT (c.asks.map List.flatten) = []
              rw [← fA, qa]
              exact (sortT_perm ([] : List Tx)).eq_nil
            rw [this]
            rfl
          · have qa2 : (!ar.isEmpty) = true := by
              cases ar with
              | nil => exact absurd rfl qa
              | cons _ _ => rfl
            rw [qa2]
            have tq : tl (Str.ofString "?") = [63] := by decide +kernel
            have lqq : (Str.ofString "?").length = 1 := by decide +kernel
            have ta : tl (Str.ofString "&") = [38] := by decide +kernel
            have la : (Str.ofString "&").length = 1 := by decide +kernel
            refine iteT ⟨_, rfl, _, _, rfl, rfl, by rw [sizeLine_eq, lqq]; omega, ⟨_, rfl⟩, _, rfl, ap, rfl, ⟨_, SqL.of hA3⟩, fun D2 hD2 => ?_⟩
            refine lc_same (walk_list (K := K) (a := ap) (xs := ar.map fun r => V.ref r.1)) (fun i s => ∃ row, ar[i]? = some row ∧ tl s = id ((row.2.map tl).flatten)) (by rw [List.length_map]; omega) hD2 (fun H' s' => SqL.of (s' _ _ hA3)) (fun _ => rfl) (fun i x H4 H5 Q' hi hy s4 hQ => ?_) (fun ss2 H4 hlen4 hok4 s4 hD4 => ?_)
            · obtain ⟨rfl, hx⟩ := hy
              obtain ⟨row, hrow, rfl⟩ := rows_at hx
              have hrm : row ∈ ar := List.mem_of_getElem? hrow
              have hl2 := s4 _ _ (hAe row hrm).2.2
              have j0 := join0 row.2
              have fl := fAl _ (List.mem_map.mpr ⟨row, hrm, rfl⟩)
              have hs1 : (row.2.map (·.length)).sum = ((row.2.map tl).flatten).length := by
                rw [len_strs, List.length_flatten]
                rfl
              exact ⟨⟨_, rfl⟩, _, rfl, _, row.1, row.2, rfl, rfl, .inl (SqL.of hl2), by rw [l0, hs1]; omega, hQ (Txt.join "" row.2) _ ⟨row, hrow, j0⟩ (Same.refl _)⟩
            · rw [List.length_map] at hlen4
              have em2 := map_of_at id ss2 ar hlen4 hok4
              rw [List.map_id] at em2
              refine ⟨D2, ss2, rfl, SqL.of hD4, fun ys C hperm hsort hC => ?_⟩
              have es : ys.map tl = sortT (c.asks.map List.flatten) := by rw [sortedS_sortT hperm hsort, em2, fA]
              have syl : sumL (ys.map tl) = sumL (flatR ar) := by
                rw [← em2]
                exact sumL_perm (hperm.map tl)
              have yl : ys.length = ar.length := by rw [hperm.length_eq, hlen4]
              have tj2 : tl (Txt.join "&" ys) = joinC 38 (ys.map tl) := join1 (d := 38) ta ys
              have jl2 := joinC_len 38 (ys.map tl)
              rw [List.length_map] at jl2
              have lj2 := len_tl (Txt.join "&" ys)
              rw [tj2] at lj2
              have lq3 := len_tl (t2 ++ Str.ofString "?")
              rw [tl_app, List.length_append, tq, ← len_tl] at lq3
              simp only [List.length_cons, List.length_nil] at lq3
              refine ⟨_, C, ys, rfl, rfl, .inl (SqL.of upd_same), by rw [len_strs, la]; omega, _, _, rfl, rfl, by rw [sizeLine_eq]; omega, _, rfl, Same.new (s3.trans s4) hC, ?_⟩
              rw [← eform (63 :: joinC 38 (ys.map tl)) ?_, tl_app, tl_app, tq, tj2, et2]
              · simp
              · have hn : (pgC c).asks ≠ [] := by
                  show sortT (c.asks.map List.flatten) ≠ []
                  rw [← es]
                  have : ys ≠ [] := fun e => by
                    rw [e] at yl
                    exact qa (List.length_eq_zero_iff.mp yl.symm)
                  simpa using this
                unfold askP
                rw [if_neg hn]
                show 63 :: joinC 38 (sortT (c.asks.map List.flatten)) = _
                rw [es]
        · rintro σ H3 ⟨t3, rfl, s3, et3⟩
          exact ⟨_, rfl, k t3 H3 s3 et3⟩
end Kp
namespace Kp
open PySem PySem.Spec PyProof.Rows L2 TL
variable {P : Program} {w : World} {K : PySem.W.Frag} {mg : Str → Option Value} {base : Heap}
/-! ### _law_written -/
theorem word_up : ∀ c : Nat, c < 128 → wordC c = true → hostC c = true ∧ hostC (up1 c) = true ∧ lowC c = c := by decide +kernel
theorem word_lt {c : Nat} (h : wordC c = true) : c < 128 := by
  simp only [wordC, Bool.or_eq_true, decide_eq_true_eq, smallC_iff, figC_iff] at h
  omega
theorem host_lt {c : Nat} (h : hostC c = true) : c < 128 := by
  rw [hostC_iff] at h
  omega
theorem words_of : ∀ (ss ws : List Str), ss.length = ws.length → (∀ w ∈ ws, (tl w).all wordC = true) → (∀ (i : Nat) (s : Str), ss[i]? = some s → ∃ w, ws[i]? = some w ∧ Eith (tl w) (tl s)) →
    (ss.map tl).map low = ws.map tl ∧ (∀ s ∈ ss, (tl s).all hostC = true) ∧ sumL (ss.map tl) = sumL (ws.map tl)
  | [], [], _, _, _ => ⟨rfl, (fun s h => by cases h), rfl⟩
  | [], _ :: _, h, _, _ => by simp at h
  | _ :: _, [], h, _, _ => by simp at h
  | s :: ss, w :: ws, h, hw, hs => by
    obtain ⟨h1, h2, h3⟩ := words_of ss ws (by simpa using h) (fun x hx => hw x (by simp [hx])) fun i t ht => hs (i + 1) t ht
    obtain ⟨w', e, hE⟩ := hs 0 s rfl
    have e2 : w = w' := Option.some.inj e
    subst e2
    have ha := List.all_eq_true.mp (hw w (by simp))
    refine ⟨?_, fun x hx => ?_, ?_⟩
    · show low (tl s) :: (ss.map tl).map low = tl w :: ws.map tl
      rw [h1, hE.low fun c hc => (word_up c (word_lt (ha c hc)) (ha c hc)).2.2]
    · rcases List.mem_cons.mp hx with z | z
      · rw [z]
        exact hE.all fun c hc => ⟨(word_up c (word_lt (ha c hc)) (ha c hc)).1, (word_up c (word_lt (ha c hc)) (ha c hc)).2.1⟩
      · exact h2 x z
    · rw [List.map_cons, List.map_cons, sumL_cons, sumL_cons, h3, hE.len]
abbrev sWritten : Stmt := top 43
abbrev NWritten : List Str := ["_law_pot_here", "_law_content_here", "_law_more", "_law_kind", "_law_host", "_law_gate_here", "_law_parts", "_law_asks_here", "_law_ahead", "_law_text", "_law_word"]
theorem scWritten : FnScope NWritten ["_law_pot_here", "_law_content_here", "_law_more"] (defScope sWritten) := ⟨rfl, rfl, rfl, by decide +kernel, rfl, by decide +kernel, by decide +kernel⟩
def spWritten (K : PySem.W.Frag) : Sp := fun vs H Q _ => ∃ (a l p q : Addr) (m : Nat) (c : Ct), vs = [.ref a, .ref p, .ref q] ∧ CtAt K a l H p c ∧ WfCt c ∧ Sz c 4 ∧ q ≠ a ∧ q ≠ l ∧ H q = some (.lst []) ∧ 700 ≤ m ∧ Pot a l m H ∧
  ∀ r H', Wr c (tl r) → okS r → r.length ≤ 1400 → Kept [a, l] H H' → Pot a l (m - 700) H' → Q (.str r) H'
theorem ok_written (D : DefAt K mg "_law_written" sWritten) (GL : Glb K w mg) (F__law_draw : FnAt P w K mg base CX0 "_law_draw" ["_law_pot_here", "_law_many"] [] 2 spDraw) (F__law_pick : FnAt P w K mg base CX0 "_law_pick" ["_law_pot_here", "_law_some"] [] 3 spPick)
    (F__law_either : FnAt P w K mg base CX0 "_law_either" ["_law_pot_here", "_law_text"] [] 3 spEither) (F__law_gate : FnAt P w K mg base CX0 "_law_gate" ["_law_pot_here", "_law_kind", "_law_gate_here"] [] 3 spGate)
    (F__law_way : FnAt P w K mg base CX0 "_law_way" ["_law_pot_here", "_law_parts"] [] 5 spWay) (F__law_asks : FnAt P w K mg base CX0 "_law_asks" ["_law_pot_here", "_law_asks_here", "_law_more"] [] 5 spAsks) :
    FnAt P w K mg base CX0 "_law_written" ["_law_pot_here", "_law_content_here", "_law_more"] [] 6 (spWritten K) := by
  refine D.ok scWritten (fun _ _ _ _ _ _ us hl => match us, hl with | [_, _, _], _ => rfl) (fun vs H Q E h => ?_) (fun f cdv A outer s H vs Q E hr h => ?_)
  · obtain ⟨a, l, p, q, m, c, rfl, _⟩ := h
    rfl
  · obtain ⟨a, l, p, q, m, c, rfl, hc, wf, sz, qa, ql, hq, hm, pot, k⟩ := h
    refine ⟨_, (pss_cons (ps_asg (pv 1) (pg_tup rfl (pgs_cons (pg_name (i := 3) scWritten.nd rfl (Or.inl rfl)) (pgs_cons (pg_name (i := 4) scWritten.nd rfl (Or.inl rfl)) (pgs_cons (pg_name (i := 5) scWritten.nd rfl (Or.inl rfl)) (pgs_cons (pg_name (i := 6) scWritten.nd rfl (Or.inl rfl)) (pgs_cons (pg_name (i := 7) scWritten.nd rfl (Or.inl rfl)) pgs_nil)))))))
      (C8.pss_cut (ps_set (i := 8) scWritten.nd rfl (Or.inl rfl) (pe_ifExp (pt_cmpR op_gt (pe_callB (cr_lenSeq (K := K)) (by rfl) GL.len (by decide +kernel) (pa_cons (pv 4) pa_nil)) pe_int (nomark _)) (pe_op op_rep (pe_lst (pa_cons pe_str pa_nil)) (pe_op op_mul (pe_op op_fdiv (pe_cf F__law_draw (hr.mono (by decide)) pass0 (pa_cons (pv 0) (pa_cons pe_int pa_nil))) pe_int) (pe_op op_add pe_int (pe_cf F__law_draw (hr.mono (by decide)) pass0 (pa_cons (pv 0) (pa_cons pe_int pa_nil)))))) (pe_lst pa_nil)))
      (pss_cons (ps_set (i := 9) scWritten.nd rfl (Or.inl rfl) (pe_op op_add_str (pe_op op_add_str (pe_cf F__law_either (hr.mono (by decide)) pass0 (pa_cons (pv 0) (pa_cons (pv 3) pa_nil))) pe_str) (pe_joinK (K := K) pe_str (pe_lc (own := [("_law_word", 10)]) (g := gName 10) rfl scWritten.nd (pi_list (pe_op op_cat (pv 8) (pv 4))) (blkOk_by (own := [("_law_word", 10)]) (N := NWritten) (sc := defScope sWritten) (by decide +kernel)) (fun _ _ _ _ _ => pg_name (i := 10) scWritten.nd rfl (Or.inl rfl)) (fun _ _ _ _ _ => pts_nil) (fun _ _ _ _ _ => (pe_cf F__law_either (hr.mono (by decide)) pass0 (pa_cons (pv 0) (pa_cons (pv 10) pa_nil))))))))
      (pss_cons (ps_set (i := 9) scWritten.nd rfl (Or.inl rfl) (pe_op op_add_str (pe_op op_add_str (pe_op op_add_str (pv 9) (pe_cf F__law_gate (hr.mono (by decide)) pass0 (pa_cons (pv 0) (pa_cons (pv 3) (pa_cons (pv 5) pa_nil))))) (pe_cf F__law_way (hr.mono (by decide)) pass0 (pa_cons (pv 0) (pa_cons (pv 6) pa_nil)))) (pe_cf F__law_asks (hr.mono (by decide)) pass0 (pa_cons (pv 0) (pa_cons (pv 7) (pa_cons (pv 2) pa_nil))))))
      (pss_one (ps_ret (pe_op op_add_str (pv 9) (pe_cf F__law_pick (hr.mono (by decide)) pass0 (pa_cons (pv 0) (pa_cons (pe_lst (pa_cons pe_str (pa_cons pe_str (pa_cons pe_str (pa_cons pe_str (pa_cons pe_str (pa_cons pe_str pa_nil))))))) pa_nil)))))))))), ?_⟩
    obtain ⟨kd, hp, pp, ap, hs, pr, ar, ht, hls, hP, hA, ek, eh, ep, ea, _, _⟩ := hc.ex
    have hk : tl kd = leafT ∨ tl kd = sealT := by rw [ek]; exact wf.kind
    refine ⟨_, rfl, p, _, rfl, SqT.of ht, rfl, _, _, rfl, _, _, rfl, _, _, rfl, _, _, rfl, _, _, rfl, rfl, ?_⟩
    have lh : hs.length = c.host.length := by
      have := congrArg List.length eh
      rw [List.length_map] at this
      exact this
    have szh := sz.host
    refine ⟨fun σ H' => ∃ (A : Addr) (n : Nat), σ = [some (.ref a), some (.ref p), some (.ref q), some (.str kd), some (.ref hp), some (.int (c.gate : Nat)), some (.ref pp), some (.ref ap), some (.ref A), none, none] ∧ LS a l H' A (List.replicate n "www") ∧ n ≤ 2 ∧ (c.host.length ≤ 1 → n = 0) ∧ Kept [a, l] H H' ∧ Pot a l (m - 2) H', ?_, ?_⟩
    · refine ⟨_, rfl, hp, _, rfl, .inl (SqL.of hls.2.2), _, _, rfl, rfl, _, rfl, ?_⟩
      rw [List.length_map]
      by_cases q1 : 1 < hs.length
      · rw [decide_eq_true (by omega)]
        refine iteT ⟨(show 1 ≤ sizeLine by decide), fun B hB => ?_⟩
        have Bn := pot.ne hB
        refine ⟨_, rfl, a, l, 6, m, rfl, by decide, by decide, by omega, pot.new hB, fun r1 H1 hr1 K1 p1 => ⟨_, _, rfl, rfl, ⟨by decide, by decide⟩, _, rfl, a, l, 2, m - 1, rfl, by decide, by decide, by omega, p1, fun r2 H2 hr2 K2 p2 => ?_⟩⟩
        have hB2 := K2 B _ (by simp [Bn.1, Bn.2]) (K1 B _ (by simp [Bn.1, Bn.2]) upd_same)
        have hj : 0 ≤ ((r1 : Nat) : Int) / 4 * (1 + ((r2 : Nat) : Int)) ∧ ((r1 : Nat) : Int) / 4 * (1 + ((r2 : Nat) : Int)) ≤ 2 := by
          have : ((r1 : Nat) : Int) / 4 = 0 ∨ ((r1 : Nat) : Int) / 4 = 1 := by omega
          rcases this with e | e
          · rw [e, Int.zero_mul]; omega
          · rw [e, Int.one_mul]; omega
        refine ⟨_, _, rfl, rfl, _, _, rfl, rfl, .inl ⟨by omega, by omega⟩, B, _, _, rfl, rfl, hB2, by omega, by omega, ?_, fun C hC => ?_⟩
        · show 1 * (((r1 : Nat) : Int) / 4 * (1 + ((r2 : Nat) : Int))).toNat ≤ sizeLine
          rw [sizeLine_eq]
          omega
        · have Cn := p2.ne hC
          refine ⟨C, (((r1 : Nat) : Int) / 4 * (1 + ((r2 : Nat) : Int))).toNat, rfl, ⟨Cn.1, Cn.2, ?_⟩, by omega, fun h => by omega, ((Kept.refl.new hB).trans (K1.trans K2)).new hC, (p2.new hC).le (by omega)⟩
          rw [upd_same]
          generalize (((r1 : Nat) : Int) / 4 * (1 + ((r2 : Nat) : Int))).toNat = n
          have : (List.replicate n [V.str "www"]).flatten = (List.replicate n (Str.ofString "www")).map V.str := by
            induction n with
            | zero => rfl
            | succ n ih => rw [List.replicate_succ, List.flatten_cons, ih, List.replicate_succ]; rfl
          rw [this]
      · rw [decide_eq_false (by omega)]
        refine iteF ⟨(show 0 ≤ sizeLine by decide), fun B hB => ?_⟩
        have Bn := pot.ne hB
        exact ⟨B, 0, rfl, ⟨Bn.1, Bn.2, upd_same⟩, by decide, fun _ => rfl, Kept.refl.new hB, (pot.new hB).le (by omega)⟩
    · rintro σ H1 ⟨A, n, rfl, hA1, hn2, hn0, K1, p1⟩
      have lk := len_tl kd
      have lk4 : (tl kd).length = 4 := by rcases hk with e | e <;> rw [e] <;> rfl
      have okk : okS kd := fun x hx => by
        have hx2 : x ∈ tl kd := hx
        rcases hk with e | e
        · rw [e] at hx2
          have : ∀ x ∈ leafT, x < 128 := by decide
          exact this x hx2
        · rw [e] at hx2
          have : ∀ x ∈ sealT, x < 128 := by decide
          exact this x hx2
      have lowk : ∀ x ∈ tl kd, lowC x = x := by
        rcases hk with e | e <;> rw [e] <;> decide
      refine ⟨_, rfl, _, rfl, a, l, m - 2, kd, rfl, okk, by omega, by omega, p1, fun k1 H2 hE K2 p2 => ?_⟩
      have ek1 : low (tl k1) = c.kind := by rw [hE.low lowk, ek]
      have lk1 := len_tl k1
      have hE1 := hE.len
      have t1 : tl (Str.ofString "://") = [58, 47, 47] := by decide +kernel
      have l1 : (Str.ofString "://").length = 3 := by decide +kernel
      have t2 : tl (Str.ofString ".") = [46] := by decide +kernel
      have l2 : (Str.ofString ".").length = 1 := by decide +kernel
      have lq := len_tl (k1 ++ Str.ofString "://")
      rw [tl_app, List.length_append, t1] at lq
      simp only [List.length_cons, List.length_nil] at lq
      have hA2 := hA1.kept K2
      have K2 : Kept [a, l] H H2 := K1.trans K2
      have hls2 := hls.kept K2
      refine ⟨_, _, rfl, rfl, by rw [sizeLine_eq, l1]; omega, ⟨_, rfl⟩, _, rfl, _, rfl, A, hp, _, _, rfl, rfl, hA2.2.2, hls2.2.2, by rw [List.length_map, List.length_map, List.length_replicate, sizeLine_eq]; omega, fun W hW => ⟨W, rfl, ⟨_, SqL.of upd_same⟩, fun D hD => ?_⟩⟩
      have p3 := p2.new (o := .lst ((List.replicate n (Str.ofString "www")).map V.str ++ hs.map V.str)) hW
      have Wn := p2.ne hW
      have hW3 : LS a l (upd H2 W (.lst ((List.replicate n (Str.ofString "www")).map V.str ++ hs.map V.str))) W (List.replicate n (Str.ofString "www") ++ hs) := ⟨Wn.1, Wn.2, by rw [upd_same, List.map_append]⟩
      have K3 : Kept [a, l] H (upd H2 W (.lst ((List.replicate n (Str.ofString "www")).map V.str ++ hs.map V.str))) := K2.new hW
      rw [show (List.replicate n (Str.ofString "www")).map V.str ++ hs.map V.str = (List.replicate n (Str.ofString "www") ++ hs).map V.str from List.map_append.symm] at hD p3 hW3 K3 ⊢
      generalize upd H2 W (.lst ((List.replicate n (Str.ofString "www") ++ hs).map V.str)) = H3 at hD p3 hW3 K3 ⊢
      have tw : tl (Str.ofString "www") = www := by decide +kernel
      have wws : ∀ w ∈ List.replicate n (Str.ofString "www") ++ hs, (tl w).all wordC = true ∧ (tl w).length ≤ 4 := fun w hw => by
        rcases List.mem_append.mp hw with z | z
        · rw [List.eq_of_mem_replicate z, tw]
          decide
        · have hm2 : tl w ∈ c.host := by rw [← eh]; exact List.mem_map.mpr ⟨w, z, rfl⟩
          exact ⟨(wf.host _ hm2).2, sz.word _ hm2⟩
      have wlen : (List.replicate n (Str.ofString "www") ++ hs).length ≤ 10 := by rw [List.length_append, List.length_replicate]; omega
      have wmap : (List.replicate n (Str.ofString "www") ++ hs).map tl = List.replicate n www ++ c.host := by rw [List.map_append, List.map_replicate, tw, eh]
      generalize List.replicate n (Str.ofString "www") ++ hs = wds at hW3 wws wlen wmap ⊢
      refine lc_strs (walk_list (K := K) (a := W) (xs := wds.map V.str)) (fun i s => ∃ w, wds[i]? = some w ∧ Eith (tl w) (tl s)) 4 (m - 2 - kd.length) (by rw [List.length_map]; omega) hD p3 (fun H' K' => SqL.of (hW3.kept K').2.2) (fun _ => rfl) (fun i x H4 H5 Q' hi hy K4 p4 hQ => ?_) (fun ss H4 hlen4 hok K4 hlsD p4 => ?_)
      · obtain ⟨rfl, hx⟩ := hy
        obtain ⟨w, hw, rfl⟩ := strs_at hx
        have hwm : w ∈ wds := List.mem_of_getElem? hw
        have hi2 : i < wds.length := by rw [List.length_map] at hi; exact hi
        obtain ⟨w1, w2⟩ := wws w hwm
        have lw := len_tl w
        exact ⟨_, rfl, _, rfl, a, l, _, w, rfl, fun z hz => word_lt (List.all_eq_true.mp w1 z hz), by omega, by omega, p4, fun r H6 hE K6 p6 => hQ r H6 ⟨w, hw, hE⟩ K6 (p6.le (by omega))⟩
      · rw [List.length_map] at hlen4 p4
        obtain ⟨m1, m2, m3⟩ := words_of ss wds hlen4 (fun w hw => (wws w hw).1) hok
        have tj : tl (Txt.join "." ss) = joinC 46 (ss.map tl) := join1 (d := 46) t2 ss
        have sl := sumL_le 4 (wds.map tl) fun x hx => by
          obtain ⟨w, hw, rfl⟩ := List.mem_map.mp hx
          exact (wws w hw).2
        rw [List.length_map] at sl
        have jl := joinC_len 46 (ss.map tl)
        rw [List.length_map, hlen4, m3] at jl
        have ljn := len_tl (Txt.join "." ss)
        rw [tj] at ljn
        refine ⟨_, D, ss, rfl, rfl, .inl (SqL.of hlsD.2.2), by rw [len_strs, m3, hlen4, l2]; omega, _, _, rfl, rfl, by rw [sizeLine_eq]; omega, ?_⟩
        have et1 : tl (k1 ++ Str.ofString "://" ++ Txt.join "." ss) = tl k1 ++ (58 :: 47 :: 47 :: joinC 46 (ss.map tl)) := by
          rw [tl_app, tl_app, t1, tj]
          simp
        have lt1 := len_tl (k1 ++ Str.ofString "://" ++ Txt.join "." ss)
        rw [et1] at lt1
        simp only [List.length_append, List.length_cons] at lt1
        generalize k1 ++ Str.ofString "://" ++ Txt.join "." ss = x1 at et1 lt1
        have K4 : Kept [a, l] H H4 := K3.trans K4
        refine ⟨_, rfl, _, rfl, _, rfl, _, rfl, a, l, _, kd, c.gate, rfl, hk, wf.gate, ?_, p4, fun g H5 hg lg K5 p5 => ?_⟩
        · omega
        have lg' := len_tl g
        have lx2 := len_tl (x1 ++ g)
        rw [tl_app, List.length_append, ← len_tl, ← len_tl] at lx2
        have K5 : Kept [a, l] H H5 := K4.trans K5
        have fP : flatR pr = c.parts.map List.flatten := flatR_eq ep
        have fA : flatR ar = c.asks.map List.flatten := flatR_eq ea
        have rP := rows_ok (B := BP) ep (fun q hq => (wf.parts q hq).1) sz.part
        have rA := rows_ok (B := BA) ea (fun q hq => wf.asks q hq) sz.ask
        have lP : pr.length ≤ 10 := by
          have h1 := congrArg List.length ep
          rw [List.length_map] at h1
          have := sz.parts
          omega
        have lA : ar.length ≤ 10 := by
          have h1 := congrArg List.length ea
          rw [List.length_map] at h1
          have := sz.asks
          omega
        have okP : ∀ q ∈ flatR pr, okPart q := fun q hq => by
          rw [fP] at hq
          obtain ⟨y, hy, rfl⟩ := List.mem_map.mp hq
          exact (wf.parts y hy).2
        refine ⟨_, _, rfl, rfl, by rw [sizeLine_eq]; omega, _, rfl, _, rfl, a, l, pp, _, pr, rfl, hP.kept K5, rP, okP, lP, ?_, p5, fun wy H6 segs hwy hW6 lwy K6 p6 => ?_⟩
        · omega
        have lwy' := len_tl wy
        have lx3 := len_tl (x1 ++ g ++ wy)
        rw [tl_app, List.length_append, ← len_tl, ← len_tl] at lx3
        have K6 : Kept [a, l] H H6 := K5.trans K6
        refine ⟨_, _, rfl, rfl, by rw [sizeLine_eq]; omega, _, rfl, _, rfl, _, rfl, a, l, ap, q, _, ar, rfl, hA.kept K6, rA, lA, qa, ql, K6 q _ (by simp [qa, ql]) hq, ?_, p6, fun ak H7 hak lak K7 p7 => ?_⟩
        · omega
        have lak' := len_tl ak
        have lx4 := len_tl (x1 ++ g ++ wy ++ ak)
        rw [tl_app, List.length_append, ← len_tl, ← len_tl] at lx4
        have K7 : Kept [a, l] H H7 := K6.trans K7
        refine ⟨_, _, rfl, rfl, by rw [sizeLine_eq]; omega, _, rfl, _, rfl, (show 6 ≤ sizeLine by decide), fun B hB => ?_⟩
        have Bn := p7.ne hB
        refine ⟨a, l, _, ?_, p7.new hB, .inr ⟨B, _, rfl, Bn.1, Bn.2, upd_same, by simp, by simp, fun v H8 hv K8 p8 => ?_⟩⟩
        · omega
        have K8 : Kept [a, l] H H8 := (K7.new hB).trans K8
        obtain ⟨sv, rfl, hsv, lsv, osv⟩ : ∃ sv : Str, v = .str sv ∧ (tl sv = [] ∨ ∃ r, tl sv = 35 :: r) ∧ sv.length ≤ 10 ∧ okS sv := by
          simp only [List.mem_cons, List.not_mem_nil, or_false] at hv
          have h0 : tl (Str.ofString "") = [] ∧ (Str.ofString "").length ≤ 10 := by decide +kernel
          have h1 : tl (Str.ofString "#") = [35] ∧ (Str.ofString "#").length ≤ 10 := by decide +kernel
          have h2 : tl (Str.ofString "#a b") = [35, 97, 32, 98] ∧ (Str.ofString "#a b").length ≤ 10 := by decide +kernel
          have h3 : tl (Str.ofString "#~zz#?/&") = [35, 126, 122, 122, 35, 63, 47, 38] ∧ (Str.ofString "#~zz#?/&").length ≤ 10 := by decide +kernel
          have h4 : tl (Str.ofString "#\n") = [35, 10] ∧ (Str.ofString "#\n").length ≤ 10 := by decide +kernel
          have okof : ∀ {x : Str} {t : Tx}, tl x = t → (t.all fun c => decide (c < 128)) = true → okS x := fun {x t} e h z hz => by
            have hz2 : z ∈ tl x := hz
            rw [e] at hz2
            exact of_decide_eq_true (List.all_eq_true.mp h z hz2)
          rcases hv with e | e | e | e | e | e
          · exact ⟨_, e, .inl h0.1, h0.2, okof h0.1 (by decide)⟩
          · exact ⟨_, e, .inl h0.1, h0.2, okof h0.1 (by decide)⟩
          · exact ⟨_, e, .inr ⟨_, h1.1⟩, h1.2, okof h1.1 (by decide)⟩
          · exact ⟨_, e, .inr ⟨_, h2.1⟩, h2.2, okof h2.1 (by decide)⟩
          · exact ⟨_, e, .inr ⟨_, h3.1⟩, h3.2, okof h3.1 (by decide)⟩
          · exact ⟨_, e, .inr ⟨_, h4.1⟩, h4.2, okof h4.1 (by decide)⟩
        have lx5 := len_tl (x1 ++ g ++ wy ++ ak ++ sv)
        rw [tl_app, List.length_append, ← len_tl, ← len_tl] at lx5
        have etf : tl (x1 ++ g ++ wy ++ ak ++ sv) = tl k1 ++ (58 :: 47 :: 47 :: (joinC 46 (ss.map tl) ++ (tl g ++ (wayP segs ++ (tl ak ++ tl sv))))) := by
          rw [tl_app, tl_app, tl_app, tl_app, et1, hwy]
          simp
        refine ⟨_, _, rfl, rfl, by rw [sizeLine_eq]; omega, ?_⟩
        refine k _ H8 ⟨tl k1, ss.map tl, n, tl g, segs, tl ak, tl sv, etf, ek1, by rw [m1, wmap], fun w hw => ?_, hn0, ?_, by rw [← fP]; exact hW6, ?_, hsv⟩ ?_ (by omega) K8 (p8.le (by omega))
        · obtain ⟨y, hy, rfl⟩ := List.mem_map.mp hw
          exact m2 y hy
        · rcases hg with ⟨g1, g2⟩ | ⟨r, g1, g2, g3⟩
          · exact .inl ⟨g1, by rw [g2, ek]⟩
          · exact .inr ⟨r, g1, g2, g3⟩
        · rcases hak with ⟨a1, a2⟩ | ⟨r, a1, a2⟩
          · refine .inl ⟨a1, ?_⟩
            rw [← ea, a2]
            rfl
          · exact .inr ⟨r, a1, by rw [← fA]; exact a2⟩
        · intro z hz
          have hz2 : z ∈ tl (x1 ++ g ++ wy ++ ak ++ sv) := hz
          rw [etf] at hz2
          simp only [List.mem_append, List.mem_cons] at hz2
          rcases hz2 with z1 | z1 | z1 | z1 | z1 | z1 | z1 | z1 | z1
          · have : lowC z ∈ low (tl k1) := List.mem_map.mpr ⟨z, z1, rfl⟩
            rw [ek1] at this
            have hb : lowC z < 128 := by
              rcases wf.kind with e | e
              · rw [e] at this
                have q : ∀ x ∈ leafT, x < 128 := by decide
                exact q _ this
              · rw [e] at this
                have q : ∀ x ∈ sealT, x < 128 := by decide
                exact q _ this
            unfold lowC at hb
            split at hb <;> omega
          · omega
          · omega
          · omega
          · rcases joinC_mem z1 with e | ⟨w, hw, e⟩
            · omega
            · obtain ⟨y, hy, rfl⟩ := List.mem_map.mp hw
              exact host_lt (List.all_eq_true.mp (m2 y hy) z e)
          · rcases hg with ⟨g1, g2⟩ | ⟨r, g1, g2, g3⟩
            · rw [g1] at z1; cases z1
            · rw [g1] at z1
              unfold isGateL at g2
              simp only [Bool.and_eq_true] at g2
              rcases List.mem_cons.mp z1 with e | e
              · omega
              · have := List.all_eq_true.mp g2.2 z e
                rw [figC_iff] at this
                omega
          · obtain ⟨x, hx, e⟩ := List.mem_flatten.mp z1
            obtain ⟨y, hy, rfl⟩ := List.mem_map.mp hx
            rcases List.mem_cons.mp e with e | e
            · omega
            · have := isW_bound (hW6.ok y hy).1 z e
              omega
          · rcases hak with ⟨a1, a2⟩ | ⟨r, a1, a2⟩
            · rw [a1] at z1; cases z1
            · rw [a1] at z1
              rcases List.mem_cons.mp z1 with e | e
              · omega
              · have := isW_bound a2.isw z e
                omega
          · exact osv z z1
end Kp
namespace Kp
open PySem PySem.Spec PyProof.Rows L2 TL
variable {P : Program} {w : World} {K : PySem.W.Frag} {mg : Str → Option Value} {base : Heap}
theorem iteB {b : Bool} {A B : Prop} (h1 : A) (h2 : B) : if b = true then A else B := by
  cases b with
  | true => rw [if_pos rfl]; exact h1
  | false => rw [if_neg Bool.false_ne_true]; exact h2
/-! ### _law_turned -/
abbrev kvs4 : List (Key × V) := [(.inr "~21", .str "!"), (.inr "~28", .str "("), (.inr "!", .str "~21"), (.inr "(", .str "~28")]
theorem get4 (y : Str) : ∃ z : Str, (valV (mergeK [] kvs4) (.inr y)).getD (.str y) = .str z ∧ (z = y ∨ z = "!" ∨ z = "(" ∨ z = "~21" ∨ z = "~28") := by
  have e : mergeK [] kvs4 = kvs4 := by decide +kernel
  rw [e]
  unfold valV
  cases h : List.find? (fun kv : Key × V => decide (kv.1 = Sum.inr y)) kvs4 with
  | none => exact ⟨y, rfl, .inl rfl⟩
  | some kv =>
    have hm := List.mem_of_find?_eq_some h
    simp only [List.mem_cons, List.not_mem_nil, or_false] at hm
    rcases hm with e | e | e | e
    · rw [e]; exact ⟨_, rfl, .inr (.inl rfl)⟩
    · rw [e]; exact ⟨_, rfl, .inr (.inr (.inl rfl))⟩
    · rw [e]; exact ⟨_, rfl, .inr (.inr (.inr (.inl rfl)))⟩
    · rw [e]; exact ⟨_, rfl, .inr (.inr (.inr (.inr rfl)))⟩
/-- an atom that may stand for another one -/
def NewA (B : Tx) (y z : Str) : Prop := Atm B (tl z) ∧ (z = y ∨ ∃ d ∈ tl z, d ≠ 46)
theorem newA_four {B : Tx} (hB : B = BP ∨ B = BA) {y z : Str} (hy : Atm B (tl y)) (h : z = y ∨ z = "!" ∨ z = "(" ∨ z = "~21" ∨ z = "~28") : NewA B y z := by
  have t1 : tl (Str.ofString "!") = [33] := by decide +kernel
  have t2 : tl (Str.ofString "(") = [40] := by decide +kernel
  have t3 : tl (Str.ofString "~21") = [126, 50, 49] := by decide +kernel
  have t4 : tl (Str.ofString "~28") = [126, 50, 56] := by decide +kernel
  rcases h with rfl | rfl | rfl | rfl | rfl
  · exact ⟨hy, .inl rfl⟩
  · refine ⟨?_, .inr ⟨33, by rw [t1]; simp, by decide⟩⟩
    rw [t1]
    refine .inl ⟨33, rfl, by decide, by decide, ?_⟩
    rcases hB with rfl | rfl <;> decide
  · refine ⟨?_, .inr ⟨40, by rw [t2]; simp, by decide⟩⟩
    rw [t2]
    refine .inl ⟨40, rfl, by decide, by decide, ?_⟩
    rcases hB with rfl | rfl <;> decide
  · refine ⟨?_, .inr ⟨126, by rw [t3]; simp, by decide⟩⟩
    rw [t3]
    exact .inr ⟨50, 49, rfl, by decide, by decide, by decide +kernel⟩
  · refine ⟨?_, .inr ⟨126, by rw [t4]; simp, by decide⟩⟩
    rw [t4]
    exact .inr ⟨50, 56, rfl, by decide, by decide, by decide +kernel⟩
theorem newA_up {B : Tx} (hB : B = BP ∨ B = BA) {y : Str} {c : Nat} (hc : tl y = [c]) (hy : Atm B (tl y)) : NewA B y (Txt.upper y) := by
  have ey : y = SX.S [c] := ext_tl hc
  rw [hc] at hy
  have hb : 33 ≤ c ∧ c ≤ 125 ∧ c ∉ B := by
    rcases hy with ⟨d, e, h⟩ | ⟨d, d', e, _⟩
    · have : c = d := by simpa using e
      rw [this]; exact h
    · simp at e
  have hu : Txt.upper y = SX.S [up1 c] := by
    rw [ey]
    exact SX.upper_S (a := [c]) (by simp; omega)
  have tu : tl (Txt.upper y) = [up1 c] := by rw [hu]
  by_cases q : 97 ≤ c ∧ c ≤ 122
  · have e : up1 c = c - 32 := if_pos q
    refine ⟨?_, .inr ⟨up1 c, by rw [tu]; simp, by omega⟩⟩
    rw [tu]
    refine .inl ⟨up1 c, rfl, by omega, by omega, ?_⟩
    rw [e]
    rcases hB with rfl | rfl <;> simp <;> omega
  · have e : up1 c = c := if_neg q
    have : Txt.upper y = y := by rw [hu, e, ey]
    rw [this]
    exact ⟨by rw [hc]; exact hy, .inl rfl⟩
/-- a piece with one atom in another's place -/
theorem piece_put {B : Tx} {xs : List Str} {k : Nat} {z : Str} (hk : k < xs.length) (hp : Piece B (xs.map tl)) (hz : NewA B xs[k] z) :
    Piece B ((xs.take k ++ [z] ++ xs.drop (k + 1)).map tl) ∧ (okPart ((xs.map tl).flatten) → okPart (((xs.take k ++ [z] ++ xs.drop (k + 1)).map tl).flatten)) := by
  have hPc : Piece B ((xs.take k ++ [z] ++ xs.drop (k + 1)).map tl) := by
    refine ⟨by simp, fun a ha => ?_⟩
    obtain ⟨y, hy, rfl⟩ := List.mem_map.mp ha
    rcases List.mem_append.mp hy with h | h
    · rcases List.mem_append.mp h with h | h
      · exact hp.at_ _ (List.mem_map.mpr ⟨y, List.mem_of_mem_take h, rfl⟩)
      · rw [List.mem_singleton.mp h]; exact hz.1
    · exact hp.at_ _ (List.mem_map.mpr ⟨y, List.mem_of_mem_drop h, rfl⟩)
  refine ⟨hPc, fun hok => ?_⟩
  rcases hz.2 with e | ⟨d, hd, hne⟩
  · have : xs.take k ++ [z] ++ xs.drop (k + 1) = xs := by
      rw [e]
      have h1 : xs.drop k = xs[k] :: xs.drop (k + 1) := List.drop_eq_getElem_cons hk
      rw [List.append_assoc]
      show xs.take k ++ (xs[k] :: xs.drop (k + 1)) = xs
      rw [← h1, List.take_append_drop]
    rw [this]
    exact hok
  · have hm : d ∈ ((xs.take k ++ [z] ++ xs.drop (k + 1)).map tl).flatten := List.mem_flatten.mpr ⟨tl z, List.mem_map.mpr ⟨z, by simp, rfl⟩, hd⟩
    refine ⟨hPc.flat_ne, fun e => ?_, fun e => ?_⟩
    · rw [e] at hm
      simp at hm
      exact hne hm
    · rw [e] at hm
      simp at hm
      exact hne hm
abbrev sTurned : Stmt := top 44
abbrev NTurned : List Str := ["_law_pot_here", "_law_pieces", "_law_at", "_law_k", "_law_atom_here", "_law_other", "_law_piece_here"]
theorem scTurned : FnScope NTurned ["_law_pot_here", "_law_pieces"] (defScope sTurned) := ⟨rfl, rfl, rfl, by decide +kernel, rfl, by decide +kernel, by decide +kernel⟩
def spTurned : Sp := fun vs H Q _ => ∃ (a l p : Addr) (m : Nat) (rows : List SRow) (B : Tx), vs = [.ref a, .ref p] ∧ (B = BP ∨ B = BA) ∧ LL a l H p rows ∧ RowsOk B rows ∧ rows.length ≤ 1000 ∧ 2 ≤ m ∧ Pot a l m H ∧
  ∀ p' rows' H', LL a l H' p' rows' → RowsOk B rows' → rows'.length = rows.length → ((∀ q ∈ flatR rows, okPart q) → ∀ q ∈ flatR rows', okPart q) → Kept [a, l] H H' → Pot a l (m - 2) H' → Q (.ref p') H'
theorem ok_turned (D : DefAt K mg "_law_turned" sTurned) (GL : Glb K w mg) (F__law_draw : FnAt P w K mg base CX0 "_law_draw" ["_law_pot_here", "_law_many"] [] 2 spDraw) : FnAt P w K mg base CX0 "_law_turned" ["_law_pot_here", "_law_pieces"] [] 3 spTurned := by
  refine D.ok scTurned (fun _ _ _ _ _ _ us hl => match us, hl with | [_, _], _ => rfl) (fun vs H Q E h => ?_) (fun f cdv A outer s H vs Q E hr h => ?_)
  · obtain ⟨a, l, p, m, rows, B, rfl, _⟩ := h
    rfl
  · obtain ⟨a, l, p, m, rows, B, rfl, hB, hLL, hrows, hlen, hm, pot, k⟩ := h
    refine ⟨_, (pss_cons (ps_set (i := 2) scTurned.nd rfl (Or.inl rfl) (pe_cf F__law_draw (hr.mono (by decide)) pass0 (pa_cons (pv 0) (pa_cons (pe_callB (call_max2 rfl) (by rfl) GL.max (by decide +kernel) (pa_cons pe_int (pa_cons (pe_callB (cr_lenSeq (K := K)) (by rfl) GL.len (by decide +kernel) (pa_cons (pv 1) pa_nil)) pa_nil))) pa_nil))))
      (pss_cons (ps_if (pt_cmpR (op_eqD hr.units) (pv 1) (pe_lst pa_nil) (nomark _)) (pss_one (ps_ret (pv 1))) pss_nil)
      (pss_cons (ps_set (i := 3) scTurned.nd rfl (Or.inl rfl) (pe_cf F__law_draw (hr.mono (by decide)) pass0 (pa_cons (pv 0) (pa_cons (pe_callB (cr_lenSeq (K := K)) (by rfl) GL.len (by decide +kernel) (pa_cons (pe_ix (ix_listK (K := K)) (pv 1) (pv 2) (fun _ _ => rfl)) pa_nil)) pa_nil))))
      (pss_cons (ps_set (i := 4) scTurned.nd rfl (Or.inl rfl) (pe_ix (ix_listK (K := K)) (pe_ix (ix_listK (K := K)) (pv 1) (pv 2) (fun _ _ => rfl)) (pv 3) (fun _ _ => rfl)))
      (pss_cons (ps_set (i := 5) scTurned.nd rfl (Or.inl rfl) (pe_dget2 (hu_of hr) (pe_disp (pps_cons pe_str pe_str (pps_cons pe_str pe_str (pps_cons pe_str pe_str (pps_cons pe_str pe_str pps_nil)))) (by rfl) (by rfl) (fun z => by cases z) (by decide)) (pv 4) (pv 4) ⟨rfl, rfl, rfl, rfl⟩))
      (C8.pss_cut (ps_if (PW.pt (pw_and (pt_chain op_le_str op_le_str pe_str (pv 4) pe_str) (pw_and1 (pt_cmpR op_eq (pe_callB call_len_str (by rfl) GL.len (by decide +kernel) (pa_cons (pv 4) pa_nil)) pe_int (nomark _))))) (pss_one (ps_set (i := 5) scTurned.nd rfl (Or.inl rfl) (pe_upper (pv 4)))) pss_nil)
      (pss_cons (ps_set (i := 6) scTurned.nd rfl (Or.inl rfl) (pe_op op_cat (pe_op op_cat (pe_slice sl_list (pe_ix (ix_listK (K := K)) (pv 1) (pv 2) (fun _ _ => rfl)) po_none (po_some (pv 3))) (pe_lst (pa_cons (pv 5) pa_nil))) (pe_slice sl_list (pe_ix (ix_listK (K := K)) (pv 1) (pv 2) (fun _ _ => rfl)) (po_some (pe_op op_add (pv 3) pe_int)) po_none)))
      (pss_one (ps_ret (pe_op op_cat (pe_op op_cat (pe_slice sl_list (pv 1) po_none (po_some (pv 2))) (pe_lst (pa_cons (pv 6) pa_nil))) (pe_slice sl_list (pv 1) (po_some (pe_op op_add (pv 2) pe_int)) po_none))))))))))), ?_⟩
    have e : (if ((rows.map fun r => V.ref r.1).length : Int) > 1 then ((rows.map fun r => V.ref r.1).length : Int) else 1) = ((max 1 rows.length : Nat) : Int) := by
      rw [List.length_map]
      split <;> omega
    refine ⟨_, rfl, _, rfl, p, _, rfl, .inl (SqL.of hLL.at_), _, _, rfl, a, l, max 1 rows.length, m, ?_, by omega, by omega, by omega, pot, fun at' H1 hat K1 p1 => ?_⟩
    · show [V.ref a, V.int (if ((rows.map fun r => V.ref r.1).length : Int) > 1 then ((rows.map fun r => V.ref r.1).length : Int) else 1)] = _
      rw [e]
    · refine ⟨_, rfl, (show 0 ≤ sizeLine by decide), fun B0 hB0 => ?_⟩
      have hL1 := hLL.kept K1
      have hL2 := hL1.new (o := .lst []) hB0
      have p2 := p1.new (o := .lst []) hB0
      have K2 : Kept [a, l] H (upd H1 B0 (.lst [])) := K1.new hB0
      refine ⟨_, _, Dp.lst (SqL.of hL2.at_) (dp_rows hL2.each), Dp.lst (SqL.of upd_same) .nil, shaped_rows fun r hr y hy => atm_okS ((hrows r hr).1.at_ _ (List.mem_map.mpr ⟨y, hy, rfl⟩)), by decide +kernel, _, rfl, ?_⟩
      generalize upd H1 B0 (.lst []) = H2 at hL2 p2 K2
      have en : PyData.eqv (.list (rows.map fun r => .list (r.2.map .str))) (.list []) = rows.isEmpty := by
        show PyData.eqvAll (rows.map fun r => .list (r.2.map .str)) [] = _
        rw [eqv_nil, isEmpty_map]
      rw [en]
      by_cases qr : rows = []
      · subst qr
        refine iteT ⟨_, rfl, k p [] H2 hL2 hrows rfl (fun h => h) K2 (p2.le (by omega))⟩
      · have qr2 : rows.isEmpty = false := by
          cases rows with
          | nil => exact absurd rfl qr
          | cons _ _ => rfl
        rw [qr2]
        have rpos : 1 ≤ rows.length := List.length_pos_iff.mpr qr
        have hat2 : at' < rows.length := by omega
        have hrow : (rows.map fun r => V.ref r.1)[at']? = some (.ref (rows[at']).1) := by rw [List.getElem?_map, List.getElem?_eq_getElem hat2]; rfl
        have hrm : rows[at'] ∈ rows := List.getElem_mem hat2
        have hrw := hrows _ hrm
        have rne : 1 ≤ (rows[at']).2.length := by
          have := hrw.1.ne
          cases h : (rows[at']).2 with
          | nil => rw [h] at this; exact absurd rfl this
          | cons _ _ => simp
        have hrl := hL2.each _ hrm
        refine iteF ⟨_, rfl, _, rfl, _, rfl, p, _, at', _, rfl, rfl, SqL.of hL2.at_, atI_nat hrow, (rows[at']).1, _, rfl, .inl (SqL.of hrl.2.2), a, l, ((rows[at']).2.map V.str).length, m - 1, rfl, by rw [List.length_map]; exact rne, by rw [List.length_map]; omega, by omega, p2, fun k1 H3 hk1 K3 p3 => ?_⟩
        rw [List.length_map] at hk1
        have hL3 := hL2.kept K3
        have hrl3 := hL3.each _ hrm
        have K3 : Kept [a, l] H H3 := K2.trans K3
        have hatom : ((rows[at']).2.map V.str)[k1]? = some (.str (rows[at']).2[k1]) := by rw [List.getElem?_map, List.getElem?_eq_getElem hk1]; rfl
        refine ⟨_, rfl, _, rfl, p, _, at', _, rfl, rfl, SqL.of hL3.at_, atI_nat hrow, _, rfl, (rows[at']).1, _, k1, _, rfl, rfl, SqL.of hrl3.2.2, atI_nat hatom, ?_⟩
        have hA0 : Atm B (tl (rows[at']).2[k1]) := hrw.1.at_ _ (List.mem_map.mpr ⟨_, List.getElem_mem hk1, rfl⟩)
        obtain ⟨z, ez, hz⟩ := get4 (rows[at']).2[k1]
        have hN := newA_four hB hA0 hz
        refine fun D0 hD0 => ⟨upd_same, kvs4, rfl, by decide, D0, rfl, .inl ⟨_, .inl upd_same⟩, _, rfl, _, rfl, _, .inl ⟨_, .inr (rows[at']).2[k1], .inl upd_same, rfl, rfl⟩, ?_⟩
        rw [ez]
        have s4 : Same H3 (upd (upd H3 D0 (.dK [])) D0 (.dK (mergeK [] kvs4))) := Same.put (Same.new (Same.refl H3) hD0) hD0
        generalize upd (upd H3 D0 (.dK [])) D0 (.dK (mergeK [] kvs4)) = H4 at s4 ⊢
        have hL4 := hL3.kept (Kept.same s4)
        have p4 := p3.same s4
        have K4 : Kept [a, l] H H4 := K3.trans (Kept.same s4)
        refine ⟨fun σ H' => ∃ z : Str, σ = [some (.ref a), some (.ref p), some (.int (at' : Nat)), some (.int (k1 : Nat)), some (.str (rows[at']).2[k1]), some (.str z), none] ∧ NewA B (rows[at']).2[k1] z ∧ LL a l H' p rows ∧ Kept [a, l] H H' ∧ Pot a l (m - 2) H', ?_, ?_⟩
        · have hJ : ∃ z' : Str, [some (V.ref a), some (.ref p), some (.int (at' : Nat)), some (.int (k1 : Nat)), some (.str (rows[at']).2[k1]), some (.str z), none] = [some (V.ref a), some (.ref p), some (.int (at' : Nat)), some (.int (k1 : Nat)), some (.str (rows[at']).2[k1]), some (.str z'), none] ∧ NewA B (rows[at']).2[k1] z' ∧ LL a l H4 p rows ∧ Kept [a, l] H H4 ∧ Pot a l (m - 2) H4 := ⟨z, rfl, hN, hL4, K4, p4.le (by omega)⟩
          have la := len_tl (rows[at']).2[k1]
          have la3 : (tl (rows[at']).2[k1]).length ≤ 3 := by rcases hA0 with ⟨c, e, _⟩ | ⟨c, d, e, _⟩ <;> rw [e] <;> simp
          refine ⟨_, rfl, _, _, rfl, rfl, _, rfl, ?_⟩
          refine iteB ?_ ?_
          · refine ⟨_, _, rfl, rfl, _, rfl, ?_⟩
            refine iteB ?_ ?_
            · refine ⟨_, rfl, _, rfl, by rw [sizeLine_eq]; omega, rfl, _, rfl, ?_⟩
              by_cases q1 : (tl (rows[at']).2[k1]).length = 1
              · rw [decide_eq_true (by rw [la, q1]; rfl)]
                refine iteT ?_
                refine ⟨_, rfl, ⟨_, rfl⟩, _, rfl, rfl, by omega, ?_⟩
                obtain ⟨c, hc⟩ : ∃ c, tl (rows[at']).2[k1] = [c] := by
                  match h : tl (rows[at']).2[k1], q1 with
                  | [c], _ => exact ⟨c, rfl⟩
                exact ⟨_, rfl, newA_up hB hc hA0, hL4, K4, p4.le (by omega)⟩
              · rw [decide_eq_false (fun e => q1 (by have := V.int.inj e; omega))]
                refine iteF ?_
                exact hJ
            · refine iteF ?_
              exact hJ
          · refine ⟨_, rfl, ?_⟩
            refine iteF ?_
            refine iteF ?_
            exact hJ
        · rintro σ H5 ⟨z, rfl, hN, hL5, K5, p5⟩
          have hrl5 := hL5.each _ hrm
          have lr9 := hrw.2
          have hcutT : cutV ((rows[at']).2.map V.str) none (some ((k1 : Nat) : Int)) = ((rows[at']).2.take k1).map V.str := by rw [cutV_to, List.map_take]
          have hcutD : cutV ((rows[at']).2.map V.str) (some (((k1 : Nat) : Int) + 1)) none = ((rows[at']).2.drop (k1 + 1)).map V.str := by
            have : ((k1 : Nat) : Int) + 1 = ((k1 + 1 : Nat) : Int) := by omega
            rw [this, cutV_nat, List.map_drop]
          refine ⟨_, rfl, _, rfl, p, _, at', _, rfl, rfl, SqL.of hL5.at_, atI_nat hrow, _, rfl, _, rfl, (rows[at']).1, _, rfl, SqL.of hrl5.2.2, fun q1 hq1 => ?_⟩
          have sH5 : Same H5 H5 := Same.refl H5
          rw [hcutT]
          have sH6 : Same H5 (upd H5 q1 (.lst (((rows[at']).2.take k1).map V.str))) := Same.new sH5 hq1
          have fq1 : (upd H5 q1 (.lst (((rows[at']).2.take k1).map V.str))) q1 = some (.lst (((rows[at']).2.take k1).map V.str)) := upd_same
          generalize upd H5 q1 (.lst (((rows[at']).2.take k1).map V.str)) = H6 at sH6 fq1  ⊢
          refine ⟨_, rfl, (show 1 ≤ sizeLine by decide), fun q2 hq2 => ?_⟩
          have sH7 : Same H5 (upd H6 q2 (.lst [V.str z])) := Same.new sH6 hq2
          have fq2 : (upd H6 q2 (.lst [V.str z])) q2 = some (.lst [V.str z]) := upd_same
          have fq1 := Same.new (o := .lst [V.str z]) (Same.refl H6) hq2 _ _ fq1
          generalize upd H6 q2 (.lst [V.str z]) = H7 at sH7 fq2 fq1 ⊢
          refine ⟨q1, q2, _, _, rfl, rfl, fq1, fq2, by rw [List.length_map, List.length_take, sizeLine_eq]; simp only [List.length_cons, List.length_nil]; omega, fun q3 hq3 => ?_⟩
          have sH8 : Same H5 (upd H7 q3 (.lst (((rows[at']).2.take k1).map V.str ++ [V.str z]))) := Same.new sH7 hq3
          have fq3 : (upd H7 q3 (.lst (((rows[at']).2.take k1).map V.str ++ [V.str z]))) q3 = some (.lst (((rows[at']).2.take k1).map V.str ++ [V.str z])) := upd_same
          generalize upd H7 q3 (.lst (((rows[at']).2.take k1).map V.str ++ [V.str z])) = H8 at sH8 fq3  ⊢
          have hL8 := hL5.kept (Kept.same sH8)
          have hrl8 := hL8.each _ hrm
          refine ⟨_, rfl, _, rfl, p, _, at', _, rfl, rfl, SqL.of hL8.at_, atI_nat hrow, _, rfl, _, _, rfl, rfl, _, rfl, (rows[at']).1, _, rfl, SqL.of hrl8.2.2, fun q4 hq4 => ?_⟩
          rw [hcutD]
          have sH9 : Same H5 (upd H8 q4 (.lst (((rows[at']).2.drop (k1 + 1)).map V.str))) := Same.new sH8 hq4
          have fq4 : (upd H8 q4 (.lst (((rows[at']).2.drop (k1 + 1)).map V.str))) q4 = some (.lst (((rows[at']).2.drop (k1 + 1)).map V.str)) := upd_same
          have fq3 := Same.new (o := .lst (((rows[at']).2.drop (k1 + 1)).map V.str)) (Same.refl H8) hq4 _ _ fq3
          generalize upd H8 q4 (.lst (((rows[at']).2.drop (k1 + 1)).map V.str)) = H9 at sH9 fq4 fq3 ⊢
          refine ⟨q3, q4, _, _, rfl, rfl, fq3, fq4, by rw [List.length_append, List.length_map, List.length_map, List.length_take, List.length_drop, sizeLine_eq]; simp only [List.length_cons, List.length_nil]; omega, fun q5 hq5 => ?_⟩
          have sH10 : Same H5 (upd H9 q5 (.lst (((rows[at']).2.take k1).map V.str ++ [V.str z] ++ ((rows[at']).2.drop (k1 + 1)).map V.str))) := Same.new sH9 hq5
          have fq5 : (upd H9 q5 (.lst (((rows[at']).2.take k1).map V.str ++ [V.str z] ++ ((rows[at']).2.drop (k1 + 1)).map V.str))) q5 = some (.lst (((rows[at']).2.take k1).map V.str ++ [V.str z] ++ ((rows[at']).2.drop (k1 + 1)).map V.str)) := upd_same
          generalize upd H9 q5 (.lst (((rows[at']).2.take k1).map V.str ++ [V.str z] ++ ((rows[at']).2.drop (k1 + 1)).map V.str)) = H10 at sH10 fq5  ⊢
          have n5 : q5 ≠ a ∧ q5 ≠ l := (p5.same sH9).ne hq5
          have hys : LS a l H10 q5 ((rows[at']).2.take k1 ++ [z] ++ (rows[at']).2.drop (k1 + 1)) := ⟨n5.1, n5.2, by rw [fq5, List.map_append, List.map_append]; rfl⟩
          have hL10 := hL5.kept (Kept.same sH10)
          obtain ⟨pc, pok⟩ := piece_put hk1 hrw.1 hN
          have ylen : ((rows[at']).2.take k1 ++ [z] ++ (rows[at']).2.drop (k1 + 1)).length ≤ 9 := by
            rw [List.length_append, List.length_append, List.length_take, List.length_drop]
            simp only [List.length_cons, List.length_nil]
            omega
          generalize (rows[at']).2.take k1 ++ [z] ++ (rows[at']).2.drop (k1 + 1) = ys at hys pc pok ylen
          clear fq5
          have fq5 := hys.2.2
          have ocutT : cutV (rows.map fun r => V.ref r.1) none (some ((at' : Nat) : Int)) = (rows.take at').map fun r => V.ref r.1 := by rw [cutV_to, List.map_take]
          have ocutD : cutV (rows.map fun r => V.ref r.1) (some (((at' : Nat) : Int) + 1)) none = (rows.drop (at' + 1)).map fun r => V.ref r.1 := by
            have : ((at' : Nat) : Int) + 1 = ((at' + 1 : Nat) : Int) := by omega
            rw [this, cutV_nat, List.map_drop]
          refine ⟨_, rfl, _, rfl, _, rfl, p, _, rfl, SqL.of hL10.at_, fun q6 hq6 => ?_⟩
          rw [ocutT]
          have sH11 : Same H5 (upd H10 q6 (.lst ((rows.take at').map fun r => V.ref r.1))) := Same.new sH10 hq6
          have fq6 : (upd H10 q6 (.lst ((rows.take at').map fun r => V.ref r.1))) q6 = some (.lst ((rows.take at').map fun r => V.ref r.1)) := upd_same
          have fq5 := Same.new (o := .lst ((rows.take at').map fun r => V.ref r.1)) (Same.refl H10) hq6 _ _ fq5
          generalize upd H10 q6 (.lst ((rows.take at').map fun r => V.ref r.1)) = H11 at sH11 fq6 fq5 ⊢
          refine ⟨_, rfl, (show 1 ≤ sizeLine by decide), fun q7 hq7 => ?_⟩
          have sH12 : Same H5 (upd H11 q7 (.lst [V.ref q5])) := Same.new sH11 hq7
          have fq7 : (upd H11 q7 (.lst [V.ref q5])) q7 = some (.lst [V.ref q5]) := upd_same
          have fq5 := Same.new (o := .lst [V.ref q5]) (Same.refl H11) hq7 _ _ fq5
          have fq6 := Same.new (o := .lst [V.ref q5]) (Same.refl H11) hq7 _ _ fq6
          generalize upd H11 q7 (.lst [V.ref q5]) = H12 at sH12 fq7 fq5 fq6 ⊢
          refine ⟨q6, q7, _, _, rfl, rfl, fq6, fq7, by rw [List.length_map, List.length_take, sizeLine_eq]; simp only [List.length_cons, List.length_nil]; omega, fun q8 hq8 => ?_⟩
          have sH13 : Same H5 (upd H12 q8 (.lst (((rows.take at').map fun r => V.ref r.1) ++ [V.ref q5]))) := Same.new sH12 hq8
          have fq8 : (upd H12 q8 (.lst (((rows.take at').map fun r => V.ref r.1) ++ [V.ref q5]))) q8 = some (.lst (((rows.take at').map fun r => V.ref r.1) ++ [V.ref q5])) := upd_same
          have fq5 := Same.new (o := .lst (((rows.take at').map fun r => V.ref r.1) ++ [V.ref q5])) (Same.refl H12) hq8 _ _ fq5
          generalize upd H12 q8 (.lst (((rows.take at').map fun r => V.ref r.1) ++ [V.ref q5])) = H13 at sH13 fq8 fq5 ⊢
          have hL13 := hL5.kept (Kept.same sH13)
          refine ⟨_, rfl, _, rfl, _, _, rfl, rfl, _, rfl, p, _, rfl, SqL.of hL13.at_, fun q9 hq9 => ?_⟩
          rw [ocutD]
          have sH14 : Same H5 (upd H13 q9 (.lst ((rows.drop (at' + 1)).map fun r => V.ref r.1))) := Same.new sH13 hq9
          have fq9 : (upd H13 q9 (.lst ((rows.drop (at' + 1)).map fun r => V.ref r.1))) q9 = some (.lst ((rows.drop (at' + 1)).map fun r => V.ref r.1)) := upd_same
          have fq5 := Same.new (o := .lst ((rows.drop (at' + 1)).map fun r => V.ref r.1)) (Same.refl H13) hq9 _ _ fq5
          have fq8 := Same.new (o := .lst ((rows.drop (at' + 1)).map fun r => V.ref r.1)) (Same.refl H13) hq9 _ _ fq8
          generalize upd H13 q9 (.lst ((rows.drop (at' + 1)).map fun r => V.ref r.1)) = H14 at sH14 fq9 fq5 fq8 ⊢
          refine ⟨q8, q9, _, _, rfl, rfl, fq8, fq9, by rw [List.length_append, List.length_map, List.length_map, List.length_take, List.length_drop, sizeLine_eq]; simp only [List.length_cons, List.length_nil]; omega, fun q10 hq10 => ?_⟩
          have sH15 : Same H5 (upd H14 q10 (.lst (((rows.take at').map fun r => V.ref r.1) ++ [V.ref q5] ++ ((rows.drop (at' + 1)).map fun r => V.ref r.1)))) := Same.new sH14 hq10
          have fq10 : (upd H14 q10 (.lst (((rows.take at').map fun r => V.ref r.1) ++ [V.ref q5] ++ ((rows.drop (at' + 1)).map fun r => V.ref r.1)))) q10 = some (.lst (((rows.take at').map fun r => V.ref r.1) ++ [V.ref q5] ++ ((rows.drop (at' + 1)).map fun r => V.ref r.1))) := upd_same
          have fq5 := Same.new (o := .lst (((rows.take at').map fun r => V.ref r.1) ++ [V.ref q5] ++ ((rows.drop (at' + 1)).map fun r => V.ref r.1))) (Same.refl H14) hq10 _ _ fq5
          generalize upd H14 q10 (.lst (((rows.take at').map fun r => V.ref r.1) ++ [V.ref q5] ++ ((rows.drop (at' + 1)).map fun r => V.ref r.1))) = H15 at sH15 fq10 fq5 ⊢
          have n10 : q10 ≠ a ∧ q10 ≠ l := (p5.same sH14).ne hq10
          have hL15 := hL5.kept (Kept.same sH15)
          refine k q10 (rows.take at' ++ [(q5, ys)] ++ rows.drop (at' + 1)) H15 ⟨n10.1, n10.2, by rw [fq10, List.map_append, List.map_append]; rfl, fun r hr => ?_⟩ (fun r hr => ?_) ?_ (fun hok q hq => ?_) (K5.trans (Kept.same sH15)) ((p5.same sH15).le (by omega))
          · rcases List.mem_append.mp hr with h | h
            · rcases List.mem_append.mp h with h | h
              · exact hL15.each r (List.mem_of_mem_take h)
              · rw [List.mem_singleton.mp h]
                exact ⟨n5.1, n5.2, fq5⟩
            · exact hL15.each r (List.mem_of_mem_drop h)
          · rcases List.mem_append.mp hr with h | h
            · rcases List.mem_append.mp h with h | h
              · exact hrows r (List.mem_of_mem_take h)
              · rw [List.mem_singleton.mp h]
                exact ⟨pc, ylen⟩
            · exact hrows r (List.mem_of_mem_drop h)
          · rw [List.length_append, List.length_append, List.length_take, List.length_drop]
            simp only [List.length_cons, List.length_nil]
            omega
          · obtain ⟨r, hr, rfl⟩ := List.mem_map.mp hq
            rcases List.mem_append.mp hr with h | h
            · rcases List.mem_append.mp h with h | h
              · exact hok _ (List.mem_map.mpr ⟨r, List.mem_of_mem_take h, rfl⟩)
              · rw [List.mem_singleton.mp h]
                exact pok (hok _ (List.mem_map.mpr ⟨_, hrm, rfl⟩))
            · exact hok _ (List.mem_map.mpr ⟨r, List.mem_of_mem_drop h, rfl⟩)
end Kp
namespace Kp
open PySem PySem.Spec PyProof.Rows L2 TL
variable {P : Program} {w : World} {K : PySem.W.Frag} {mg : Str → Option Value} {base : Heap}
/-! ### lists of contents -/
/-- v is a content -/
def GoodC (K : PySem.W.Frag) (a l n : Nat) (H : Hp) (v : V) : Prop := ∃ p c, v = .ref p ∧ CtAt K a l H p c ∧ WfCt c ∧ Sz c n
theorem GoodC.kept {a l n : Nat} {H H' : Hp} {v : V} (h : GoodC K a l n H v) (k : Kept [a, l] H H') : GoodC K a l n H' v := by
  obtain ⟨p, c, e, h1, h2, h3⟩ := h
  exact ⟨p, c, e, h1.kept k, h2, h3⟩
theorem Sz.le {c : Ct} {n n' : Nat} (h : Sz c n) (hn : n ≤ n') : Sz c n' := ⟨by have := h.host; omega, h.word, by have := h.parts; omega, h.part, by have := h.asks; omega, h.ask⟩
theorem GoodC.le {a l n n' : Nat} {H : Hp} {v : V} (h : GoodC K a l n H v) (hn : n ≤ n') : GoodC K a l n' H v := by
  obtain ⟨p, c, e, h1, h2, h3⟩ := h
  exact ⟨p, c, e, h1, h2, h3.le hn⟩
/-- the list at S begins with a tuple -/
structure TupS (H : Hp) (S : Addr) : Prop where
  ex : ∃ (t : Addr) (vs xs : List V), H S = some (.lst (.ref t :: vs)) ∧ H t = some (.tup xs)
theorem TupS.kept {a l S : Addr} {H H' : Hp} (h : TupS H S) (hS : S ≠ a ∧ S ≠ l) (ht : ∀ (t : Addr) (xs : List V), H t = some (.tup xs) → t ≠ a ∧ t ≠ l) (k : Kept [a, l] H H') : TupS H' S := by
  obtain ⟨t, vs, xs, h1, h2⟩ := h.ex
  have := ht t xs h2
  exact ⟨t, vs, xs, k S _ (by simp [hS.1, hS.2]) h1, k t _ (by simp [this.1, this.2]) h2⟩
theorem Pot.tup {a l : Addr} {m : Nat} {H : Hp} (h : Pot a l m H) (t : Addr) (xs : List V) (ht : H t = some (.tup xs)) : t ≠ a ∧ t ≠ l := by
  obtain ⟨_, b, c, d, ns, h1, h2, _⟩ := h
  exact ⟨(fun e => by rw [e, h1] at ht; cases ht), (fun e => by rw [e, h2] at ht; cases ht)⟩
theorem LS.neS {a l p S : Addr} {H : Hp} {xs : List Str} (h : LS a l H p xs) (t : TupS H S) : p ≠ S := by
  obtain ⟨t, vs, ys, h1, h2⟩ := t.ex
  intro e
  have h3 := h.2.2
  rw [e, h1] at h3
  cases xs with
  | nil => cases h3
  | cons x r =>
    have h4 := Option.some.inj h3
    have h5 : V.ref t :: vs = V.str x :: r.map V.str := by
      have : HO.lst (V.ref t :: vs) = HO.lst (V.str x :: r.map V.str) := h4
      injection this
    cases h5
theorem LL.neS {a l p S : Addr} {H : Hp} {rows : List SRow} (h : LL a l H p rows) (t : TupS H S) : p ≠ S := by
  obtain ⟨t, vs, ys, h1, h2⟩ := t.ex
  intro e
  have h3 := h.at_
  rw [e, h1] at h3
  cases rows with
  | nil => cases h3
  | cons r rest =>
    have h4 := Option.some.inj h3
    have h5 : V.ref t :: vs = V.ref r.1 :: rest.map fun r => V.ref r.1 := by
      have : HO.lst (V.ref t :: vs) = HO.lst (V.ref r.1 :: rest.map fun r => V.ref r.1) := h4
      injection this
    have h6 : t = r.1 := by
      have := List.head_eq_of_cons_eq h5
      injection this
    have h7 := (h.each r (by simp)).2.2
    rw [← h6, h2] at h7
    cases h7
theorem LL.putS {a l p S : Addr} {H : Hp} {o : HO} {rows : List SRow} (h : LL a l H p rows) (t : TupS H S) : LL a l (upd H S o) p rows :=
  ⟨h.pa, h.pl, by rw [upd_ne (h.neS t)]; exact h.at_, fun r hr => (h.each r hr).put ((h.each r hr).neS t)⟩
theorem CtAt.putS {a l p S : Addr} {H : Hp} {o : HO} {c : Ct} (h : CtAt K a l H p c) (t : TupS H S) : CtAt K a l (upd H S o) p c := by
  obtain ⟨k, hp, pp, ap, hs, pr, ar, h1, h2, h3, h4, h5, h6, h7, h8, h9⟩ := h.ex
  have e : p ≠ S := fun e => by
    obtain ⟨t, vs, ys, g1, g2⟩ := t.ex
    rw [e, g1] at h1
    cases h1
  exact ⟨k, hp, pp, ap, hs, pr, ar, by rw [upd_ne e]; exact h1, h2.put (h2.neS t), h3.putS t, h4.putS t, h5, h6, h7, h8, h9⟩
theorem GoodC.putS {a l n S : Addr} {H : Hp} {o : HO} {v : V} (h : GoodC K a l n H v) (t : TupS H S) : GoodC K a l n (upd H S o) v := by
  obtain ⟨p, c, e, h1, h2, h3⟩ := h
  exact ⟨p, c, e, h1.putS t, h2, h3⟩
structure HostOk (hs : List Str) : Prop where
  ne : hs ≠ []
  word : ∀ w ∈ hs, WordT (tl w)
  hd : 2 < hs.length → (hs.map tl).head? ≠ some www
theorem good_make {a l n t hp pp ap : Addr} {m : Nat} {H : Hp} {kd : Str} {hs : List Str} {g : Nat} {pr ar : List SRow} (ht : H t = none) (pot : Pot a l m H) (hls : LS a l H hp hs) (hP : LL a l H pp pr) (hA : LL a l H ap ar) (hk : tl kd = leafT ∨ tl kd = sealT) (hh : HostOk hs) (hg : g < 100000)
    (rP : RowsOk BP pr) (oP : ∀ q ∈ flatR pr, okPart q) (rA : RowsOk BA ar) (s1 : hs.length ≤ 4 + n) (s2 : pr.length ≤ 6 + n) (s3 : ar.length ≤ 6 + n) :
    GoodC K a l n (upd H t (.tup [.str kd, .ref hp, .int (g : Nat), .ref pp, .ref ap])) (.ref t) := by
  have tn := pot.ne ht
  refine ⟨t, ⟨tl kd, hs.map tl, g, pr.map (fun r => r.2.map tl), ar.map (fun r => r.2.map tl)⟩, rfl, ⟨kd, hp, pp, ap, hs, pr, ar, upd_same, hls.new ht, hP.new ht, hA.new ht, rfl, rfl, rfl, rfl, tn.1, tn.2⟩, ?_, ?_⟩
  · refine ⟨hk, by simpa using hh.ne, fun x hx => ?_, fun h => hh.hd (by simpa using h), hg, fun x hx => ?_, fun x hx => ?_⟩
    · obtain ⟨y, hy, rfl⟩ := List.mem_map.mp hx
      exact ⟨(hh.word y hy).1, (hh.word y hy).2.1⟩
    · obtain ⟨y, hy, rfl⟩ := List.mem_map.mp hx
      exact ⟨(rP y hy).1, oP _ (List.mem_map.mpr ⟨y, hy, rfl⟩)⟩
    · obtain ⟨y, hy, rfl⟩ := List.mem_map.mp hx
      exact (rA y hy).1
  · refine ⟨by rw [List.length_map]; exact s1, fun x hx => ?_, by rw [List.length_map]; exact s2, fun x hx => ?_, by rw [List.length_map]; exact s3, fun x hx => ?_⟩
    · obtain ⟨y, hy, rfl⟩ := List.mem_map.mp hx
      exact (hh.word y hy).2.2
    · obtain ⟨y, hy, rfl⟩ := List.mem_map.mp hx
      rw [List.length_map]
      exact (rP y hy).2
    · obtain ⟨y, hy, rfl⟩ := List.mem_map.mp hx
      rw [List.length_map]
      exact (rA y hy).2
/-- what a content's lists hold -/
theorem ct_open {a l p : Addr} {H : Hp} {c : Ct} {n : Nat} (h : CtAt K a l H p c) (wf : WfCt c) (sz : Sz c n) : ∃ (kd : Str) (hp pp ap : Addr) (hs : List Str) (pr ar : List SRow), H p = some (.tup [.str kd, .ref hp, .int (c.gate : Nat), .ref pp, .ref ap]) ∧ LS a l H hp hs ∧ LL a l H pp pr ∧ LL a l H ap ar ∧
    (tl kd = leafT ∨ tl kd = sealT) ∧ HostOk hs ∧ RowsOk BP pr ∧ (∀ q ∈ flatR pr, okPart q) ∧ RowsOk BA ar ∧ hs.length ≤ 4 + n ∧ pr.length ≤ 6 + n ∧ ar.length ≤ 6 + n := by
  obtain ⟨k, hp, pp, ap, hs, pr, ar, h1, h2, h3, h4, h5, h6, h7, h8, h9⟩ := h.ex
  have e1 := congrArg List.length h6
  have e2 := congrArg List.length h7
  have e3 := congrArg List.length h8
  rw [List.length_map] at e1 e2 e3
  have s1 := sz.host
  have s2 := sz.parts
  have s3 := sz.asks
  refine ⟨k, hp, pp, ap, hs, pr, ar, h1, h2, h3, h4, by rw [h5]; exact wf.kind, ⟨fun e => wf.hne (by rw [← h6, e]; rfl), fun x hx => ?_, fun h => by rw [h6]; exact wf.hhd (by omega)⟩, rows_ok h7 (fun q hq => (wf.parts q hq).1) sz.part, fun q hq => ?_, rows_ok h8 (fun q hq => wf.asks q hq) sz.ask, by omega, by omega, by omega⟩
  · have hm : tl x ∈ c.host := by rw [← h6]; exact List.mem_map.mpr ⟨x, hx, rfl⟩
    exact ⟨(wf.host _ hm).1, (wf.host _ hm).2, sz.word _ hm⟩
  · rw [flatR_eq h7] at hq
    obtain ⟨y, hy, rfl⟩ := List.mem_map.mp hq
    exact (wf.parts y hy).2
/-! ### _law_near -/
abbrev sNear : Stmt := top 45
abbrev NNear : List Str := ["_law_pot_here", "_law_content_here", "_law_kind", "_law_host", "_law_gate_here", "_law_parts", "_law_asks_here", "_law_some"]
theorem scNear : FnScope NNear ["_law_pot_here", "_law_content_here"] (defScope sNear) := ⟨rfl, rfl, rfl, by decide +kernel, rfl, by decide +kernel, by decide +kernel⟩
def spNear (K : PySem.W.Frag) : Sp := fun vs H Q _ => ∃ (a l p : Addr) (m n : Nat) (c : Ct), vs = [.ref a, .ref p] ∧ CtAt K a l H p c ∧ WfCt c ∧ Sz c n ∧ n ≤ 3 ∧ 5 ≤ m ∧ Pot a l m H ∧ ∀ v H', GoodC K a l (n + 1) H' v → Kept [a, l] H H' → Pot a l (m - 5) H' → Q v H'
theorem rd_swap {σ : L2.St} {H : Hp} {Q : VK} {j : Nat} {k : Str} (hj : σ[j]? = some (some (.str k))) (hk : tl k = leafT ∨ tl k = sealT) (q : ∀ k' H', Same H H' → (tl k' = leafT ∨ tl k' = sealT) → Q (.str k') H') :
    tDGet (tDisp [(tC (.str "leaf"), tC (.str "seal")), (tC (.str "seal"), tC (.str "leaf"))]) (tVar j) σ H Q := by
  intro p hp
  refine ⟨upd_same, [(.inr "leaf", .str "seal"), (.inr "seal", .str "leaf")], rfl, by decide, ?_⟩
  rcases hk with h | h
  · have e : k = "leaf" := ext_tl (by rw [h]; decide +kernel)
    subst e
    exact ⟨_, hj, p, .str "seal", rfl, .inl ⟨_, .inr "leaf", .inl upd_same, rfl, by decide +kernel⟩, q _ _ (Same.put (Same.new (Same.refl H) hp) hp) (.inr (by decide +kernel))⟩
  · have e : k = "seal" := ext_tl (by rw [h]; decide +kernel)
    subst e
    exact ⟨_, hj, p, .str "leaf", rfl, .inl ⟨_, .inr "seal", .inl upd_same, rfl, by decide +kernel⟩, q _ _ (Same.put (Same.new (Same.refl H) hp) hp) (.inl (by decide +kernel))⟩
theorem ok_near (D : DefAt K mg "_law_near" sNear) (GL : Glb K w mg) (F__law_pick : FnAt P w K mg base CX0 "_law_pick" ["_law_pot_here", "_law_some"] [] 3 spPick) (F__law_turned : FnAt P w K mg base CX0 "_law_turned" ["_law_pot_here", "_law_pieces"] [] 3 spTurned) :
    FnAt P w K mg base CX0 "_law_near" ["_law_pot_here", "_law_content_here"] [] 4 (spNear K) := by
  refine D.ok scNear (fun _ _ _ _ _ _ us hl => match us, hl with | [_, _], _ => rfl) (fun vs H Q E h => ?_) (fun f cdv A outer s H vs Q E hr h => ?_)
  · obtain ⟨a, l, p, m, n, c, rfl, _⟩ := h
    rfl
  · obtain ⟨a, l, p, m, n, c, rfl, hc, wf, sz, hn, hm, pot, k⟩ := h
    refine ⟨_, (pss_cons (ps_asg (pv 1) (pg_tup rfl (pgs_cons (pg_name (i := 2) scNear.nd rfl (Or.inl rfl)) (pgs_cons (pg_name (i := 3) scNear.nd rfl (Or.inl rfl)) (pgs_cons (pg_name (i := 4) scNear.nd rfl (Or.inl rfl)) (pgs_cons (pg_name (i := 5) scNear.nd rfl (Or.inl rfl)) (pgs_cons (pg_name (i := 6) scNear.nd rfl (Or.inl rfl)) pgs_nil)))))))
      (pss_cons (ps_set (i := 7) scNear.nd rfl (Or.inl rfl) (pe_lst (pa_cons (pe_tup (pa_cons (pv 2) (pa_cons (pe_op op_cat (pe_lst (pa_cons pe_str pa_nil)) (pv 3)) (pa_cons (pv 4) (pa_cons (pv 5) (pa_cons (pv 6) pa_nil)))))) (pa_cons (pe_tup (pa_cons (pv 2) (pa_cons (pv 3) (pa_cons (pv 4) (pa_cons (pe_cf F__law_turned (hr.mono (by decide)) pass0 (pa_cons (pv 0) (pa_cons (pv 5) pa_nil))) (pa_cons (pv 6) pa_nil)))))) pa_nil))))
      (pss_cons (ps_expr (pe_bm PySem.F.plainAttrs_list PySem.F.slot_list_append PySem.F.type_list_append mt_append (pv 7) (pa_cons (pe_tup (pa_cons (pv 2) (pa_cons (pv 3) (pa_cons (pv 4) (pa_cons (pv 5) (pa_cons (pe_cf F__law_turned (hr.mono (by decide)) pass0 (pa_cons (pv 0) (pa_cons (pv 6) pa_nil))) pa_nil)))))) pa_nil)))
      (pss_cons (ps_expr (pe_bm PySem.F.plainAttrs_list PySem.F.slot_list_append PySem.F.type_list_append mt_append (pv 7) (pa_cons (pe_tup (pa_cons (pv 2) (pa_cons (pv 3) (pa_cons (pe_op op_mod (pe_op op_add (pv 4) pe_int) pe_int) (pa_cons (pv 5) (pa_cons (pv 6) pa_nil)))))) pa_nil)))
      (pss_cons (ps_set (i := 7) scNear.nd rfl (Or.inl rfl) (pe_op op_cat (pv 7) (pe_lst (pa_cons (pe_tup (pa_cons (pv 2) (pa_cons (pv 3) (pa_cons (pv 4) (pa_cons (pe_op op_cat (pv 5) (pe_lst (pa_cons (pe_lst (pa_cons pe_str pa_nil)) pa_nil))) (pa_cons (pv 6) pa_nil)))))) (pa_cons (pe_tup (pa_cons (pv 2) (pa_cons (pv 3) (pa_cons (pv 4) (pa_cons (pe_revL (pv 5)) (pa_cons (pv 6) pa_nil)))))) pa_nil)))))
      (pss_cons (ps_set (i := 7) scNear.nd rfl (Or.inl rfl) (pe_op op_cat (pv 7) (pe_lst (pa_cons (pe_tup (pa_cons (pv 2) (pa_cons (pv 3) (pa_cons (pv 4) (pa_cons (pv 5) (pa_cons (pe_op op_cat (pv 6) (pe_slice sl_list (pv 6) po_none (po_some pe_int))) pa_nil)))))) (pa_cons (pe_tup (pa_cons (pv 2) (pa_cons (pv 3) (pa_cons (pv 4) (pa_cons (pv 5) (pa_cons (pe_revL (pv 6)) pa_nil)))))) pa_nil)))))
      (pss_one (ps_ret (pe_cf F__law_pick (hr.mono (by decide)) pass0 (pa_cons (pv 0) (pa_cons (pe_op op_cat (pv 7) (pe_lst (pa_cons (pe_tup (pa_cons (pe_dget (hu_of hr) (pe_disp (pps_cons pe_str pe_str (pps_cons pe_str pe_str pps_nil)) (by rfl) (by rfl) (fun z => by cases z) (by decide)) (pv 2) (fun _ _ => rfl)) (pa_cons (pv 3) (pa_cons (pv 4) (pa_cons (pv 5) (pa_cons (pv 6) pa_nil)))))) pa_nil))) pa_nil))))))))))), ?_⟩
    obtain ⟨kd, hp, pp, ap, hs, pr, ar, ht, hls, hP, hA, hk, hh, rP, oP, rA, s1, s2, s3⟩ := ct_open hc wf sz
    have hg := wf.gate
    refine ⟨_, rfl, p, _, rfl, SqT.of ht, rfl, _, _, rfl, _, _, rfl, _, _, rfl, _, _, rfl, _, _, rfl, rfl, ?_⟩
    -- the host with one word more
    have ta : tl (Str.ofString "a") = [97] := by decide +kernel
    have hh1 : HostOk ("a" :: hs) := ⟨by simp, fun x hx => by
      rcases List.mem_cons.mp hx with e | e
      · rw [e, ta]; exact ⟨by decide, by decide, by decide⟩
      · exact hh.word x e, fun _ => by rw [List.map_cons, List.head?_cons, ta]; decide⟩
    refine ⟨_, rfl, (show 1 ≤ sizeLine by decide), fun q1 hq1 => ⟨_, rfl, q1, hp, [V.str "a"], hs.map V.str, rfl, rfl, upd_same, (hls.new hq1).2.2, by rw [List.length_map, sizeLine_eq]; simp only [List.length_cons, List.length_nil]; omega, fun q2 hq2 => ?_⟩⟩
    have K1 : Kept [a, l] H (upd H q1 (.lst [.str "a"])) := Kept.refl.new hq1
    have p1 := pot.new (o := .lst [.str "a"]) hq1
    generalize upd H q1 (.lst [.str "a"]) = H1 at hq2 K1 p1
    have n2 := p1.ne hq2
    have hls2 : LS a l (upd H1 q2 (.lst ([V.str "a"] ++ hs.map V.str))) q2 ("a" :: hs) := ⟨n2.1, n2.2, upd_same⟩
    have K2 : Kept [a, l] H (upd H1 q2 (.lst ([V.str "a"] ++ hs.map V.str))) := K1.new hq2
    have p2 := p1.new (o := .lst ([V.str "a"] ++ hs.map V.str)) hq2
    generalize upd H1 q2 (.lst ([V.str "a"] ++ hs.map V.str)) = H2 at hls2 K2 p2
    refine ⟨_, rfl, _, rfl, _, rfl, (show 5 ≤ sizeLine by decide), fun t1 ht1 => ?_⟩
    have g1 : GoodC K a l (n + 1) (upd H2 t1 (.tup [.str kd, .ref q2, .int (c.gate : Nat), .ref pp, .ref ap])) (.ref t1) := good_make ht1 p2 hls2 (hP.kept K2) (hA.kept K2) hk hh1 hg rP oP rA (by simp only [List.length_cons]; omega) (by omega) (by omega)
    have f1 : (upd H2 t1 (.tup [.str kd, .ref q2, .int (c.gate : Nat), .ref pp, .ref ap])) t1 = some (.tup [.str kd, .ref q2, .int (c.gate : Nat), .ref pp, .ref ap]) := upd_same
    have K3 : Kept [a, l] H (upd H2 t1 (.tup [.str kd, .ref q2, .int (c.gate : Nat), .ref pp, .ref ap])) := K2.new ht1
    have p3 := p2.new (o := .tup [.str kd, .ref q2, .int (c.gate : Nat), .ref pp, .ref ap]) ht1
    generalize upd H2 t1 (.tup [.str kd, .ref q2, .int (c.gate : Nat), .ref pp, .ref ap]) = H3 at g1 f1 K3 p3 ⊢
    -- the parts turned
    refine ⟨_, rfl, _, rfl, _, rfl, _, rfl, _, rfl, a, l, pp, m, pr, BP, rfl, .inl rfl, hP.kept K3, rP, by omega, by omega, p3, fun pp2 pr2 H4 hP2 rP2 lP2 oP2 K34 p4 => ?_⟩
    have t1n := p3.tup t1 _ f1
    have g1 := g1.kept K34
    have f1 := K34 t1 _ (by simp [t1n.1, t1n.2]) f1
    have K4 : Kept [a, l] H H4 := K3.trans K34
    refine ⟨_, rfl, (show 5 ≤ sizeLine by decide), fun t2 ht2 => ?_⟩
    have g2 : GoodC K a l (n + 1) (upd H4 t2 (.tup [.str kd, .ref hp, .int (c.gate : Nat), .ref pp2, .ref ap])) (.ref t2) := good_make ht2 p4 (hls.kept K4) hP2 (hA.kept K4) hk hh hg rP2 (oP2 oP) rA (by omega) (by omega) (by omega)
    have k5 : Kept [a, l] H4 (upd H4 t2 (.tup [.str kd, .ref hp, .int (c.gate : Nat), .ref pp2, .ref ap])) := Kept.refl.new ht2
    have g1 := g1.kept k5
    have f1 := k5 t1 _ (by simp [t1n.1, t1n.2]) f1
    have K5 : Kept [a, l] H (upd H4 t2 (.tup [.str kd, .ref hp, .int (c.gate : Nat), .ref pp2, .ref ap])) := K4.new ht2
    have p5 := p4.new (o := .tup [.str kd, .ref hp, .int (c.gate : Nat), .ref pp2, .ref ap]) ht2
    generalize upd H4 t2 (.tup [.str kd, .ref hp, .int (c.gate : Nat), .ref pp2, .ref ap]) = H5 at g1 g2 f1 K5 p5 ⊢
    clear k5
    refine ⟨(show 2 ≤ sizeLine by decide), fun S hS => ?_⟩
    have Sn := p5.ne hS
    have SH : H S = none := K5.free hS (by simp [Sn.1, Sn.2])
    have fS : upd H5 S (.lst [.ref t1, .ref t2]) S = some (.lst [.ref t1, .ref t2]) := upd_same
    have k6 : Kept [a, l] H5 (upd H5 S (.lst [.ref t1, .ref t2])) := Kept.refl.new hS
    have f1 := k6 t1 _ (by simp [t1n.1, t1n.2]) f1
    have G6 : ∀ v ∈ ([.ref t1, .ref t2] : List V), GoodC K a l (n + 1) (upd H5 S (.lst [.ref t1, .ref t2])) v := fun v hv => by
      simp only [List.mem_cons, List.not_mem_nil, or_false] at hv
      rcases hv with e | e
      · rw [e]; exact g1.kept k6
      · rw [e]; exact g2.kept k6
    have TS : TupS (upd H5 S (.lst [.ref t1, .ref t2])) S := ⟨t1, _, _, fS, f1⟩
    have K6 : Kept [a, l] H (upd H5 S (.lst [.ref t1, .ref t2])) := K5.new hS
    have p6 := p5.new (o := .lst [.ref t1, .ref t2]) hS
    generalize upd H5 S (.lst [.ref t1, .ref t2]) = H6 at f1 fS G6 TS K6 p6 ⊢
    clear k6
    refine ⟨_, rfl, .inl ⟨rfl, _, SqL.of fS⟩, _, rfl, _, rfl, _, rfl, _, rfl, _, rfl, _, rfl, a, l, ap, m - 2, ar, BA, rfl, .inr rfl, hA.kept K6, rA, by omega, by omega, p6, fun ap2 ar2 H7 hA2 rA2 lA2 oA2 kx p7 => ?_⟩
    have f1 := kx _ _ (by simp [t1n.1, t1n.2]) f1
    have fS := kx _ _ (by simp [Sn.1, Sn.2]) fS
    have G : ∀ v ∈ ([.ref t1, .ref t2] : List V), GoodC K a l (n + 1) H7 v := fun v hv => (G6 v hv).kept kx
    have K7 : Kept [a, l] H H7 := K6.trans kx
    clear kx
    refine ⟨(show 5 ≤ sizeLine by decide), fun t3 ht3 => ?_⟩
    have kx : Kept [a, l] H7 (upd H7 t3 (.tup [.str kd, .ref hp, .int (c.gate : Nat), .ref pp, .ref ap2])) := Kept.refl.new ht3
    have f1 : (upd H7 t3 (.tup [.str kd, .ref hp, .int (c.gate : Nat), .ref pp, .ref ap2])) t1 = some (.tup [.str kd, .ref q2, .int (c.gate : Nat), .ref pp, .ref ap]) := kx _ _ (by simp [t1n.1, t1n.2]) f1
    have fS : (upd H7 t3 (.tup [.str kd, .ref hp, .int (c.gate : Nat), .ref pp, .ref ap2])) S = some (.lst [.ref t1, .ref t2]) := kx _ _ (by simp [Sn.1, Sn.2]) fS
    have G : ∀ v ∈ ([.ref t1, .ref t2] : List V), GoodC K a l (n + 1) (upd H7 t3 (.tup [.str kd, .ref hp, .int (c.gate : Nat), .ref pp, .ref ap2])) v := fun v hv => (G v hv).kept kx
    have ft3 : (upd H7 t3 (.tup [.str kd, .ref hp, .int (c.gate : Nat), .ref pp, .ref ap2])) t3 = some (.tup [.str kd, .ref hp, .int (c.gate : Nat), .ref pp, .ref ap2]) := upd_same
    have nt3 := p7.ne ht3
    have K8 : Kept [a, l] H (upd H7 t3 (.tup [.str kd, .ref hp, .int (c.gate : Nat), .ref pp, .ref ap2])) := K7.new ht3
    have p8 := p7.new (o := (.tup [.str kd, .ref hp, .int (c.gate : Nat), .ref pp, .ref ap2])) ht3
    have gt3 : GoodC K a l (n + 1) (upd H7 t3 (.tup [.str kd, .ref hp, .int (c.gate : Nat), .ref pp, .ref ap2])) (.ref t3) := good_make ht3 p7 (hls.kept K7) (hP.kept K7) hA2 hk hh hg rP oP rA2 (by omega) (by omega) (by omega)
    generalize (upd H7 t3 (.tup [.str kd, .ref hp, .int (c.gate : Nat), .ref pp, .ref ap2])) = H8 at f1 fS G ft3 K8 p8 gt3 ⊢
    clear kx
    refine ⟨S, _, _, rfl, rfl, fS, (show 2 < sizeLine by decide), ?_⟩
    have TS : TupS H8 S := ⟨t1, _, _, fS, f1⟩
    have t1S : t1 ≠ S := fun e => by rw [e, fS] at f1; cases f1
    have G : ∀ v ∈ ([.ref t1, .ref t2, .ref t3] : List V), GoodC K a l (n + 1) (upd H8 S (.lst ([.ref t1, .ref t2] ++ [V.ref t3]))) v := fun v hv => by
      rcases List.mem_append.mp (show v ∈ ([.ref t1, .ref t2] : List V) ++ [V.ref t3] from hv) with z | z
      · exact (G v z).putS TS
      · rw [List.mem_singleton.mp z]; exact gt3.putS TS
    have f1 : (upd H8 S (.lst ([.ref t1, .ref t2] ++ [V.ref t3]))) t1 = some (.tup [.str kd, .ref q2, .int (c.gate : Nat), .ref pp, .ref ap]) := by rw [upd_ne t1S]; exact f1
    have fS : (upd H8 S (.lst ([.ref t1, .ref t2] ++ [V.ref t3]))) S = some (.lst [.ref t1, .ref t2, .ref t3]) := upd_same
    have K9 : Kept [a, l] H (upd H8 S (.lst ([.ref t1, .ref t2] ++ [V.ref t3]))) := K8.put (.inr SH)
    have p9 := p8.put (o := .lst ([.ref t1, .ref t2] ++ [V.ref t3])) Sn.1 Sn.2
    generalize (upd H8 S (.lst ([.ref t1, .ref t2] ++ [V.ref t3]))) = H9 at G f1 fS K9 p9 ⊢
    clear TS t1S gt3
    refine ⟨_, rfl, .inl ⟨rfl, _, SqL.of fS⟩, _, rfl, _, rfl, _, rfl, _, _, rfl, rfl, _, _, rfl, rfl, (by show (0 : Int) < 100000; decide), _, rfl, _, rfl, (show 5 ≤ sizeLine by decide), fun t4 ht4 => ?_⟩
    dsimp only
    have eg : (((c.gate : Nat) : Int) + 1) % 100000 = (((c.gate + 1) % 100000 : Nat) : Int) := by omega
    rw [eg]
    have kx : Kept [a, l] H9 (upd H9 t4 (.tup [.str kd, .ref hp, .int ((c.gate + 1) % 100000 : Nat), .ref pp, .ref ap])) := Kept.refl.new ht4
    have f1 : (upd H9 t4 (.tup [.str kd, .ref hp, .int ((c.gate + 1) % 100000 : Nat), .ref pp, .ref ap])) t1 = some (.tup [.str kd, .ref q2, .int (c.gate : Nat), .ref pp, .ref ap]) := kx _ _ (by simp [t1n.1, t1n.2]) f1
    have fS : (upd H9 t4 (.tup [.str kd, .ref hp, .int ((c.gate + 1) % 100000 : Nat), .ref pp, .ref ap])) S = some (.lst [.ref t1, .ref t2, .ref t3]) := kx _ _ (by simp [Sn.1, Sn.2]) fS
    have G : ∀ v ∈ ([.ref t1, .ref t2, .ref t3] : List V), GoodC K a l (n + 1) (upd H9 t4 (.tup [.str kd, .ref hp, .int ((c.gate + 1) % 100000 : Nat), .ref pp, .ref ap])) v := fun v hv => (G v hv).kept kx
    have ft4 : (upd H9 t4 (.tup [.str kd, .ref hp, .int ((c.gate + 1) % 100000 : Nat), .ref pp, .ref ap])) t4 = some (.tup [.str kd, .ref hp, .int ((c.gate + 1) % 100000 : Nat), .ref pp, .ref ap]) := upd_same
    have nt4 := p9.ne ht4
    have K10 : Kept [a, l] H (upd H9 t4 (.tup [.str kd, .ref hp, .int ((c.gate + 1) % 100000 : Nat), .ref pp, .ref ap])) := K9.new ht4
    have p10 := p9.new (o := (.tup [.str kd, .ref hp, .int ((c.gate + 1) % 100000 : Nat), .ref pp, .ref ap])) ht4
    have gt4 : GoodC K a l (n + 1) (upd H9 t4 (.tup [.str kd, .ref hp, .int ((c.gate + 1) % 100000 : Nat), .ref pp, .ref ap])) (.ref t4) := good_make ht4 p9 (hls.kept K9) (hP.kept K9) (hA.kept K9) hk hh (Nat.mod_lt _ (by decide)) rP oP rA (by omega) (by omega) (by omega)
    generalize (upd H9 t4 (.tup [.str kd, .ref hp, .int ((c.gate + 1) % 100000 : Nat), .ref pp, .ref ap])) = H10 at f1 fS G ft4 K10 p10 gt4 ⊢
    clear kx
    refine ⟨S, _, _, rfl, rfl, fS, (show 3 < sizeLine by decide), ?_⟩
    have TS : TupS H10 S := ⟨t1, _, _, fS, f1⟩
    have t1S : t1 ≠ S := fun e => by rw [e, fS] at f1; cases f1
    have G : ∀ v ∈ ([.ref t1, .ref t2, .ref t3, .ref t4] : List V), GoodC K a l (n + 1) (upd H10 S (.lst ([.ref t1, .ref t2, .ref t3] ++ [V.ref t4]))) v := fun v hv => by
      rcases List.mem_append.mp (show v ∈ ([.ref t1, .ref t2, .ref t3] : List V) ++ [V.ref t4] from hv) with z | z
      · exact (G v z).putS TS
      · rw [List.mem_singleton.mp z]; exact gt4.putS TS
    have f1 : (upd H10 S (.lst ([.ref t1, .ref t2, .ref t3] ++ [V.ref t4]))) t1 = some (.tup [.str kd, .ref q2, .int (c.gate : Nat), .ref pp, .ref ap]) := by rw [upd_ne t1S]; exact f1
    have fS : (upd H10 S (.lst ([.ref t1, .ref t2, .ref t3] ++ [V.ref t4]))) S = some (.lst [.ref t1, .ref t2, .ref t3, .ref t4]) := upd_same
    have K11 : Kept [a, l] H (upd H10 S (.lst ([.ref t1, .ref t2, .ref t3] ++ [V.ref t4]))) := K10.put (.inr SH)
    have p11 := p10.put (o := .lst ([.ref t1, .ref t2, .ref t3] ++ [V.ref t4])) Sn.1 Sn.2
    generalize (upd H10 S (.lst ([.ref t1, .ref t2, .ref t3] ++ [V.ref t4]))) = H11 at G f1 fS K11 p11 ⊢
    clear TS t1S gt4
    have tb : tl (Str.ofString "b") = [98] := by decide +kernel
    refine ⟨_, rfl, _, rfl, _, rfl, _, rfl, _, rfl, (show 1 ≤ sizeLine by decide), fun qb hqb => ?_⟩
    have kx : Kept [a, l] H11 (upd H11 qb (.lst [.str "b"])) := Kept.refl.new hqb
    have f1 : (upd H11 qb (.lst [.str "b"])) t1 = some (.tup [.str kd, .ref q2, .int (c.gate : Nat), .ref pp, .ref ap]) := kx _ _ (by simp [t1n.1, t1n.2]) f1
    have fS : (upd H11 qb (.lst [.str "b"])) S = some (.lst [.ref t1, .ref t2, .ref t3, .ref t4]) := kx _ _ (by simp [Sn.1, Sn.2]) fS
    have G : ∀ v ∈ ([.ref t1, .ref t2, .ref t3, .ref t4] : List V), GoodC K a l (n + 1) (upd H11 qb (.lst [.str "b"])) v := fun v hv => (G v hv).kept kx
    have fqb : (upd H11 qb (.lst [.str "b"])) qb = some (.lst [.str "b"]) := upd_same
    have nqb := p11.ne hqb
    have K12 : Kept [a, l] H (upd H11 qb (.lst [.str "b"])) := K11.new hqb
    have p12 := p11.new (o := (.lst [.str "b"])) hqb
    generalize (upd H11 qb (.lst [.str "b"])) = H12 at f1 fS G fqb K12 p12 ⊢
    clear kx
    have hb : LS a l H12 qb ["b"] := ⟨nqb.1, nqb.2, fqb⟩
    refine ⟨(show 1 ≤ sizeLine by decide), fun qo hqo => ?_⟩
    have kx : Kept [a, l] H12 (upd H12 qo (.lst [.ref qb])) := Kept.refl.new hqo
    have f1 : (upd H12 qo (.lst [.ref qb])) t1 = some (.tup [.str kd, .ref q2, .int (c.gate : Nat), .ref pp, .ref ap]) := kx _ _ (by simp [t1n.1, t1n.2]) f1
    have fS : (upd H12 qo (.lst [.ref qb])) S = some (.lst [.ref t1, .ref t2, .ref t3, .ref t4]) := kx _ _ (by simp [Sn.1, Sn.2]) fS
    have G : ∀ v ∈ ([.ref t1, .ref t2, .ref t3, .ref t4] : List V), GoodC K a l (n + 1) (upd H12 qo (.lst [.ref qb])) v := fun v hv => (G v hv).kept kx
    have hb := hb.kept kx
    have fqo : (upd H12 qo (.lst [.ref qb])) qo = some (.lst [.ref qb]) := upd_same
    have nqo := p12.ne hqo
    have K13 : Kept [a, l] H (upd H12 qo (.lst [.ref qb])) := K12.new hqo
    have p13 := p12.new (o := (.lst [.ref qb])) hqo
    generalize (upd H12 qo (.lst [.ref qb])) = H13 at f1 fS G hb fqo K13 p13 ⊢
    clear kx
    refine ⟨pp, qo, _, _, rfl, rfl, (hP.kept K13).at_, fqo, by rw [List.length_map, sizeLine_eq]; simp only [List.length_cons, List.length_nil]; omega, fun pp3 hpp3 => ?_⟩
    have kx : Kept [a, l] H13 (upd H13 pp3 (.lst ((pr.map fun r => V.ref r.1) ++ [V.ref qb]))) := Kept.refl.new hpp3
    have f1 : (upd H13 pp3 (.lst ((pr.map fun r => V.ref r.1) ++ [V.ref qb]))) t1 = some (.tup [.str kd, .ref q2, .int (c.gate : Nat), .ref pp, .ref ap]) := kx _ _ (by simp [t1n.1, t1n.2]) f1
    have fS : (upd H13 pp3 (.lst ((pr.map fun r => V.ref r.1) ++ [V.ref qb]))) S = some (.lst [.ref t1, .ref t2, .ref t3, .ref t4]) := kx _ _ (by simp [Sn.1, Sn.2]) fS
    have G : ∀ v ∈ ([.ref t1, .ref t2, .ref t3, .ref t4] : List V), GoodC K a l (n + 1) (upd H13 pp3 (.lst ((pr.map fun r => V.ref r.1) ++ [V.ref qb]))) v := fun v hv => (G v hv).kept kx
    have hb := hb.kept kx
    have fqo : (upd H13 pp3 (.lst ((pr.map fun r => V.ref r.1) ++ [V.ref qb]))) qo = some (.lst [.ref qb]) := kx _ _ (by simp [nqo.1, nqo.2]) fqo
    have fpp3 : (upd H13 pp3 (.lst ((pr.map fun r => V.ref r.1) ++ [V.ref qb]))) pp3 = some (.lst ((pr.map fun r => V.ref r.1) ++ [V.ref qb])) := upd_same
    have npp3 := p13.ne hpp3
    have K14 : Kept [a, l] H (upd H13 pp3 (.lst ((pr.map fun r => V.ref r.1) ++ [V.ref qb]))) := K13.new hpp3
    have p14 := p13.new (o := (.lst ((pr.map fun r => V.ref r.1) ++ [V.ref qb]))) hpp3
    generalize (upd H13 pp3 (.lst ((pr.map fun r => V.ref r.1) ++ [V.ref qb]))) = H14 at f1 fS G hb fqo fpp3 K14 p14 ⊢
    clear kx
    have hP3 : LL a l H14 pp3 (pr ++ [(qb, [Str.ofString "b"])]) := ⟨npp3.1, npp3.2, by rw [fpp3, List.map_append]; rfl, fun r hr => (List.mem_append.mp hr).elim (fun z => (hP.kept K14).each r z) (fun z => by rw [List.mem_singleton.mp z]; exact hb)⟩
    have aB : Atm BP (tl (Str.ofString "b")) := by rw [tb]; exact .inl ⟨98, rfl, by decide, by decide, by decide⟩
    have rP3 : RowsOk BP (pr ++ [(qb, [Str.ofString "b"])]) := fun r hr => (List.mem_append.mp hr).elim (fun z => rP r z) (fun z => by rw [List.mem_singleton.mp z]; exact ⟨⟨by simp, fun x hx => by rw [List.mem_singleton.mp (show x ∈ [tl (Str.ofString "b")] from hx)]; exact aB⟩, (by decide : 1 ≤ 9)⟩)
    have oP3 : ∀ q ∈ flatR (pr ++ [(qb, [Str.ofString "b"])]), okPart q := fun q hq => by
      obtain ⟨r, hr, rfl⟩ := List.mem_map.mp hq
      rcases List.mem_append.mp hr with z | z
      · exact oP _ (List.mem_map.mpr ⟨r, z, rfl⟩)
      · rw [List.mem_singleton.mp z]
        show okPart ([tl (Str.ofString "b")].flatten)
        rw [tb]
        exact ⟨by decide, by decide, by decide⟩
    have lP3 : (pr ++ [(qb, [Str.ofString "b"])]).length ≤ 6 + (n + 1) := by rw [List.length_append]; simp only [List.length_cons, List.length_nil]; omega
    refine ⟨_, rfl, (show 5 ≤ sizeLine by decide), fun t5 ht5 => ?_⟩
    have kx : Kept [a, l] H14 (upd H14 t5 (.tup [.str kd, .ref hp, .int (c.gate : Nat), .ref pp3, .ref ap])) := Kept.refl.new ht5
    have f1 : (upd H14 t5 (.tup [.str kd, .ref hp, .int (c.gate : Nat), .ref pp3, .ref ap])) t1 = some (.tup [.str kd, .ref q2, .int (c.gate : Nat), .ref pp, .ref ap]) := kx _ _ (by simp [t1n.1, t1n.2]) f1
    have fS : (upd H14 t5 (.tup [.str kd, .ref hp, .int (c.gate : Nat), .ref pp3, .ref ap])) S = some (.lst [.ref t1, .ref t2, .ref t3, .ref t4]) := kx _ _ (by simp [Sn.1, Sn.2]) fS
    have G : ∀ v ∈ ([.ref t1, .ref t2, .ref t3, .ref t4] : List V), GoodC K a l (n + 1) (upd H14 t5 (.tup [.str kd, .ref hp, .int (c.gate : Nat), .ref pp3, .ref ap])) v := fun v hv => (G v hv).kept kx
    have hb := hb.kept kx
    have fqo : (upd H14 t5 (.tup [.str kd, .ref hp, .int (c.gate : Nat), .ref pp3, .ref ap])) qo = some (.lst [.ref qb]) := kx _ _ (by simp [nqo.1, nqo.2]) fqo
    have ft5 : (upd H14 t5 (.tup [.str kd, .ref hp, .int (c.gate : Nat), .ref pp3, .ref ap])) t5 = some (.tup [.str kd, .ref hp, .int (c.gate : Nat), .ref pp3, .ref ap]) := upd_same
    have nt5 := p14.ne ht5
    have K15 : Kept [a, l] H (upd H14 t5 (.tup [.str kd, .ref hp, .int (c.gate : Nat), .ref pp3, .ref ap])) := K14.new ht5
    have p15 := p14.new (o := (.tup [.str kd, .ref hp, .int (c.gate : Nat), .ref pp3, .ref ap])) ht5
    have gt5 : GoodC K a l (n + 1) (upd H14 t5 (.tup [.str kd, .ref hp, .int (c.gate : Nat), .ref pp3, .ref ap])) (.ref t5) := good_make ht5 p14 (hls.kept K14) hP3 (hA.kept K14) hk hh hg rP3 oP3 rA (by omega) lP3 (by omega)
    generalize (upd H14 t5 (.tup [.str kd, .ref hp, .int (c.gate : Nat), .ref pp3, .ref ap])) = H15 at f1 fS G hb fqo ft5 K15 p15 gt5 ⊢
    clear kx
    refine ⟨_, rfl, _, rfl, _, rfl, _, rfl, pp, _, rfl, SqL.of (hP.kept K15).at_, fun pp4 hpp4 => ?_⟩
    have kx : Kept [a, l] H15 (upd H15 pp4 (.lst ((pr.map fun r => V.ref r.1).reverse))) := Kept.refl.new hpp4
    have f1 : (upd H15 pp4 (.lst ((pr.map fun r => V.ref r.1).reverse))) t1 = some (.tup [.str kd, .ref q2, .int (c.gate : Nat), .ref pp, .ref ap]) := kx _ _ (by simp [t1n.1, t1n.2]) f1
    have fS : (upd H15 pp4 (.lst ((pr.map fun r => V.ref r.1).reverse))) S = some (.lst [.ref t1, .ref t2, .ref t3, .ref t4]) := kx _ _ (by simp [Sn.1, Sn.2]) fS
    have G : ∀ v ∈ ([.ref t1, .ref t2, .ref t3, .ref t4] : List V), GoodC K a l (n + 1) (upd H15 pp4 (.lst ((pr.map fun r => V.ref r.1).reverse))) v := fun v hv => (G v hv).kept kx
    have hb := hb.kept kx
    have fqo : (upd H15 pp4 (.lst ((pr.map fun r => V.ref r.1).reverse))) qo = some (.lst [.ref qb]) := kx _ _ (by simp [nqo.1, nqo.2]) fqo
    have gt5 := gt5.kept kx
    have fpp4 : (upd H15 pp4 (.lst ((pr.map fun r => V.ref r.1).reverse))) pp4 = some (.lst ((pr.map fun r => V.ref r.1).reverse)) := upd_same
    have npp4 := p15.ne hpp4
    have K16 : Kept [a, l] H (upd H15 pp4 (.lst ((pr.map fun r => V.ref r.1).reverse))) := K15.new hpp4
    have p16 := p15.new (o := (.lst ((pr.map fun r => V.ref r.1).reverse))) hpp4
    generalize (upd H15 pp4 (.lst ((pr.map fun r => V.ref r.1).reverse))) = H16 at f1 fS G hb fqo gt5 fpp4 K16 p16 ⊢
    clear kx
    have hP4 : LL a l H16 pp4 pr.reverse := ⟨npp4.1, npp4.2, by rw [fpp4, List.map_reverse], fun r hr => (hP.kept K16).each r (List.mem_reverse.mp hr)⟩
    have rP4 : RowsOk BP pr.reverse := fun r hr => rP r (List.mem_reverse.mp hr)
    have oP4 : ∀ q ∈ flatR pr.reverse, okPart q := fun q hq => by
      obtain ⟨r, hr, rfl⟩ := List.mem_map.mp hq
      exact oP _ (List.mem_map.mpr ⟨r, List.mem_reverse.mp hr, rfl⟩)
    refine ⟨_, rfl, (show 5 ≤ sizeLine by decide), fun t6 ht6 => ?_⟩
    have kx : Kept [a, l] H16 (upd H16 t6 (.tup [.str kd, .ref hp, .int (c.gate : Nat), .ref pp4, .ref ap])) := Kept.refl.new ht6
    have f1 : (upd H16 t6 (.tup [.str kd, .ref hp, .int (c.gate : Nat), .ref pp4, .ref ap])) t1 = some (.tup [.str kd, .ref q2, .int (c.gate : Nat), .ref pp, .ref ap]) := kx _ _ (by simp [t1n.1, t1n.2]) f1
    have fS : (upd H16 t6 (.tup [.str kd, .ref hp, .int (c.gate : Nat), .ref pp4, .ref ap])) S = some (.lst [.ref t1, .ref t2, .ref t3, .ref t4]) := kx _ _ (by simp [Sn.1, Sn.2]) fS
    have G : ∀ v ∈ ([.ref t1, .ref t2, .ref t3, .ref t4] : List V), GoodC K a l (n + 1) (upd H16 t6 (.tup [.str kd, .ref hp, .int (c.gate : Nat), .ref pp4, .ref ap])) v := fun v hv => (G v hv).kept kx
    have hb := hb.kept kx
    have fqo : (upd H16 t6 (.tup [.str kd, .ref hp, .int (c.gate : Nat), .ref pp4, .ref ap])) qo = some (.lst [.ref qb]) := kx _ _ (by simp [nqo.1, nqo.2]) fqo
    have gt5 := gt5.kept kx
    have ft6 : (upd H16 t6 (.tup [.str kd, .ref hp, .int (c.gate : Nat), .ref pp4, .ref ap])) t6 = some (.tup [.str kd, .ref hp, .int (c.gate : Nat), .ref pp4, .ref ap]) := upd_same
    have nt6 := p16.ne ht6
    have K17 : Kept [a, l] H (upd H16 t6 (.tup [.str kd, .ref hp, .int (c.gate : Nat), .ref pp4, .ref ap])) := K16.new ht6
    have p17 := p16.new (o := (.tup [.str kd, .ref hp, .int (c.gate : Nat), .ref pp4, .ref ap])) ht6
    have gt6 : GoodC K a l (n + 1) (upd H16 t6 (.tup [.str kd, .ref hp, .int (c.gate : Nat), .ref pp4, .ref ap])) (.ref t6) := good_make ht6 p16 (hls.kept K16) hP4 (hA.kept K16) hk hh hg rP4 oP4 rA (by omega) (by rw [List.length_reverse]; omega) (by omega)
    generalize (upd H16 t6 (.tup [.str kd, .ref hp, .int (c.gate : Nat), .ref pp4, .ref ap])) = H17 at f1 fS G hb fqo gt5 ft6 K17 p17 gt6 ⊢
    clear kx
    refine ⟨(show 2 ≤ sizeLine by decide), fun qq hqq => ?_⟩
    have kx : Kept [a, l] H17 (upd H17 qq (.lst [.ref t5, .ref t6])) := Kept.refl.new hqq
    have f1 : (upd H17 qq (.lst [.ref t5, .ref t6])) t1 = some (.tup [.str kd, .ref q2, .int (c.gate : Nat), .ref pp, .ref ap]) := kx _ _ (by simp [t1n.1, t1n.2]) f1
    have fS : (upd H17 qq (.lst [.ref t5, .ref t6])) S = some (.lst [.ref t1, .ref t2, .ref t3, .ref t4]) := kx _ _ (by simp [Sn.1, Sn.2]) fS
    have G : ∀ v ∈ ([.ref t1, .ref t2, .ref t3, .ref t4] : List V), GoodC K a l (n + 1) (upd H17 qq (.lst [.ref t5, .ref t6])) v := fun v hv => (G v hv).kept kx
    have hb := hb.kept kx
    have fqo : (upd H17 qq (.lst [.ref t5, .ref t6])) qo = some (.lst [.ref qb]) := kx _ _ (by simp [nqo.1, nqo.2]) fqo
    have gt5 := gt5.kept kx
    have gt6 := gt6.kept kx
    have fqq : (upd H17 qq (.lst [.ref t5, .ref t6])) qq = some (.lst [.ref t5, .ref t6]) := upd_same
    have nqq := p17.ne hqq
    have K18 : Kept [a, l] H (upd H17 qq (.lst [.ref t5, .ref t6])) := K17.new hqq
    have p18 := p17.new (o := (.lst [.ref t5, .ref t6])) hqq
    generalize (upd H17 qq (.lst [.ref t5, .ref t6])) = H18 at f1 fS G hb fqo gt5 gt6 fqq K18 p18 ⊢
    clear kx
    refine ⟨S, qq, _, _, rfl, rfl, fS, fqq, (show 6 ≤ sizeLine by decide), fun S2 hS2 => ?_⟩
    have kx : Kept [a, l] H18 (upd H18 S2 (.lst ([.ref t1, .ref t2, .ref t3, .ref t4] ++ [V.ref t5, V.ref t6]))) := Kept.refl.new hS2
    have G : ∀ v ∈ ([.ref t1, .ref t2, .ref t3, .ref t4, .ref t5, .ref t6] : List V), GoodC K a l (n + 1) (upd H18 S2 (.lst ([.ref t1, .ref t2, .ref t3, .ref t4] ++ [V.ref t5, V.ref t6]))) v := fun v hv => by
      rcases List.mem_append.mp (show v ∈ ([.ref t1, .ref t2, .ref t3, .ref t4] : List V) ++ [V.ref t5, V.ref t6] from hv) with z | z
      · exact (G v z).kept kx
      · simp only [List.mem_cons, List.not_mem_nil, or_false] at z
        rcases z with z | z
        · rw [z]; exact gt5.kept kx
        · rw [z]; exact gt6.kept kx
    have f1 : (upd H18 S2 (.lst ([.ref t1, .ref t2, .ref t3, .ref t4] ++ [V.ref t5, V.ref t6]))) t1 = some (.tup [.str kd, .ref q2, .int (c.gate : Nat), .ref pp, .ref ap]) := kx _ _ (by simp [t1n.1, t1n.2]) f1
    have fS : (upd H18 S2 (.lst ([.ref t1, .ref t2, .ref t3, .ref t4] ++ [V.ref t5, V.ref t6]))) S2 = some (.lst [.ref t1, .ref t2, .ref t3, .ref t4, .ref t5, .ref t6]) := upd_same
    have Sn := p18.ne hS2
    have SH : H S2 = none := K18.free hS2 (by simp [Sn.1, Sn.2])
    have K19 : Kept [a, l] H (upd H18 S2 (.lst ([.ref t1, .ref t2, .ref t3, .ref t4] ++ [V.ref t5, V.ref t6]))) := K18.new hS2
    have p19 := p18.new (o := .lst ([.ref t1, .ref t2, .ref t3, .ref t4] ++ [V.ref t5, V.ref t6])) hS2
    generalize (upd H18 S2 (.lst ([.ref t1, .ref t2, .ref t3, .ref t4] ++ [V.ref t5, V.ref t6]))) = H19 at G f1 fS K19 p19 ⊢
    clear kx
    refine ⟨_, rfl, _, rfl, _, rfl, _, rfl, _, rfl, _, rfl, _, rfl, _, rfl, ap, _, rfl, SqL.of (hA.kept K19).at_, fun qs hqs => ?_⟩
    have acut : cutV (ar.map fun r => V.ref r.1) none (some 1) = (ar.take 1).map fun r => V.ref r.1 := by
      have h := cutV_to (ar.map fun r => V.ref r.1) 1
      rw [← List.map_take] at h
      exact h
    rw [acut]
    have kx : Kept [a, l] H19 (upd H19 qs (.lst ((ar.take 1).map fun r => V.ref r.1))) := Kept.refl.new hqs
    have f1 : (upd H19 qs (.lst ((ar.take 1).map fun r => V.ref r.1))) t1 = some (.tup [.str kd, .ref q2, .int (c.gate : Nat), .ref pp, .ref ap]) := kx _ _ (by simp [t1n.1, t1n.2]) f1
    have fS : (upd H19 qs (.lst ((ar.take 1).map fun r => V.ref r.1))) S2 = some (.lst [.ref t1, .ref t2, .ref t3, .ref t4, .ref t5, .ref t6]) := kx _ _ (by simp [Sn.1, Sn.2]) fS
    have G : ∀ v ∈ ([.ref t1, .ref t2, .ref t3, .ref t4, .ref t5, .ref t6] : List V), GoodC K a l (n + 1) (upd H19 qs (.lst ((ar.take 1).map fun r => V.ref r.1))) v := fun v hv => (G v hv).kept kx
    have fqs : (upd H19 qs (.lst ((ar.take 1).map fun r => V.ref r.1))) qs = some (.lst ((ar.take 1).map fun r => V.ref r.1)) := upd_same
    have nqs := p19.ne hqs
    have K20 : Kept [a, l] H (upd H19 qs (.lst ((ar.take 1).map fun r => V.ref r.1))) := K19.new hqs
    have p20 := p19.new (o := (.lst ((ar.take 1).map fun r => V.ref r.1))) hqs
    generalize (upd H19 qs (.lst ((ar.take 1).map fun r => V.ref r.1))) = H20 at f1 fS G fqs K20 p20 ⊢
    clear kx
    refine ⟨ap, qs, _, _, rfl, rfl, (hA.kept K20).at_, fqs, by rw [List.length_map, List.length_map, List.length_take, sizeLine_eq]; omega, fun ap3 hap3 => ?_⟩
    have kx : Kept [a, l] H20 (upd H20 ap3 (.lst ((ar.map fun r => V.ref r.1) ++ ((ar.take 1).map fun r => V.ref r.1)))) := Kept.refl.new hap3
    have f1 : (upd H20 ap3 (.lst ((ar.map fun r => V.ref r.1) ++ ((ar.take 1).map fun r => V.ref r.1)))) t1 = some (.tup [.str kd, .ref q2, .int (c.gate : Nat), .ref pp, .ref ap]) := kx _ _ (by simp [t1n.1, t1n.2]) f1
    have fS : (upd H20 ap3 (.lst ((ar.map fun r => V.ref r.1) ++ ((ar.take 1).map fun r => V.ref r.1)))) S2 = some (.lst [.ref t1, .ref t2, .ref t3, .ref t4, .ref t5, .ref t6]) := kx _ _ (by simp [Sn.1, Sn.2]) fS
    have G : ∀ v ∈ ([.ref t1, .ref t2, .ref t3, .ref t4, .ref t5, .ref t6] : List V), GoodC K a l (n + 1) (upd H20 ap3 (.lst ((ar.map fun r => V.ref r.1) ++ ((ar.take 1).map fun r => V.ref r.1)))) v := fun v hv => (G v hv).kept kx
    have fqs : (upd H20 ap3 (.lst ((ar.map fun r => V.ref r.1) ++ ((ar.take 1).map fun r => V.ref r.1)))) qs = some (.lst ((ar.take 1).map fun r => V.ref r.1)) := kx _ _ (by simp [nqs.1, nqs.2]) fqs
    have fap3 : (upd H20 ap3 (.lst ((ar.map fun r => V.ref r.1) ++ ((ar.take 1).map fun r => V.ref r.1)))) ap3 = some (.lst ((ar.map fun r => V.ref r.1) ++ ((ar.take 1).map fun r => V.ref r.1))) := upd_same
    have nap3 := p20.ne hap3
    have K21 : Kept [a, l] H (upd H20 ap3 (.lst ((ar.map fun r => V.ref r.1) ++ ((ar.take 1).map fun r => V.ref r.1)))) := K20.new hap3
    have p21 := p20.new (o := (.lst ((ar.map fun r => V.ref r.1) ++ ((ar.take 1).map fun r => V.ref r.1)))) hap3
    generalize (upd H20 ap3 (.lst ((ar.map fun r => V.ref r.1) ++ ((ar.take 1).map fun r => V.ref r.1)))) = H21 at f1 fS G fqs fap3 K21 p21 ⊢
    clear kx
    have hA3 : LL a l H21 ap3 (ar ++ ar.take 1) := ⟨nap3.1, nap3.2, by rw [fap3, List.map_append], fun r hr => (List.mem_append.mp hr).elim (fun z => (hA.kept K21).each r z) (fun z => (hA.kept K21).each r (List.mem_of_mem_take z))⟩
    have rA3 : RowsOk BA (ar ++ ar.take 1) := fun r hr => (List.mem_append.mp hr).elim (fun z => rA r z) (fun z => rA r (List.mem_of_mem_take z))
    have lA3 : (ar ++ ar.take 1).length ≤ 6 + (n + 1) := by rw [List.length_append, List.length_take]; omega
    refine ⟨(show 5 ≤ sizeLine by decide), fun t7 ht7 => ?_⟩
    have kx : Kept [a, l] H21 (upd H21 t7 (.tup [.str kd, .ref hp, .int (c.gate : Nat), .ref pp, .ref ap3])) := Kept.refl.new ht7
    have f1 : (upd H21 t7 (.tup [.str kd, .ref hp, .int (c.gate : Nat), .ref pp, .ref ap3])) t1 = some (.tup [.str kd, .ref q2, .int (c.gate : Nat), .ref pp, .ref ap]) := kx _ _ (by simp [t1n.1, t1n.2]) f1
    have fS : (upd H21 t7 (.tup [.str kd, .ref hp, .int (c.gate : Nat), .ref pp, .ref ap3])) S2 = some (.lst [.ref t1, .ref t2, .ref t3, .ref t4, .ref t5, .ref t6]) := kx _ _ (by simp [Sn.1, Sn.2]) fS
    have G : ∀ v ∈ ([.ref t1, .ref t2, .ref t3, .ref t4, .ref t5, .ref t6] : List V), GoodC K a l (n + 1) (upd H21 t7 (.tup [.str kd, .ref hp, .int (c.gate : Nat), .ref pp, .ref ap3])) v := fun v hv => (G v hv).kept kx
    have fqs : (upd H21 t7 (.tup [.str kd, .ref hp, .int (c.gate : Nat), .ref pp, .ref ap3])) qs = some (.lst ((ar.take 1).map fun r => V.ref r.1)) := kx _ _ (by simp [nqs.1, nqs.2]) fqs
    have ft7 : (upd H21 t7 (.tup [.str kd, .ref hp, .int (c.gate : Nat), .ref pp, .ref ap3])) t7 = some (.tup [.str kd, .ref hp, .int (c.gate : Nat), .ref pp, .ref ap3]) := upd_same
    have nt7 := p21.ne ht7
    have K22 : Kept [a, l] H (upd H21 t7 (.tup [.str kd, .ref hp, .int (c.gate : Nat), .ref pp, .ref ap3])) := K21.new ht7
    have p22 := p21.new (o := (.tup [.str kd, .ref hp, .int (c.gate : Nat), .ref pp, .ref ap3])) ht7
    have gt7 : GoodC K a l (n + 1) (upd H21 t7 (.tup [.str kd, .ref hp, .int (c.gate : Nat), .ref pp, .ref ap3])) (.ref t7) := good_make ht7 p21 (hls.kept K21) (hP.kept K21) hA3 hk hh hg rP oP rA3 (by omega) (by omega) lA3
    generalize (upd H21 t7 (.tup [.str kd, .ref hp, .int (c.gate : Nat), .ref pp, .ref ap3])) = H22 at f1 fS G fqs ft7 K22 p22 gt7 ⊢
    clear kx
    refine ⟨_, rfl, _, rfl, _, rfl, _, rfl, _, rfl, ap, _, rfl, SqL.of (hA.kept K22).at_, fun ap4 hap4 => ?_⟩
    have kx : Kept [a, l] H22 (upd H22 ap4 (.lst ((ar.map fun r => V.ref r.1).reverse))) := Kept.refl.new hap4
    have f1 : (upd H22 ap4 (.lst ((ar.map fun r => V.ref r.1).reverse))) t1 = some (.tup [.str kd, .ref q2, .int (c.gate : Nat), .ref pp, .ref ap]) := kx _ _ (by simp [t1n.1, t1n.2]) f1
    have fS : (upd H22 ap4 (.lst ((ar.map fun r => V.ref r.1).reverse))) S2 = some (.lst [.ref t1, .ref t2, .ref t3, .ref t4, .ref t5, .ref t6]) := kx _ _ (by simp [Sn.1, Sn.2]) fS
    have G : ∀ v ∈ ([.ref t1, .ref t2, .ref t3, .ref t4, .ref t5, .ref t6] : List V), GoodC K a l (n + 1) (upd H22 ap4 (.lst ((ar.map fun r => V.ref r.1).reverse))) v := fun v hv => (G v hv).kept kx
    have fqs : (upd H22 ap4 (.lst ((ar.map fun r => V.ref r.1).reverse))) qs = some (.lst ((ar.take 1).map fun r => V.ref r.1)) := kx _ _ (by simp [nqs.1, nqs.2]) fqs
    have gt7 := gt7.kept kx
    have fap4 : (upd H22 ap4 (.lst ((ar.map fun r => V.ref r.1).reverse))) ap4 = some (.lst ((ar.map fun r => V.ref r.1).reverse)) := upd_same
    have nap4 := p22.ne hap4
    have K23 : Kept [a, l] H (upd H22 ap4 (.lst ((ar.map fun r => V.ref r.1).reverse))) := K22.new hap4
    have p23 := p22.new (o := (.lst ((ar.map fun r => V.ref r.1).reverse))) hap4
    generalize (upd H22 ap4 (.lst ((ar.map fun r => V.ref r.1).reverse))) = H23 at f1 fS G fqs gt7 fap4 K23 p23 ⊢
    clear kx
    have hA4 : LL a l H23 ap4 ar.reverse := ⟨nap4.1, nap4.2, by rw [fap4, List.map_reverse], fun r hr => (hA.kept K23).each r (List.mem_reverse.mp hr)⟩
    have rA4 : RowsOk BA ar.reverse := fun r hr => rA r (List.mem_reverse.mp hr)
    refine ⟨(show 5 ≤ sizeLine by decide), fun t8 ht8 => ?_⟩
    have kx : Kept [a, l] H23 (upd H23 t8 (.tup [.str kd, .ref hp, .int (c.gate : Nat), .ref pp, .ref ap4])) := Kept.refl.new ht8
    have f1 : (upd H23 t8 (.tup [.str kd, .ref hp, .int (c.gate : Nat), .ref pp, .ref ap4])) t1 = some (.tup [.str kd, .ref q2, .int (c.gate : Nat), .ref pp, .ref ap]) := kx _ _ (by simp [t1n.1, t1n.2]) f1
    have fS : (upd H23 t8 (.tup [.str kd, .ref hp, .int (c.gate : Nat), .ref pp, .ref ap4])) S2 = some (.lst [.ref t1, .ref t2, .ref t3, .ref t4, .ref t5, .ref t6]) := kx _ _ (by simp [Sn.1, Sn.2]) fS
    have G : ∀ v ∈ ([.ref t1, .ref t2, .ref t3, .ref t4, .ref t5, .ref t6] : List V), GoodC K a l (n + 1) (upd H23 t8 (.tup [.str kd, .ref hp, .int (c.gate : Nat), .ref pp, .ref ap4])) v := fun v hv => (G v hv).kept kx
    have fqs : (upd H23 t8 (.tup [.str kd, .ref hp, .int (c.gate : Nat), .ref pp, .ref ap4])) qs = some (.lst ((ar.take 1).map fun r => V.ref r.1)) := kx _ _ (by simp [nqs.1, nqs.2]) fqs
    have gt7 := gt7.kept kx
    have ft8 : (upd H23 t8 (.tup [.str kd, .ref hp, .int (c.gate : Nat), .ref pp, .ref ap4])) t8 = some (.tup [.str kd, .ref hp, .int (c.gate : Nat), .ref pp, .ref ap4]) := upd_same
    have nt8 := p23.ne ht8
    have K24 : Kept [a, l] H (upd H23 t8 (.tup [.str kd, .ref hp, .int (c.gate : Nat), .ref pp, .ref ap4])) := K23.new ht8
    have p24 := p23.new (o := (.tup [.str kd, .ref hp, .int (c.gate : Nat), .ref pp, .ref ap4])) ht8
    have gt8 : GoodC K a l (n + 1) (upd H23 t8 (.tup [.str kd, .ref hp, .int (c.gate : Nat), .ref pp, .ref ap4])) (.ref t8) := good_make ht8 p23 (hls.kept K23) (hP.kept K23) hA4 hk hh hg rP oP rA4 (by omega) (by omega) (by rw [List.length_reverse]; omega)
    generalize (upd H23 t8 (.tup [.str kd, .ref hp, .int (c.gate : Nat), .ref pp, .ref ap4])) = H24 at f1 fS G fqs gt7 ft8 K24 p24 gt8 ⊢
    clear kx
    refine ⟨(show 2 ≤ sizeLine by decide), fun qr hqr => ?_⟩
    have kx : Kept [a, l] H24 (upd H24 qr (.lst [.ref t7, .ref t8])) := Kept.refl.new hqr
    have f1 : (upd H24 qr (.lst [.ref t7, .ref t8])) t1 = some (.tup [.str kd, .ref q2, .int (c.gate : Nat), .ref pp, .ref ap]) := kx _ _ (by simp [t1n.1, t1n.2]) f1
    have fS : (upd H24 qr (.lst [.ref t7, .ref t8])) S2 = some (.lst [.ref t1, .ref t2, .ref t3, .ref t4, .ref t5, .ref t6]) := kx _ _ (by simp [Sn.1, Sn.2]) fS
    have G : ∀ v ∈ ([.ref t1, .ref t2, .ref t3, .ref t4, .ref t5, .ref t6] : List V), GoodC K a l (n + 1) (upd H24 qr (.lst [.ref t7, .ref t8])) v := fun v hv => (G v hv).kept kx
    have fqs : (upd H24 qr (.lst [.ref t7, .ref t8])) qs = some (.lst ((ar.take 1).map fun r => V.ref r.1)) := kx _ _ (by simp [nqs.1, nqs.2]) fqs
    have gt7 := gt7.kept kx
    have gt8 := gt8.kept kx
    have fqr : (upd H24 qr (.lst [.ref t7, .ref t8])) qr = some (.lst [.ref t7, .ref t8]) := upd_same
    have nqr := p24.ne hqr
    have K25 : Kept [a, l] H (upd H24 qr (.lst [.ref t7, .ref t8])) := K24.new hqr
    have p25 := p24.new (o := (.lst [.ref t7, .ref t8])) hqr
    generalize (upd H24 qr (.lst [.ref t7, .ref t8])) = H25 at f1 fS G fqs gt7 gt8 fqr K25 p25 ⊢
    clear kx
    refine ⟨S2, qr, _, _, rfl, rfl, fS, fqr, (show 8 ≤ sizeLine by decide), fun S3 hS3 => ?_⟩
    have kx : Kept [a, l] H25 (upd H25 S3 (.lst ([.ref t1, .ref t2, .ref t3, .ref t4, .ref t5, .ref t6] ++ [V.ref t7, V.ref t8]))) := Kept.refl.new hS3
    have G : ∀ v ∈ ([.ref t1, .ref t2, .ref t3, .ref t4, .ref t5, .ref t6, .ref t7, .ref t8] : List V), GoodC K a l (n + 1) (upd H25 S3 (.lst ([.ref t1, .ref t2, .ref t3, .ref t4, .ref t5, .ref t6] ++ [V.ref t7, V.ref t8]))) v := fun v hv => by
      rcases List.mem_append.mp (show v ∈ ([.ref t1, .ref t2, .ref t3, .ref t4, .ref t5, .ref t6] : List V) ++ [V.ref t7, V.ref t8] from hv) with z | z
      · exact (G v z).kept kx
      · simp only [List.mem_cons, List.not_mem_nil, or_false] at z
        rcases z with z | z
        · rw [z]; exact gt7.kept kx
        · rw [z]; exact gt8.kept kx
    have f1 : (upd H25 S3 (.lst ([.ref t1, .ref t2, .ref t3, .ref t4, .ref t5, .ref t6] ++ [V.ref t7, V.ref t8]))) t1 = some (.tup [.str kd, .ref q2, .int (c.gate : Nat), .ref pp, .ref ap]) := kx _ _ (by simp [t1n.1, t1n.2]) f1
    have fS : (upd H25 S3 (.lst ([.ref t1, .ref t2, .ref t3, .ref t4, .ref t5, .ref t6] ++ [V.ref t7, V.ref t8]))) S3 = some (.lst [.ref t1, .ref t2, .ref t3, .ref t4, .ref t5, .ref t6, .ref t7, .ref t8]) := upd_same
    have Sn := p25.ne hS3
    have SH : H S3 = none := K25.free hS3 (by simp [Sn.1, Sn.2])
    have K26 : Kept [a, l] H (upd H25 S3 (.lst ([.ref t1, .ref t2, .ref t3, .ref t4, .ref t5, .ref t6] ++ [V.ref t7, V.ref t8]))) := K25.new hS3
    have p26 := p25.new (o := .lst ([.ref t1, .ref t2, .ref t3, .ref t4, .ref t5, .ref t6] ++ [V.ref t7, V.ref t8])) hS3
    generalize (upd H25 S3 (.lst ([.ref t1, .ref t2, .ref t3, .ref t4, .ref t5, .ref t6] ++ [V.ref t7, V.ref t8]))) = H26 at G f1 fS K26 p26 ⊢
    clear kx
    refine ⟨_, rfl, _, rfl, ?_⟩
    refine rd_swap rfl hk fun kd2 HX sX hk2 => ?_
    have kx : Kept [a, l] H26 HX := Kept.same sX
    have f1 := kx _ _ (by simp [t1n.1, t1n.2]) f1
    have fS := kx _ _ (by simp [Sn.1, Sn.2]) fS
    have G : ∀ v ∈ ([.ref t1, .ref t2, .ref t3, .ref t4, .ref t5, .ref t6, .ref t7, .ref t8] : List V), GoodC K a l (n + 1) HX v := fun v hv => (G v hv).kept kx
    have KX : Kept [a, l] H HX := K26.trans kx
    have pX := p26.same sX
    clear kx
    refine ⟨_, rfl, _, rfl, _, rfl, _, rfl, (show 5 ≤ sizeLine by decide), fun t9 ht9 => ?_⟩
    have kx : Kept [a, l] HX (upd HX t9 (.tup [.str kd2, .ref hp, .int (c.gate : Nat), .ref pp, .ref ap])) := Kept.refl.new ht9
    have f1 : (upd HX t9 (.tup [.str kd2, .ref hp, .int (c.gate : Nat), .ref pp, .ref ap])) t1 = some (.tup [.str kd, .ref q2, .int (c.gate : Nat), .ref pp, .ref ap]) := kx _ _ (by simp [t1n.1, t1n.2]) f1
    have fS : (upd HX t9 (.tup [.str kd2, .ref hp, .int (c.gate : Nat), .ref pp, .ref ap])) S3 = some (.lst [.ref t1, .ref t2, .ref t3, .ref t4, .ref t5, .ref t6, .ref t7, .ref t8]) := kx _ _ (by simp [Sn.1, Sn.2]) fS
    have G : ∀ v ∈ ([.ref t1, .ref t2, .ref t3, .ref t4, .ref t5, .ref t6, .ref t7, .ref t8] : List V), GoodC K a l (n + 1) (upd HX t9 (.tup [.str kd2, .ref hp, .int (c.gate : Nat), .ref pp, .ref ap])) v := fun v hv => (G v hv).kept kx
    have ft9 : (upd HX t9 (.tup [.str kd2, .ref hp, .int (c.gate : Nat), .ref pp, .ref ap])) t9 = some (.tup [.str kd2, .ref hp, .int (c.gate : Nat), .ref pp, .ref ap]) := upd_same
    have nt9 := pX.ne ht9
    have K27 : Kept [a, l] H (upd HX t9 (.tup [.str kd2, .ref hp, .int (c.gate : Nat), .ref pp, .ref ap])) := KX.new ht9
    have p27 := pX.new (o := (.tup [.str kd2, .ref hp, .int (c.gate : Nat), .ref pp, .ref ap])) ht9
    have gt9 : GoodC K a l (n + 1) (upd HX t9 (.tup [.str kd2, .ref hp, .int (c.gate : Nat), .ref pp, .ref ap])) (.ref t9) := good_make ht9 pX (hls.kept KX) (hP.kept KX) (hA.kept KX) hk2 hh hg rP oP rA (by omega) (by omega) (by omega)
    generalize (upd HX t9 (.tup [.str kd2, .ref hp, .int (c.gate : Nat), .ref pp, .ref ap])) = H27 at f1 fS G ft9 K27 p27 gt9 ⊢
    clear kx
    refine ⟨(show 1 ≤ sizeLine by decide), fun qz hqz => ?_⟩
    have kx : Kept [a, l] H27 (upd H27 qz (.lst [.ref t9])) := Kept.refl.new hqz
    have f1 : (upd H27 qz (.lst [.ref t9])) t1 = some (.tup [.str kd, .ref q2, .int (c.gate : Nat), .ref pp, .ref ap]) := kx _ _ (by simp [t1n.1, t1n.2]) f1
    have fS : (upd H27 qz (.lst [.ref t9])) S3 = some (.lst [.ref t1, .ref t2, .ref t3, .ref t4, .ref t5, .ref t6, .ref t7, .ref t8]) := kx _ _ (by simp [Sn.1, Sn.2]) fS
    have G : ∀ v ∈ ([.ref t1, .ref t2, .ref t3, .ref t4, .ref t5, .ref t6, .ref t7, .ref t8] : List V), GoodC K a l (n + 1) (upd H27 qz (.lst [.ref t9])) v := fun v hv => (G v hv).kept kx
    have gt9 := gt9.kept kx
    have fqz : (upd H27 qz (.lst [.ref t9])) qz = some (.lst [.ref t9]) := upd_same
    have nqz := p27.ne hqz
    have K28 : Kept [a, l] H (upd H27 qz (.lst [.ref t9])) := K27.new hqz
    have p28 := p27.new (o := (.lst [.ref t9])) hqz
    generalize (upd H27 qz (.lst [.ref t9])) = H28 at f1 fS G gt9 fqz K28 p28 ⊢
    clear kx
    refine ⟨S3, qz, _, _, rfl, rfl, fS, fqz, (show 9 ≤ sizeLine by decide), fun S4 hS4 => ?_⟩
    have kx : Kept [a, l] H28 (upd H28 S4 (.lst ([.ref t1, .ref t2, .ref t3, .ref t4, .ref t5, .ref t6, .ref t7, .ref t8] ++ [V.ref t9]))) := Kept.refl.new hS4
    have G : ∀ v ∈ ([.ref t1, .ref t2, .ref t3, .ref t4, .ref t5, .ref t6, .ref t7, .ref t8, .ref t9] : List V), GoodC K a l (n + 1) (upd H28 S4 (.lst ([.ref t1, .ref t2, .ref t3, .ref t4, .ref t5, .ref t6, .ref t7, .ref t8] ++ [V.ref t9]))) v := fun v hv => by
      rcases List.mem_append.mp (show v ∈ ([.ref t1, .ref t2, .ref t3, .ref t4, .ref t5, .ref t6, .ref t7, .ref t8] : List V) ++ [V.ref t9] from hv) with z | z
      · exact (G v z).kept kx
      · simp only [List.mem_cons, List.not_mem_nil, or_false] at z
        rw [z]; exact gt9.kept kx
    have f1 : (upd H28 S4 (.lst ([.ref t1, .ref t2, .ref t3, .ref t4, .ref t5, .ref t6, .ref t7, .ref t8] ++ [V.ref t9]))) t1 = some (.tup [.str kd, .ref q2, .int (c.gate : Nat), .ref pp, .ref ap]) := kx _ _ (by simp [t1n.1, t1n.2]) f1
    have fS : (upd H28 S4 (.lst ([.ref t1, .ref t2, .ref t3, .ref t4, .ref t5, .ref t6, .ref t7, .ref t8] ++ [V.ref t9]))) S4 = some (.lst [.ref t1, .ref t2, .ref t3, .ref t4, .ref t5, .ref t6, .ref t7, .ref t8, .ref t9]) := upd_same
    have Sn := p28.ne hS4
    have SH : H S4 = none := K28.free hS4 (by simp [Sn.1, Sn.2])
    have K29 : Kept [a, l] H (upd H28 S4 (.lst ([.ref t1, .ref t2, .ref t3, .ref t4, .ref t5, .ref t6, .ref t7, .ref t8] ++ [V.ref t9]))) := K28.new hS4
    have p29 := p28.new (o := .lst ([.ref t1, .ref t2, .ref t3, .ref t4, .ref t5, .ref t6, .ref t7, .ref t8] ++ [V.ref t9])) hS4
    generalize (upd H28 S4 (.lst ([.ref t1, .ref t2, .ref t3, .ref t4, .ref t5, .ref t6, .ref t7, .ref t8] ++ [V.ref t9]))) = H29 at G f1 fS K29 p29 ⊢
    clear kx
    refine ⟨a, l, m - 4, by omega, p29.le (by omega), .inr ⟨S4, _, rfl, Sn.1, Sn.2, fS, by simp, by simp, fun v HZ hv KZ pZ => ?_⟩⟩
    exact k v HZ ((G v hv).kept KZ) (K29.trans KZ) (pZ.le (by omega))
end Kp
namespace Kp
open PySem PySem.Spec PyProof.Rows L2 TL
variable {P : Program} {w : World} {K : PySem.W.Frag} {mg : Str → Option Value} {base : Heap}
/-! ### _law_pages -/
abbrev PRow := Addr × Str × Str
structure PRows (a l : Addr) (H : Hp) (p : Addr) (rows : List PRow) : Prop where
  pa : p ≠ a
  pl : p ≠ l
  at_ : H p = some (.lst (rows.map fun r => V.ref r.1))
  each : ∀ r ∈ rows, H r.1 = some (.tup [.str r.2.1, .str r.2.2])
theorem PRows.kept {a l p : Addr} {H H' : Hp} {m : Nat} {rows : List PRow} (h : PRows a l H p rows) (pot : Pot a l m H) (k : Kept [a, l] H H') : PRows a l H' p rows :=
  ⟨h.pa, h.pl, k p _ (by simp [h.pa, h.pl]) h.at_, fun r hr => by
    have := pot.tup _ _ (h.each r hr)
    exact k _ _ (by simp [this.1, this.2]) (h.each r hr)⟩
theorem PRows.same {a l p : Addr} {H H' : Hp} {rows : List PRow} (h : PRows a l H p rows) (k : Same H H') : PRows a l H' p rows := ⟨h.pa, h.pl, k _ _ h.at_, fun r hr => k _ _ (h.each r hr)⟩
/-- each text twice, in two ways -/
inductive Pairs : List PRow → Prop
  | nil : Pairs []
  | snoc {rows : List PRow} {t1 t2 : Addr} {x1 x2 f : Str} : Pairs rows → Pairs (rows ++ [(t1, x1, f), (t2, x2, f)])
structure RowGood (x f : Str) : Prop where
  vals : ∃ v, valsOf (tl x) = some v ∧ tl f = formL v
  ok : okS x
  len : x.length ≤ 1400
theorem RowGood.told {x f : Str} (h : RowGood x f) : toldS x = f := by
  obtain ⟨v, h1, h2⟩ := h.vals
  exact (toldS_of h1 h2).symm
theorem pairs_two {rows : List PRow} (h : Pairs rows) : ∀ r ∈ rows, 2 ≤ (rows.filter fun q => decide (q.2.2 = r.2.2)).length := by
  induction h with
  | nil => intro r hr; cases hr
  | @snoc rows t1 t2 x1 x2 f _ ih =>
    intro r hr
    rw [List.filter_append, List.length_append]
    rcases List.mem_append.mp hr with z | z
    · have := ih r z
      omega
    · simp only [List.mem_cons, List.not_mem_nil, or_false] at z
      rcases z with e | e
      · subst e; simp
      · subst e; simp
theorem pairs_grp {rows : List PRow} (h : Pairs rows) (hg : ∀ r ∈ rows, RowGood r.2.1 r.2.2) : ∀ x ∈ rows.map (·.2.1), 2 ≤ (grpOf (rows.map (·.2.1)) (toldS x)).length := by
  intro x hx
  obtain ⟨r, hr, rfl⟩ := List.mem_map.mp hx
  have h2 := pairs_two h r hr
  have e : (grpOf (rows.map (·.2.1)) (toldS r.2.1)).length = (rows.filter fun q => decide (q.2.2 = r.2.2)).length := by
    unfold grpOf
    rw [List.filter_map, List.length_map]
    congr 1
    refine List.filter_congr fun q hq => ?_
    show decide (toldS q.2.1 = toldS r.2.1) = _
    rw [(hg q hq).told, (hg r hr).told]
  omega
abbrev sPages : Stmt := top 50
abbrev NPages : List Str := ["_law_pot_here", "_law_pages_here", "_law_k", "_law_rows", "_law_page", "_law_way_here"]
theorem scPages : FnScope NPages ["_law_pot_here"] (defScope sPages) := ⟨rfl, rfl, rfl, by decide +kernel, rfl, by decide +kernel, by decide +kernel⟩
def spPages : Sp := fun vs H Q _ => ∃ (a l : Addr) (m : Nat), vs = [.ref a] ∧ 8000 ≤ m ∧ Pot a l m H ∧
  ∀ p rows H', PRows a l H' p rows → Pairs rows → (∀ r ∈ rows, RowGood r.2.1 r.2.2) → rows.length ≤ 10 → rows ≠ [] → Kept [a, l] H H' → Pot a l (m - 8000) H' → Q (.ref p) H'
theorem ok_pages (D : DefAt K mg "_law_pages" sPages) (GL : Glb K w mg) (F__law_draw : FnAt P w K mg base CX0 "_law_draw" ["_law_pot_here", "_law_many"] [] 2 spDraw) (F__law_pick : FnAt P w K mg base CX0 "_law_pick" ["_law_pot_here", "_law_some"] [] 3 spPick)
    (F__law_content : FnAt P w K mg base CX0 "_law_content" ["_law_pot_here"] [] 6 (spContent K)) (F__law_near : FnAt P w K mg base CX0 "_law_near" ["_law_pot_here", "_law_content_here"] [] 4 (spNear K))
    (F__law_written : FnAt P w K mg base CX0 "_law_written" ["_law_pot_here", "_law_content_here", "_law_more"] [] 6 (spWritten K)) (F__law_form : FnAt P w K mg base CX0 "_law_form" ["_law_content_here"] [] 1 (spForm K)) :
    FnAt P w K mg base CX0 "_law_pages" ["_law_pot_here"] [] 7 spPages := by
  refine D.ok scPages (fun _ _ _ _ _ _ us hl => match us, hl with | [_], _ => rfl) (fun vs H Q E h => ?_) (fun f cdv A outer s H vs Q E hr h => ?_)
  · obtain ⟨a, l, m, rfl, _⟩ := h
    rfl
  · obtain ⟨a, l, m, rfl, hm, pot, k⟩ := h
    refine ⟨_, (pss_cons (ps_set (i := 1) scPages.nd rfl (Or.inl rfl) (pe_lst (pa_cons (pe_cf F__law_content (hr.mono (by decide)) pass0 (pa_cons (pv 0) pa_nil)) pa_nil)))
      (pss_cons (ps_for PassesOwn.never rfl (pi_range1 (by rfl) GL.range (pa_cons (pe_op op_add pe_int (pe_cf F__law_draw (hr.mono (by decide)) pass0 (pa_cons (pv 0) (pa_cons pe_int pa_nil)))) pa_nil)) (pg_name (i := 2) scPages.nd rfl (Or.inl rfl)) (pss_one (ps_expr (pe_bm PySem.F.plainAttrs_list PySem.F.slot_list_append PySem.F.type_list_append mt_append (pv 1) (pa_cons (pe_cf F__law_near (hr.mono (by decide)) pass0 (pa_cons (pv 0) (pa_cons (pe_cf F__law_pick (hr.mono (by decide)) pass0 (pa_cons (pv 0) (pa_cons (pv 1) pa_nil))) pa_nil))) pa_nil)))))
      (pss_cons (ps_set (i := 3) scPages.nd rfl (Or.inl rfl) (pe_lst pa_nil))
      (pss_cons (ps_for PassesOwn.never rfl (pi_list (pv 1)) (pg_name (i := 4) scPages.nd rfl (Or.inr rfl)) (pss_one (ps_set (i := 3) scPages.nd rfl (Or.inl rfl) (pe_op op_cat (pv 3) (pe_lc (own := [("_law_way_here", 5)]) (g := gName 5) rfl scPages.nd (pi_range1 (by rfl) GL.range (pa_cons pe_int pa_nil)) (blkOk_by (own := [("_law_way_here", 5)]) (N := NPages) (sc := defScope sPages) (by decide +kernel)) (fun _ _ _ _ _ => pg_name (i := 5) scPages.nd rfl (Or.inl rfl)) (fun _ _ _ _ _ => pts_nil) (fun _ _ _ _ _ => (pe_tup (pa_cons (pe_cf F__law_written (hr.mono (by decide)) pass0 (pa_cons (pv 0) (pa_cons (pv 4) (pa_cons (pe_lst pa_nil) pa_nil)))) (pa_cons (pe_cf F__law_form (hr.mono (by decide)) pass0 (pa_cons (pv 4) pa_nil)) pa_nil)))))))))
      (pss_one (ps_ret (pv 3))))))), ?_⟩
    refine ⟨_, rfl, a, l, m, rfl, by omega, pot, fun t1 c H1 _ hc wf sz K1 p1 => ⟨(show 1 ≤ sizeLine by decide), fun S hS => ?_⟩⟩
    have Sn := p1.ne hS
    have SH : H S = none := K1.free hS (by simp [Sn.1, Sn.2])
    have g1 : GoodC K a l 0 (upd H1 S (.lst [.ref t1])) (.ref t1) := ⟨t1, c, rfl, hc.kept (Kept.refl.new hS), wf, sz⟩
    obtain ⟨ys, f1⟩ : ∃ ys, H1 t1 = some (.tup ys) := by
      obtain ⟨_, _, _, _, _, _, _, h1, _⟩ := hc.ex
      exact ⟨_, h1⟩
    have t1n := p1.tup t1 _ f1
    have f1' : upd H1 S (.lst [.ref t1]) t1 = some (.tup ys) := by rw [upd_ne (ne_of_none f1 hS)]; exact f1
    have fS : upd H1 S (.lst [.ref t1]) S = some (.lst [.ref t1]) := upd_same
    have K2 : Kept [a, l] H (upd H1 S (.lst [.ref t1])) := K1.new hS
    have p2 := p1.new (o := .lst [.ref t1]) hS
    generalize upd H1 S (.lst [.ref t1]) = H2 at g1 f1' fS K2 p2 ⊢
    refine ⟨_, rfl, a, l, 4, m - 300, rfl, by decide, by decide, by omega, p2, fun r H3 hr3 K23 p3 => ⟨_, _, rfl, rfl, _, rfl, by omega, by omega, ?_⟩⟩
    have e1 : ((1 : Int) + ((r : Nat) : Int)).toNat = r + 1 := by omega
    rw [e1]
    have g1 := g1.kept K23
    have f1' := K23 _ _ (by simp [t1n.1, t1n.2]) f1'
    have fS := K23 _ _ (by simp [Sn.1, Sn.2]) fS
    have K3 : Kept [a, l] H H3 := K2.trans K23
    refine for_it (walk_range (lo := 0) (n := r + 1)) (fun i σ H' => ∃ (u : Option V) (vs : List V), σ = [some (.ref a), some (.ref S), u, none, none, none] ∧ vs.length = i ∧ (∀ v ∈ V.ref t1 :: vs, GoodC K a l i H' v) ∧ H' S = some (.lst (V.ref t1 :: vs)) ∧ H' t1 = some (.tup ys) ∧ Kept [a, l] H H' ∧ Pot a l (m - 301 - 6 * i) H')
      ⟨_, [], rfl, rfl, (fun v hv => by rw [List.mem_singleton.mp hv]; exact g1), fS, f1', K3, by exact p3.le (by omega)⟩ (fun _ _ _ _ _ => True.intro) ?_ ?_
    · rintro i y σ H4 H5 hi ⟨u, vs, rfl, hlen, hG, hS4, f4, K4, p4⟩ ⟨rfl, rfl⟩
      refine ⟨_, rfl, .inl ⟨rfl, _, SqL.of hS4⟩, _, rfl, _, rfl, _, rfl, a, l, m - 301 - 6 * i, by omega, p4, .inr ⟨S, _, rfl, Sn.1, Sn.2, hS4, by simp, by simp only [List.length_cons]; omega, fun v H6 hv K6 p6 => ?_⟩⟩
      obtain ⟨pg, c2, rfl, hc2, wf2, sz2⟩ := (hG v hv).kept K6
      refine ⟨a, l, pg, m - 301 - 6 * i - 1, i, c2, rfl, hc2, wf2, sz2, by omega, by omega, p6, fun v H7 gv K7 p7 => ?_⟩
      have K67 := K6.trans K7
      have hS7 := K67 _ _ (by simp [Sn.1, Sn.2]) hS4
      have f7 := K67 _ _ (by simp [t1n.1, t1n.2]) f4
      have TS : TupS H7 S := ⟨t1, _, _, hS7, f7⟩
      have t1S : t1 ≠ S := fun e => by rw [e, hS7] at f7; cases f7
      refine ⟨S, _, v, rfl, rfl, hS7, by simp only [List.length_cons]; rw [sizeLine_eq]; omega, ?_⟩
      refine ⟨_, vs ++ [v], rfl, by rw [List.length_append, hlen]; rfl, fun v' hv' => ?_, by rw [upd_same]; rfl, by rw [upd_ne t1S]; exact f7, (K4.trans K67).put (.inr SH), (p7.put Sn.1 Sn.2).le (by omega)⟩
      rcases List.mem_append.mp (show v' ∈ (V.ref t1 :: vs) ++ [v] from hv') with z | z
      · exact (((hG v' z).kept K67).le (Nat.le_succ i)).putS TS
      · rw [List.mem_singleton.mp z]
        exact gv.putS TS
    · rintro σ H4 ⟨u, vs, rfl, hlen, hG, hS4, f4, K4, p4⟩
      refine ⟨(show 0 ≤ sizeLine by decide), fun R0 hR0 => ?_⟩
      have R0n := p4.ne hR0
      have K5 : Kept [a, l] H4 (upd H4 R0 (.lst [])) := Kept.refl.new hR0
      have hG5 : ∀ v ∈ V.ref t1 :: vs, GoodC K a l 4 (upd H4 R0 (.lst [])) v := fun v hv => ((hG v hv).kept K5).le (by omega)
      have hS5 := K5 _ _ (by simp [Sn.1, Sn.2]) hS4
      have hR5 : PRows a l (upd H4 R0 (.lst [])) R0 [] := ⟨R0n.1, R0n.2, upd_same, fun r hr => by cases hr⟩
      have p5 := (p4.new (o := .lst []) hR0).le (m' := m - 400) (by omega)
      have K5 : Kept [a, l] H (upd H4 R0 (.lst [])) := K4.trans K5
      generalize upd H4 R0 (.lst []) = H5 at hG5 hS5 hR5 p5 K5 ⊢
      refine ⟨_, rfl, S, rfl, ⟨_, SqL.of hS5⟩, for_list (K := K) (a := S) (xs := V.ref t1 :: vs) (fun i σ H' => ∃ (R : Addr) (rows : List PRow) (v : Option V), σ = [some (.ref a), some (.ref S), u, some (.ref R), v, none] ∧ PRows a l H' R rows ∧ Pairs rows ∧ (∀ r ∈ rows, RowGood r.2.1 r.2.2) ∧ rows.length = 2 * i ∧ Kept [a, l] H5 H' ∧ Pot a l (m - 400 - 1400 * i) H')
        ⟨R0, [], _, rfl, hR5, .nil, (fun r hr => by cases hr), rfl, Kept.refl, p5⟩ (fun i σ H' _ ⟨_, _, _, _, _, _, _, _, K', _⟩ => SqL.of (K' _ _ (by simp [Sn.1, Sn.2]) hS5)) ?_ ?_⟩
      · rintro i y σ H6 hi ⟨R, rows, v, rfl, hR6, hP, hgood, hlen6, K6, p6⟩
        have ym : y ∈ V.ref t1 :: vs := List.mem_of_getElem? hi
        have il : i < (V.ref t1 :: vs).length := (List.getElem?_eq_some_iff.mp hi).1
        simp only [List.length_cons] at il
        obtain ⟨pg, c2, rfl, hc2, wf2, sz2⟩ := (hG5 y ym).kept K6
        refine ⟨_, rfl, _, rfl, by decide, by decide, fun D hD => ?_⟩
        have Dn := p6.ne hD
        have hF : tl (⟨(formL (pgC c2)).toArray⟩ : Str) = formL (pgC c2) := rfl
        generalize (⟨(formL (pgC c2)).toArray⟩ : Str) = F at hF
        refine lc_it (walk_range (lo := 0) (n := (2 : Int).toNat)) (fun j H' => ∃ trs : List PRow, trs.length = j ∧ (∀ r ∈ trs, H' r.1 = some (.tup [.str r.2.1, .str r.2.2]) ∧ r.2.2 = F ∧ RowGood r.2.1 r.2.2) ∧ H' D = some (.lst (trs.map fun r => V.ref r.1)) ∧ Kept [a, l] H6 H' ∧ Pot a l (m - 400 - 1400 * i - 700 * j) H')
          ⟨[], rfl, (fun r hr => by cases hr), upd_same, Kept.refl.new hD, by exact (p6.new hD).le (by omega)⟩ (fun _ _ _ _ => True.intro) ?_ ?_
        · rintro j y H7 H8 hj ⟨trs, hlt, htr, hD7, K7, p7⟩ ⟨rfl, rfl⟩
          have hj2 : j < 2 := hj
          refine ⟨rfl, ?_⟩
          refine ⟨_, rfl, _, rfl, (show 0 ≤ sizeLine by decide), fun q hq => ?_⟩
          have qn := p7.ne hq
          have kq := Kept.refl (B := [a, l]) (H := H8) |>.new (o := .lst []) hq
          refine ⟨a, l, pg, q, m - 400 - 1400 * i - 700 * j, c2, rfl, (hc2.kept K7).kept kq, wf2, sz2, qn.1, qn.2, upd_same, by omega, p7.new hq, fun x H9 hW okx lx K9 p9 => ?_⟩
          have K79 : Kept [a, l] H8 H9 := kq.trans K9
          refine ⟨_, rfl, a, l, pg, c2, rfl, (hc2.kept K7).kept K79, wf2, sz2, fun fr H10 s10 ef => ⟨(show 2 ≤ sizeLine by decide), fun t ht => ?_⟩⟩
          have K710 : Kept [a, l] H8 (upd H10 t (.tup [.str x, .str fr])) := (K79.trans (Kept.same s10)).new ht
          have eF : fr = F := ext_tl (by rw [ef, hF])
          have hg : RowGood x fr := ⟨⟨_, wr_vals wf2 hW, ef⟩, okx, lx⟩
          have hD8 := K710 D _ (by simp [Dn.1, Dn.2]) hD7
          have tD : t ≠ D := fun e => by rw [e, upd_same] at hD8; cases hD8
          have p10 := (p9.same s10).new (o := .tup [.str x, .str fr]) ht
          have f10 : upd H10 t (.tup [.str x, .str fr]) t = some (.tup [.str x, .str fr]) := upd_same
          have htr8 : ∀ r ∈ trs, upd H10 t (.tup [.str x, .str fr]) r.1 = some (.tup [.str r.2.1, .str r.2.2]) ∧ r.2.2 = F ∧ RowGood r.2.1 r.2.2 := fun r hr => by
            obtain ⟨h1, h2, h3⟩ := htr r hr
            have rn := p7.tup _ _ h1
            exact ⟨K710 _ _ (by simp [rn.1, rn.2]) h1, h2, h3⟩
          generalize upd H10 t (.tup [.str x, .str fr]) = H11 at hD8 p10 f10 htr8 K710 ⊢
          refine ⟨_, hD8, by rw [List.length_map, hlt, sizeLine_eq]; omega, trs ++ [(t, x, fr)], by rw [List.length_append, hlt]; rfl, fun r hr => ?_, by rw [upd_same, List.map_append]; rfl, (K7.trans K710).put (.inr hD), (p10.put Dn.1 Dn.2).le (by omega)⟩
          rcases List.mem_append.mp hr with z | z
          · obtain ⟨h1, h2, h3⟩ := htr8 r z
            have : r.1 ≠ D := fun e => by rw [e, hD8] at h1; cases h1
            exact ⟨by rw [upd_ne this]; exact h1, h2, h3⟩
          · rw [List.mem_singleton.mp z]
            exact ⟨by show upd H11 D _ t = _; rw [upd_ne tD]; exact f10, eF, hg⟩
        · rintro H7 ⟨trs, hlt, htr, hD7, K7, p7⟩
          have hR7 := hR6.kept p6 K7
          match trs, hlt, htr, hD7 with
          | [(t1', x1, f1), (t2', x2, f2)], _, htr, hD7 =>
            obtain ⟨a1, a2, a3⟩ := htr _ (List.mem_cons_self ..)
            obtain ⟨b1, b2, b3⟩ := htr (t2', x2, f2) (by simp)
            have a2' : f1 = F := a2
            have b2' : f2 = F := b2
            subst a2'
            subst b2'
            refine ⟨R, D, _, _, rfl, rfl, hR7.at_, hD7, by rw [List.length_map, hlen6, sizeLine_eq]; simp only [List.length_map, List.length_cons, List.length_nil]; omega, fun R' hR' => ?_⟩
            have R'n := p7.ne hR'
            have p7' : Pot a l (m - 400 - 1400 * i - 1400) H7 := p7
            refine ⟨R', rows ++ [(t1', x1, f2), (t2', x2, f2)], _, rfl, ⟨R'n.1, R'n.2, by rw [upd_same, List.map_append], fun r hr => ?_⟩, hP.snoc, fun r hr => ?_, by rw [List.length_append, hlen6]; simp only [List.length_cons, List.length_nil]; omega, (K6.trans K7).new hR', (p7'.new hR').le (by omega)⟩
            · have h1 : H7 r.1 = some (.tup [.str r.2.1, .str r.2.2]) := by
                rcases List.mem_append.mp hr with z | z
                · exact hR7.each r z
                · exact (htr r z).1
              rw [upd_ne (ne_of_none h1 hR')]
              exact h1
            · rcases List.mem_append.mp hr with z | z
              · exact hgood r z
              · exact (htr r z).2.2
      · rintro σ H6 ⟨R, rows, v, rfl, hR6, hP, hgood, hlen6, K6, p6⟩
        refine ⟨_, rfl, k R rows H6 hR6 hP hgood ?_ (fun e => ?_) (K5.trans K6) (p6.le ?_)⟩
        · simp only [List.length_cons] at hlen6; omega
        · rw [e] at hlen6; simp at hlen6
        · simp only [List.length_cons]; omega
end Kp
namespace Kp
open PySem PySem.Spec PyProof.Rows L2 TL
variable {P : Program} {w : World} {K : PySem.W.Frag} {mg : Str → Option Value} {base : Heap}
/-! ### _law_values -/
abbrev sValues : Stmt := top 46
abbrev NValues : List Str := ["_law_box"]
theorem scValues : FnScope NValues ["_law_box"] (defScope sValues) := ⟨rfl, rfl, rfl, by decide +kernel, rfl, by decide +kernel, by decide +kernel⟩
def spValues (K : PySem.W.Frag) (C : Addr) : Sp := fun vs H Q _ => ∃ (b : Addr) (v : Pg), vs = [.ref b] ∧ AddrAt K C H b v ∧ ∀ p k h pp ap H', Same H H' → H' p = some (.lst [.str k, .str h, .int (v.gate : Nat), .ref pp, .ref ap]) → PgAt K H' v k h pp ap → Q (.ref p) H'
theorem ok_values {C : Addr} (T : AdC K mg C) (D : DefAt K mg "_law_values" sValues) : FnAt P w K mg base CX0 "_law_values" ["_law_box"] [] 1 (spValues K C) := by
  refine D.ok scValues (fun _ _ _ _ _ _ us hl => match us, hl with | [_], _ => rfl) (fun vs H Q E h => ?_) (fun f cdv A outer s H vs Q E hr h => ?_)
  · obtain ⟨a, v, rfl, _⟩ := h
    rfl
  · obtain ⟨a, v, rfl, ⟨dx, k, h, pp, ap, ha, hp⟩, kk⟩ := h
    refine ⟨_, (pss_one (ps_ret (pe_lst (pa_cons (pe_fld (pv 0) rfl) (pa_cons (pe_fld (pv 0) rfl) (pa_cons (pe_fld (pv 0) rfl) (pa_cons (pe_fld (pv 0) rfl) (pa_cons (pe_fld (pv 0) rfl) pa_nil)))))))), ?_⟩
    refine ⟨_, rfl, a, C, dx, _, _, rfl, ha, T.cls, T.n1, rfl, _, rfl, a, C, dx, _, _, rfl, ha, T.cls, T.n2, rfl, _, rfl, a, C, dx, _, _, rfl, ha, T.cls, T.n3, rfl, _, rfl, a, C, dx, _, _, rfl, ha, T.cls, T.n4, rfl, _, rfl, a, C, dx, _, _, rfl, ha, T.cls, T.n5, rfl, (show 5 ≤ sizeLine by decide), fun q hq => ?_⟩
    exact kk q k h pp ap _ (Same.new (Same.refl H) hq) upd_same (PgAt.same (Same.new (Same.refl H) hq) hp)
/-! ### _law_own -/
theorem isT_ok {x : Tx} (h : IsT x) : ∀ c ∈ x, c < 128 := fun c hc => by
  have := isW_bound h.w c hc
  omega
theorem form_ok {v : Pg} (wf : WfPg v) : ∀ c ∈ formL v, c < 128 := by
  intro c hc
  unfold formL at hc
  simp only [List.mem_append, List.mem_cons] at hc
  rcases hc with z | z | z | z | z | z | z | z
  · rcases wf.kind with e | e
    · rw [e] at z
      have q : ∀ x ∈ leafT, x < 128 := by decide
      exact q c z
    · rw [e] at z
      have q : ∀ x ∈ sealT, x < 128 := by decide
      exact q c z
  · omega
  · omega
  · omega
  · rcases isHostL_mem wf.host c z with e | e
    · exact host_lt e
    · omega
  · unfold gateP at z
    split at z
    · cases z
    · rcases List.mem_cons.mp z with e | e
      · omega
      · have := numL_digits v.gate c e
        omega
  · obtain ⟨x, hx, e⟩ := List.mem_flatten.mp z
    obtain ⟨y, hy, rfl⟩ := List.mem_map.mp hx
    rcases List.mem_cons.mp e with e | e
    · omega
    · exact isT_ok (wf.parts y hy).1 c e
  · unfold askP at z
    split at z
    · cases z
    · rcases List.mem_cons.mp z with e | e
      · omega
      · rcases joinC_mem e with e | ⟨y, hy, e⟩
        · omega
        · exact isT_ok (wf.asks y hy).1 c e
/-- a page's values as data -/
def dataV (k h : Str) (g : Nat) (ps as : List Str) : PyData := .list [.str k, .str h, .int (g : Nat), .tuple (ps.map .str), .tuple (as.map .str)]
theorem dp_vals {H : Hp} {p pp ap : Addr} {k h : Str} {g : Nat} {ps as : List Str} (hp : H p = some (.lst [.str k, .str h, .int (g : Nat), .ref pp, .ref ap])) (h1 : SqT K H pp (ps.map V.str)) (h2 : SqT K H ap (as.map V.str)) : Dp K H (.ref p) (dataV k h g ps as) :=
  .lst (SqL.of hp) (.cons (.str k) (.cons (.str h) (.cons (.int _) (.cons (.tup h1 (dp_strs ps)) (.cons (.tup h2 (dp_strs as)) .nil)))))
theorem shaped_vals {k h : Str} {g : Nat} {ps as : List Str} (ok1 : okS k) (ok2 : okS h) (ok3 : ∀ y ∈ ps, okS y) (ok4 : ∀ y ∈ as, okS y) : SeqAt.shaped (dataV k h g ps as) = true := by
  unfold SeqAt.shaped dataV
  have e1 : PyData.canLay0 (.tuple (ps.map .str)) = true := by simp [PyData.canLay0, lay_strs ok3]
  have e2 : PyData.canLay0 (.tuple (as.map .str)) = true := by simp [PyData.canLay0, lay_strs ok4]
  have e3 : PyData.canLay0 (.str k) = true := okS_strOk ok1
  have e4 : PyData.canLay0 (.str h) = true := okS_strOk ok2
  have c : PyData.canLay0 (.list [.str k, .str h, .int (g : Nat), .tuple (ps.map .str), .tuple (as.map .str)]) = true := by
    show PyData.canLayAll0 [.str k, .str h, .int (g : Nat), .tuple (ps.map .str), .tuple (as.map .str)] = true
    rw [PyData.canLayAll0, PyData.canLayAll0, PyData.canLayAll0, PyData.canLayAll0, PyData.canLayAll0, PyData.canLayAll0, e1, e2, e3, e4]
    rfl
  have d1 : PyData.depth (.list [.str k, .str h, .int (g : Nat), .tuple (ps.map .str), .tuple (as.map .str)]) ≤ 64 := by
    simp only [PyData.depth, PyData.depthAll, depth_strs]
    decide
  rw [c, decide_eq_true d1]
  rfl
abbrev sOwn : Stmt := top 47
abbrev NOwn : List Str := ["_law_text", "_law_box", "_law_told", "_law_again"]
theorem scOwn : FnScope NOwn ["_law_text"] (defScope sOwn) := ⟨rfl, rfl, rfl, by decide +kernel, rfl, by decide +kernel, by decide +kernel⟩
def spOwn (N : Addr) : Sp := fun vs H Q E => ∃ x : Str, vs = [.str x] ∧ x.length < 3500 ∧ okS x ∧ (valsOf (tl x) = none → ∀ d H', Same H H' → H' d = some (.xd [(("text" : Str), .str x)]) → E (.ref N) (some d) H') ∧ (∀ v, valsOf (tl x) = some v → ∀ H', Same H H' → Q (.bl true) H')
theorem DefAt.okX {x : Str} {st : Stmt} {N ps : List Str} {k : Nat} {sp : Sp} (D : DefAt K mg x st) (S : FnScope N ps (defScope st))
    (hb : ∀ (kV doc pm : Value) (an : Option Addr) (cdv ct : Value) (us : List Value), us.length = ps.length → bindArgs (PySem.W.fnOf x x (defArgs st) (defBody st) (defScope st) .none kV doc pm an cdv ct) ⟨us, []⟩ = pure (ps.zip us))
    (len : ∀ vs H Q E, sp vs H Q E → vs.length = ps.length)
    (hbody : ∀ (f : Addr) (cdv : Value) (A : Around) (outer : List Env) (s : Shared) (H : Hp) (vs : List V) (Q : VK) (E : XK), Room k (A.deeper (envOfC x (defScope st) s.heap.objs.size f cdv)) → sp vs H Q E →
      ∃ t, PSs (cxOf (L2.CX P w) P w K mg base N x (defScope st) f cdv A outer s H E) (defBody st) t ∧ t { nx := fun _ H' => Q .non H', rt := Q } (start N vs) H) : FnAt P w K mg base (L2.CX P w) x ps [] (k + 1) sp := by
  obtain ⟨f, fd, hm, F⟩ := D.ex
  exact ⟨f, fd, [], hm, F.kp, F.binds hb, .nil, F.okX S len (hbody f)⟩
theorem ok_own {C N : Addr} (T : AdC K mg C) (D : DefAt K mg "_law_own" sOwn) (GL : Glb K w mg) (M_Address : MkAt P w K mg base (L2.CX P w) "Address" C ["self", "text", "without"] [.non] 4 (spAInit K C N))
    (M_str : MethAt P w K mg base C "__str__" ["self"] 2 (spAStr K C)) (M_eq : MethAt P w K mg base C "__eq__" ["self", "other"] 5 (spAEq K C)) (F_told_form : FnAt P w K mg base CX0 "told_form" ["text", "without"] [.non] 6 spToldForm)
    (F__law_values : FnAt P w K mg base CX0 "_law_values" ["_law_box"] [] 1 (spValues K C)) : FnAt P w K mg base (L2.CX P w) "_law_own" ["_law_text"] [] 7 (spOwn N) := by
  refine D.okX scOwn (fun _ _ _ _ _ _ us hl => match us, hl with | [_], _ => rfl) (fun vs H Q E h => ?_) (fun f cdv A outer s H vs Q E hr h => ?_)
  · obtain ⟨x, rfl, _⟩ := h
    rfl
  · obtain ⟨x, rfl, hx, okx, kn, ks⟩ := h
    refine ⟨_, (pss_cons (ps_par (i := 1) (j := 2) rfl scOwn.nd rfl rfl (by decide) rfl rfl (pa_cons (pe_mkA M_Address (hr.mono (by decide)) (passes_call (takes_of rfl rfl rfl rfl) (fun _ _ _ _ h => h)) (pa_cons (pv 0) pa_nil)) (pa_cons (pe_cf F_told_form (hr.mono (by decide)) pass0 (pa_cons (pv 0) pa_nil)) pa_nil)) (by rfl))
      (pss_cons (ps_set (i := 3) scOwn.nd rfl (Or.inl rfl) (pe_mkA M_Address (hr.mono (by decide)) (passes_call (takes_of rfl rfl rfl rfl) (fun _ _ _ _ h => h)) (pa_cons (pv 2) pa_nil)))
      (pss_cons (ps_if (PW.pt (pw_or (pt_cmpR op_ne (pe_cf F_told_form (hr.mono (by decide)) pass0 (pa_cons (pv 2) pa_nil)) (pv 2) (nomark _)) (pw_or (pt_cmpR op_ne (pe_callTy (call_str_own M_str (hr.mono (by decide))) (by rfl) GL.str (by decide +kernel) (pa_cons (pv 1) pa_nil)) (pv 2) (nomark _)) (pw_or (pt_cmpR op_ne (pe_callTy (call_str_own M_str (hr.mono (by decide))) (by rfl) GL.str (by decide +kernel) (pa_cons (pv 3) pa_nil)) (pv 2) (nomark _)) (pw_or1 (pt_not (pt_cmpR (op_eqOwn M_eq (hr.mono (by decide))) (pv 1) (pv 3) (nomark _)))))))) (pss_one (ps_ret pe_bl)) pss_nil)
      (pss_one (ps_ret (pe_cmpR (op_eqD hr.units) (pe_cf F__law_values (hr.mono (by decide)) pass0 (pa_cons (pv 1) pa_nil)) (pe_cf F__law_values (hr.mono (by decide)) pass0 (pa_cons (pv 3) pa_nil)) (nomark _))))))), ?_⟩
    refine ⟨_, rfl, fun b1 d1 hb1 hd1 ne1 => ⟨b1, d1, x, rfl, upd_same, by omega, okx, fun hv d H1 kp hd => kn hv d H1 (kept_made hb1 hd1 kp) hd, fun v hv H1 kp at1 => ⟨rfl, ?_⟩⟩⟩
    have s1 := kept_made hb1 hd1 kp
    have wf := vals_wf hv
    have fl := form_len hv
    have lx := len_tl x
    refine ⟨_, rfl, x, v, rfl, by omega, okx, hv, fun told H2 s2 et => ⟨_, _, rfl, ?_⟩⟩
    have s2 : Same H H2 := s1.trans s2
    have lt := len_tl told
    rw [et] at lt
    have okt : okS told := fun c hc => form_ok wf c (by rw [← et]; exact hc)
    have hv2 : valsOf (tl told) = some v := by rw [et]; exact vals_form hv
    have at2 : AddrAt K C H2 b1 v := at1.same (fun c o ho => by exact (‹Same H1 H2› c o ho))
    refine ⟨_, rfl, fun b2 d2 hb2 hd2 ne2 => ⟨b2, d2, told, rfl, upd_same, by omega, okt, (fun z => by rw [hv2] at z; cases z), fun v' hv' H3 kp3 at3 => ⟨rfl, ?_⟩⟩⟩
    have ev : v' = v := by rw [hv2] at hv'; exact (Option.some.inj hv').symm
    subst ev
    have s23 := kept_made hb2 hd2 kp3
    have at2 := at2.same s23
    have s3 : Same H H3 := s2.trans s23
    have fl2 : (formL v').length < 100000 := by omega
    refine ⟨_, rfl, told, v', rfl, by omega, okt, hv2, fun r4 H4 s4 e4 => ⟨_, rfl, rfl, _, rfl, ?_⟩⟩
    have er4 : r4 = told := ext_tl (by rw [e4, et])
    rw [decide_eq_true (show V.str r4 = V.str told by rw [er4])]
    refine iteF ?_
    have at24 := at2.same s4
    have at34 := at3.same s4
    obtain ⟨dx1, k1, h1, pp1, ap1, hi1, hv1⟩ := id at24
    refine ⟨_, rfl, b1, dx1, _, rfl, hi1, b1, v', rfl, at24, wf, fl2, fun r5 H5 s5 e5 => ⟨r5, rfl, _, rfl, rfl, _, rfl, ?_⟩⟩
    have er5 : r5 = told := ext_tl (by rw [e5, et])
    rw [decide_eq_true (show V.str r5 = V.str told by rw [er5])]
    refine iteF ?_
    have at35 := at34.same s5
    obtain ⟨dx2, k2, h2, pp2, ap2, hi2, hv2'⟩ := id at35
    refine ⟨_, rfl, b2, dx2, _, rfl, hi2, b2, v', rfl, at35, wf, fl2, fun r6 H6 s6 e6 => ⟨r6, rfl, _, rfl, rfl, _, rfl, ?_⟩⟩
    have er6 : r6 = told := ext_tl (by rw [e6, et])
    rw [decide_eq_true (show V.str r6 = V.str told by rw [er6])]
    refine iteF ?_
    have s46 := s5.trans s6
    have at16 := at24.same s46
    have at26 := at35.same s6
    refine ⟨_, rfl, _, rfl, b1, b2, dx1, dx2, _, _, rfl, rfl, s46 _ _ hi1, s6 _ _ hi2, b1, b2, v', v', rfl, at16, wf, fl2, at26, wf, fl2, fun H7 s7 => ⟨_, rfl, _, rfl, ?_⟩⟩
    rw [decide_eq_true rfl]
    refine iteF ?_
    have at17 := at16.same s7
    have at27 := at26.same s7
    refine ⟨_, rfl, b1, v', rfl, at17, fun q1 k1 h1 pp1 ap1 H8 s8 hq1 hv1 => ⟨_, rfl, b2, v', rfl, at27.same s8, fun q2 k2 h2 pp2 ap2 H9 s9 hq2 hv2 => ?_⟩⟩
    have hq19 := s9 _ _ hq1
    have hv19 := PgAt.same s9 hv1
    obtain ⟨c1, c2, ⟨ps, c3, c4⟩, ⟨as, c5, c6⟩⟩ := hv19
    obtain ⟨d1', d2', ⟨ps', d3, d4⟩, ⟨as', d5, d6⟩⟩ := hv2
    have ek : k2 = k1 := ext_tl (by rw [d1', c1])
    have eh : h2 = h1 := ext_tl (by rw [d2', c2])
    have ep : ps' = ps := map_tl_inj (by rw [d4, c4])
    have ea : as' = as := map_tl_inj (by rw [d6, c6])
    subst ek eh ep ea
    have okk : okS k2 := fun c hc => form_ok wf c (by
      have hc2 : c ∈ tl k2 := hc
      rw [c1] at hc2
      unfold formL
      simp [hc2])
    have okh : okS h2 := fun c hc => form_ok wf c (by
      have hc2 : c ∈ tl h2 := hc
      rw [c2] at hc2
      unfold formL
      simp [hc2])
    have okp : ∀ y ∈ ps', okS y := fun y hy c hc => isT_ok (wf.parts (tl y) (by rw [← c4]; exact List.mem_map.mpr ⟨y, hy, rfl⟩)).1 c hc
    have oka : ∀ y ∈ as', okS y := fun y hy c hc => isT_ok (wf.asks (tl y) (by rw [← c6]; exact List.mem_map.mpr ⟨y, hy, rfl⟩)).1 c hc
    have sh := shaped_vals (g := v'.gate) okk okh okp oka
    refine ⟨_, _, dp_vals hq19 c3 c5, dp_vals hq2 d3 d5, sh, sh, ?_⟩
    rw [PySem.SeqAt.eqv_refl _ (SeqAt.canLay_of_shaped sh)]
    exact ks v' hv H9 (((s3.trans s4).trans s46).trans ((s7.trans s8).trans s9))
end Kp
namespace Kp
open PySem PySem.Spec PyProof.Rows L2 TL
variable {P : Program} {w : World} {K : PySem.W.Frag} {mg : Str → Option Value} {base : Heap}
/-! ### _law_none_or_own -/
abbrev sNoneOr : Stmt := top 48
abbrev NNoneOr : List Str := ["_law_text", "_law_told", "e"]
theorem scNoneOr : FnScope NNoneOr ["_law_text"] (defScope sNoneOr) := ⟨rfl, rfl, rfl, by decide +kernel, rfl, by decide +kernel, by decide +kernel⟩
def spNoneOr : Sp := fun vs H Q _ => ∃ x : Str, vs = [.str x] ∧ x.length < 3500 ∧ okS x ∧ ∀ H', Same H H' → Q (.bl true) H'
theorem ok_none_or {N B : Addr} (TN : NaC K mg N B) (XF : XfC K N) (te : PySem.W.exmOne K (.ref N) (.ref N) = some true) (D : DefAt K mg "_law_none_or_own" sNoneOr) (F__law_own : FnAt P w K mg base (L2.CX P w) "_law_own" ["_law_text"] [] 7 (spOwn N)) :
    FnAt P w K mg base CX0 "_law_none_or_own" ["_law_text"] [] 8 spNoneOr := by
  obtain ⟨fo, fdo, dso, mo, ko, bo, vo, FO⟩ := F__law_own.ex
  cases vo
  refine D.ok scNoneOr (fun _ _ _ _ _ _ us hl => match us, hl with | [_], _ => rfl) (fun vs H Q E h => ?_) (fun f cdv A outer s H vs Q E hr h => ?_)
  · obtain ⟨x, rfl, _⟩ := h
    rfl
  · obtain ⟨x, rfl, hx, okx, k⟩ := h
    have hr1 : Room 7 (A.deeper (envOfC "_law_none_or_own" (defScope sNoneOr) s.heap.objs.size f cdv)) := hr.mono (by decide)
    refine ⟨_, (pss_cons (ps_set (i := 1) scNoneOr.nd rfl (Or.inl rfl) pe_bl)
      (pss_cons (ps_try_as (i := 2) (tb := fun W => tAsg (tCallS (spOwn N) (WE W) (tCons (tVar 0) tNil)) (gName 1)) (ts := fun a cls d => tAsg (tOp rEq (tXf a cls d N "text" (tVar 2)) (tVar 0)) (gName 1)) (Wout := fun _ _ _ _ => False) rfl rfl scNoneOr.nd rfl rfl ⟨rfl, by decide, Or.inl TN.gN⟩ takes0
        (fun W pn xe tk _ => pss_one (ps_set (i := 1) scNoneOr.nd rfl (Or.inl rfl) (by exact (pe_callS FO hr1 rfl mo ko bo (fun σ => passAt tk σ) (by exact (pa_cons (pv 0) pa_nil))))))
        (fun a oe cls d pn hz hf => pss_one (ps_set (i := 1) scNoneOr.nd rfl (Or.inl rfl) (by exact (pe_cmpR op_eq (pe_xf XF TN.noT hz hf (pv 2)) (pv 0) (nomark _))))))
      (pss_one (ps_ret (pv 1))))), ?_⟩
    refine ⟨_, rfl, x, rfl, hx, okx, fun hn d H1 s1 hd => ?_, fun v hv H1 s1 => ?_⟩
    · refine ⟨true, te, fun _ a0 _ => ?_, fun q => Bool.noConfusion q⟩
      refine ⟨_, rfl, rfl, rfl, d, _, .str x, rfl, hd, by simp [List.lookup], _, rfl, rfl, ?_⟩
      rw [decide_eq_true rfl]
      exact ⟨_, rfl, k H1 s1⟩
    · exact ⟨_, rfl, k H1 s1⟩
/-! ### _law_put_together -/
abbrev sPut : Stmt := top 49
abbrev NPut : List Str := ["_law_texts", "_law_met", "_law_form_here", "_law_some", "_law_text"]
theorem scPut : FnScope NPut ["_law_texts"] (defScope sPut) := ⟨rfl, rfl, rfl, by decide +kernel, rfl, by decide +kernel, by decide +kernel⟩
def spPut (K : PySem.W.Frag) : Sp := fun vs H Q _ => ∃ (p : Addr) (xs : List Str), vs = [.ref p] ∧ SqL K H p (xs.map V.str) ∧ xs.length ≤ 1000 ∧ (∀ x ∈ xs, x.length < 19000 ∧ okS x ∧ ∃ v, valsOf (tl x) = some v) ∧ (∀ x ∈ xs, 2 ≤ (grpOf xs (toldS x)).length) ∧ ∀ H', Same H H' → Q (.bl true) H'
theorem row_le : ∀ {L : List Row3} {g : Row3}, g ∈ L → g.2.2.length ≤ ((L.map (·.2.2)).flatten).length
  | x :: L, g, h => by
    rw [List.map_cons, List.flatten_cons, List.length_append]
    rcases List.mem_cons.mp h with e | e
    · subst e; omega
    · have := row_le e; omega
theorem Same.seqL {H H' : Hp} {a : Addr} {xs : List V} (e : Same H H') (h : SqL K H a xs) : SqL K H' a xs := e.seq h
theorem ok_put (D : DefAt K mg "_law_put_together" sPut) (GL : Glb K w mg) (F_twins : FnAt P w K mg base CX0 "twins" ["texts", "without"] [.non] 7 (spTwins K)) (F_told_form : FnAt P w K mg base CX0 "told_form" ["text", "without"] [.non] 6 spToldForm) :
    FnAt P w K mg base CX0 "_law_put_together" ["_law_texts"] [] 8 (spPut K) := by
  refine D.ok scPut (fun _ _ _ _ _ _ us hl => match us, hl with | [_], _ => rfl) (fun vs H Q E h => ?_) (fun f cdv A outer s H vs Q E hr h => ?_)
  · obtain ⟨p, xs, rfl, _⟩ := h
    rfl
  · obtain ⟨p, xs, rfl, hp, hlen, hxs, htw, k⟩ := h
    refine ⟨_, (pss_cons (ps_set (i := 1) scPut.nd rfl (Or.inl rfl) (pe_lst pa_nil))
      (pss_cons (ps_for PassesOwn.never rfl (pi_tup (pe_cf F_twins (hr.mono (by decide)) pass0 (pa_cons (pe_callTy (cr_tupOf (K := K)) (by rfl) GL.tuple (by decide +kernel) (pa_cons (pv 0) pa_nil)) pa_nil))) (pg_tup rfl (pgs_cons (pg_name (i := 2) scPut.nd rfl (Or.inr rfl)) (pgs_cons (pg_name (i := 3) scPut.nd rfl (Or.inl rfl)) pgs_nil))) (pss_cons (ps_if (pt_not (pt_val (pe_callB (cr_all rfl) (by rfl) GL.all (by decide +kernel) (pa_cons (pe_lc (own := [("_law_text", 4)]) (g := gName 4) rfl scPut.nd (pi_tup (pv 3)) (blkOk_by (own := [("_law_text", 4)]) (N := NPut) (sc := defScope sPut) (by decide +kernel)) (fun _ _ _ _ _ => pg_name (i := 4) scPut.nd rfl (Or.inl rfl)) (fun _ _ _ _ _ => pts_nil) (fun _ _ _ _ _ => (pe_cmpR op_eq (pe_cf F_told_form (hr.mono (by decide)) pass0 (pa_cons (pv 4) pa_nil)) (pv 2) (nomark _)))) pa_nil)))) (pss_one (ps_ret pe_bl)) pss_nil)
      (pss_one (ps_expr (pe_bm PySem.F.plainAttrs_list PySem.F.slot_list_extend PySem.F.type_list_extend mt_extendT (pv 1) (pa_cons (pv 3) pa_nil))))))
      (pss_one (ps_ret (pe_cmpR (op_eqD hr.units) (pe_callB cr_sortedSA (by rfl) GL.sorted (by decide +kernel) (pa_cons (pv 1) pa_nil)) (pe_callB cr_sortedSA (by rfl) GL.sorted (by decide +kernel) (pa_cons (pv 0) pa_nil)) (nomark _)))))), ?_⟩
    refine ⟨(show 0 ≤ sizeLine by decide), fun M hM => ?_⟩
    have s1 : Same H (upd H M (.lst [])) := Same.new (Same.refl H) hM
    have fM : upd H M (.lst []) M = some (.lst (([] : List Str).map V.str)) := upd_same
    generalize upd H M (.lst []) = H1 at s1 fM ⊢
    refine ⟨_, rfl, p, _, rfl, .inl ⟨s1.seq hp, fun T hT => ?_⟩⟩
    have s2 : Same H1 (upd H1 T (.tup (xs.map V.str))) := Same.new (Same.refl H1) hT
    have fT : upd H1 T (.tup (xs.map V.str)) T = some (.tup (xs.map V.str)) := upd_same
    generalize upd H1 T (.tup (xs.map V.str)) = H2 at s2 fT ⊢
    refine ⟨T, xs, rfl, SqT.of fT, hlen, hxs, htw, fun R L H3 s3 hR hrows hL1 hL2 hL3 => ⟨R, rfl, ⟨_, SqT.of hR⟩, for_tup (K := K) (a := R) (xs := L.map fun g => V.ref g.1) (fun i σ H' => ∃ (ms : List Str) (u v : Option V), σ = [some (.ref p), some (.ref M), u, v, none] ∧ H' M = some (.lst (ms.map V.str)) ∧ ms = ((L.take i).map (·.2.2)).flatten ∧ Kept [M] H3 H')
      ⟨[], _, _, rfl, s3 _ _ (s2 _ _ fM), rfl, Kept.refl⟩ (fun i σ H' _ ⟨_, _, _, _, _, _, K'⟩ => SqT.of (K' R _ (by
        simp only [List.mem_singleton]
        intro e
        have := s3 _ _ (s2 _ _ fM)
        rw [← e, hR] at this
        cases this) hR)) ?_ ?_⟩⟩
    · rintro i y σ H4 hi ⟨ms, u, v, rfl, hM4, ems, K4⟩
      have hM3 : H3 M = some (.lst (([] : List Str).map V.str)) := s3 _ _ (s2 _ _ fM)
      obtain ⟨g, hg, rfl⟩ : ∃ g, L[i]? = some g ∧ V.ref g.1 = y := by
        rw [List.getElem?_map] at hi
        cases e : L[i]? with
        | none => rw [e] at hi; cases hi
        | some g => rw [e] at hi; exact ⟨g, rfl, Option.some.inj hi⟩
      have hgm : g ∈ L := List.mem_of_getElem? hg
      obtain ⟨q, hT3, hq3⟩ := hrows g hgm
      have gM : g.1 ≠ M := fun e => by rw [e, hM3] at hT3; cases hT3
      have qM : q ≠ M := fun e => by rw [e, hM3] at hq3; cases hq3
      have hT4 := K4 _ _ (by simpa using gM) hT3
      have hq4 := K4 _ _ (by simpa using qM) hq3
      have members := hL2 g hgm
      have gl : g.2.2.length ≤ 1000 := by
        have h1 := row_le hgm
        rw [hL3.length_eq] at h1
        omega
      have ml : ms.length ≤ 1000 := by
        have h1 : ((L.take i).map (·.2.2)).flatten.length ≤ ((L.map (·.2.2)).flatten).length := by
          have h2 : L.map (·.2.2) = (L.take i).map (·.2.2) ++ (L.drop i).map (·.2.2) := by rw [← List.map_append, List.take_append_drop]
          rw [h2, List.flatten_append, List.length_append]
          omega
        rw [hL3.length_eq] at h1
        rw [ems]
        omega
      refine ⟨g.1, _, rfl, SqT.of hT4, rfl, _, _, rfl, _, _, rfl, rfl, ?_⟩
      unfold tSeq tIfS tNot tB tCB tCons
      refine rd_lcT (K := K) (j := 3) (i0 := 4) (vs := [4]) (σ := [some (.ref p), some (.ref M), some (.str g.2.1), some (.ref q), none]) q _ (fun _ => V.bl true) rfl (SqT.of hq4) (fun _ => rfl) (by rw [List.length_map]; omega) (fun z H5 Q' hz s5 kz => ?_) fun D H5 hD s5 hD5 => ?_
      · obtain ⟨z, hz2, rfl⟩ := List.mem_map.mp hz
        obtain ⟨zx, zk⟩ := members z hz2
        obtain ⟨z1, z2, vz, z3⟩ := hxs z zx
        refine ⟨_, rfl, z, vz, rfl, z1, z2, z3, fun r H6 s6 er => ⟨_, rfl, rfl, ?_⟩⟩
        have e1 : r = g.2.1 := by rw [toldS_of z3 er, zk]
        show Q' (.bl _) _
        rw [decide_eq_true (show V.str r = V.str g.2.1 by rw [e1])]
        exact kz _ s6
      · refine ⟨D, (g.2.2.map V.str).map (fun _ => true), rfl, SqL.of (by rw [hD5, List.map_map, List.map_map, List.map_map]; rfl), ?_⟩
        have ea : ((g.2.2.map V.str).map (fun _ => true)).all id = true := by
          rw [List.all_eq_true]
          intro b hb
          obtain ⟨_, _, rfl⟩ := List.mem_map.mp hb
          rfl
        rw [ea]
        refine ⟨_, rfl, iteF ?_⟩
        have hM5 := s5 _ _ hM4
        have hq5 := s5 _ _ hq4
        refine ⟨_, rfl, .inl ⟨rfl, _, SqL.of hM5⟩, _, rfl, M, q, _, _, rfl, rfl, hM5, SqT.of hq5, ?_, ?_⟩
        · have := ml
          rw [List.length_map, List.length_map, sizeLine_eq]
          omega
        · refine ⟨ms ++ g.2.2, _, _, rfl, ?_, ?_, ?_⟩
          · rw [upd_same, List.map_append]
          · rw [ems, List.take_add_one, hg]
            simp
          · exact K4.trans ((Kept.same s5).put (.inl (by simp)))
    · rintro σ H4 ⟨ms, u, v, rfl, hM4, ems, K4⟩
      have em : ms = (L.map (·.2.2)).flatten := by
        rw [ems, List.length_map, List.take_length]
      have pm : ms.Perm xs := by rw [em]; exact hL3
      have s4 : Same H H4 := fun c o ho => K4 c o (by simpa using ne_of_none ho hM) (s3 _ _ (s2 _ _ (s1 _ _ ho)))
      have hp4 : SqL K H4 p (xs.map V.str) := s4.seq hp
      refine ⟨_, rfl, M, ms, rfl, SqL.of hM4, fun ys A py sy hA => ⟨_, rfl, p, xs, rfl, ?_, fun zs B pz sz hB => ?_⟩⟩
      · exact (Same.new (Same.refl H4) hA).seq hp4
      · have eyz : ys = zs := map_tl_inj (by rw [sortedS_sortT py sy, sortedS_sortT pz sz, sortT_congr (pm.map tl)])
        subst eyz
        have sh := (shaped_strs (ys := ys) fun y hy => (hxs y (pz.mem_iff.mp hy)).2.1).1
        refine ⟨_, _, Dp.lst (SqL.of (by rw [upd_ne (ne_of_none upd_same hB), upd_same])) (dp_strs ys), Dp.lst (SqL.of upd_same) (dp_strs ys), sh, sh, ?_⟩
        rw [PySem.SeqAt.eqv_refl _ (SeqAt.canLay_of_shaped sh)]
        exact k _ (Same.new (Same.new s4 hA) hB)
end Kp
namespace Kp
open PySem PySem.Spec PyProof.Rows L2 TL
variable {P : Program} {w : World} {K : PySem.W.Frag} {mg : Str → Option Value} {base : Heap}
/-! ### the law -/
abbrev sLaw : Stmt := top 51
abbrev NLaw : List Str := ["_law_script", "_law_pot_here", "_law_turn", "_law_rows", "_law_texts", "_law_text", "_law_form_here", "_law_one", "_law_here", "_law_other", "_law_there", "_law_at"]
theorem scLaw : FnScope NLaw ["_law_script"] (defScope sLaw) := ⟨rfl, rfl, rfl, by decide +kernel, rfl, by decide +kernel, by decide +kernel⟩
theorem prow_at {rows : List PRow} {j : Nat} {x : V} (hj : (rows.map fun r => V.ref r.1)[j]? = some x) : ∃ r, rows[j]? = some r ∧ V.ref r.1 = x := by
  rw [List.getElem?_map] at hj
  cases e : rows[j]? with
  | none => rw [e] at hj; cases hj
  | some r => rw [e] at hj; exact ⟨r, rfl, Option.some.inj hj⟩
theorem len_app (a b : Str) : (a ++ b).length = a.length + b.length := by
  have h1 := len_tl a
  have h2 := len_tl b
  have h3 := len_tl (a ++ b)
  rw [tl_app, List.length_append] at h3
  omega
theorem okS_app {a b : Str} (h1 : okS a) (h2 : okS b) : okS (a ++ b) := fun c hc => by
  rw [tl_app] at hc
  rcases List.mem_append.mp hc with z | z
  · exact h1 c z
  · exact h2 c z
theorem okS_cut {a : Str} {lo hi : Option Int} (h : okS a) : okS (cutS a lo hi) := fun c hc => h c (List.mem_of_mem_drop (List.mem_of_mem_take (by
  have : tl (cutS a lo hi) = (a.cps.toList.drop (HT.sIx a.length 0 lo)).take (HT.sIx a.length a.length hi - HT.sIx a.length 0 lo) := by simp [cutS, tl]
  rw [this] at hc
  exact hc)))
theorem if_all {j i0 : Nat} {te : TE} {vs : List Nat} {σ : L2.St} {H : Hp} {t : TS} {D : Ends} (a : Addr) (xs : List V) (hj : σ[j]? = some (some (.ref a))) (ha : SqL K H a xs) (hw : ∀ v, wipe ((wipe σ vs).set i0 (some v)) vs = wipe σ vs) (hl : xs.length < 100000)
    (he : ∀ v H' (Q' : VK), v ∈ xs → Same H H' → (∀ H'', Same H' H'' → Q' (.bl true) H'') → te ((wipe σ vs).set i0 (some v)) H' Q')
    (k : ∀ H', Same H H' → D.nx σ H') : tIfS (tNot (tB (tCB (rAll K) (tCons (tLc (iList K (tVar j)) (gName i0) tYes te vs) tNil)))) t tNext D σ H := by
  unfold tIfS tNot tB tCB tCons
  refine rd_lcL (K := K) a xs (fun _ => V.bl true) hj ha hw hl he fun D7 H7 hD7 s7 hD7' => ?_
  have ea : (xs.map (fun _ => true)).all id = true := by
    rw [List.all_eq_true]
    intro b hb
    obtain ⟨_, _, rfl⟩ := List.mem_map.mp hb
    rfl
  refine ⟨D7, xs.map (fun _ => true), rfl, SqL.of (by rw [hD7', List.map_map]; rfl), ?_⟩
  rw [ea]
  exact ⟨_, rfl, iteF (k _ s7)⟩
def spLaw (K : PySem.W.Frag) : Sp := fun vs H Q _ => ∃ (p : Addr) (ns : List Int), vs = [.ref p] ∧ SqL K H p (ns.map V.int) ∧ ns.length ≤ 1000 ∧ ∀ H', Q (.bl true) H'
theorem ok_law {C N B : Addr} (TN : NaC K mg N B) (T : AdC K mg C) {f : Addr} {fd : FuncData} (F : Fun K "law" "law" sLaw f fd) (GL : Glb K w mg)
    (F__law_pot : FnAt P w K mg base CX0 "_law_pot" ["_law_script"] [] 1 (spPot K)) (F__law_pages : FnAt P w K mg base CX0 "_law_pages" ["_law_pot_here"] [] 7 spPages)
    (F__law_own : FnAt P w K mg base (L2.CX P w) "_law_own" ["_law_text"] [] 7 (spOwn N)) (F_told_form : FnAt P w K mg base CX0 "told_form" ["text", "without"] [.non] 6 spToldForm)
    (M_Address : MkAt P w K mg base (L2.CX P w) "Address" C ["self", "text", "without"] [.non] 4 (spAInit K C N)) (M_eq : MethAt P w K mg base C "__eq__" ["self", "other"] 5 (spAEq K C))
    (F__law_put_together : FnAt P w K mg base CX0 "_law_put_together" ["_law_texts"] [] 8 (spPut K)) (F__law_pick : FnAt P w K mg base CX0 "_law_pick" ["_law_pot_here", "_law_some"] [] 3 spPick)
    (F__law_draw : FnAt P w K mg base CX0 "_law_draw" ["_law_pot_here", "_law_many"] [] 2 spDraw) (F__law_none_or_own : FnAt P w K mg base CX0 "_law_none_or_own" ["_law_text"] [] 8 spNoneOr) :
    FnOk P w K mg base CX0 9 f fd ["_law_script"] (spLaw K) := by
  refine F.ok scLaw (fun vs H Q E h => ?_) (fun cdv A outer s H vs Q E hr h => ?_)
  · obtain ⟨p, ns, rfl, _⟩ := h
    rfl
  · obtain ⟨p, ns, rfl, hp, hlen, k⟩ := h
    refine ⟨_, (pss_cons (ps_set (i := 1) scLaw.nd rfl (Or.inl rfl) (pe_cf F__law_pot (hr.mono (by decide)) pass0 (pa_cons (pv 0) pa_nil)))
      (pss_cons (ps_for PassesOwn.never rfl (pi_range1 (by rfl) GL.range (pa_cons (pe_callB (call_max2 rfl) (by rfl) GL.max (by decide +kernel) (pa_cons pe_int (pa_cons (pe_callB (call_min2 rfl) (by rfl) GL.min (by decide +kernel) (pa_cons (pe_callB (cr_lenSeq (K := K)) (by rfl) GL.len (by decide +kernel) (pa_cons (pv 0) pa_nil)) (pa_cons pe_int pa_nil))) pa_nil))) pa_nil)) (pg_name (i := 2) scLaw.nd rfl (Or.inl rfl)) (pss_cons (ps_set (i := 3) scLaw.nd rfl (Or.inl rfl) (pe_cf F__law_pages (hr.mono (by decide)) pass0 (pa_cons (pv 1) pa_nil)))
      (pss_cons (ps_setLc (i := 4) (own := [("_law_text", 5), ("_law_form_here", 6)]) (g := gTup K 2 (gCons (gName 5) (gCons (gName 6) gNil))) rfl scLaw.nd rfl rfl (sw_true rfl rfl rfl (by decide +kernel)) (pi_list (pv 3)) (blkOk_by (own := [("_law_text", 5), ("_law_form_here", 6)]) (N := NLaw) (sc := defScope sLaw) (by decide +kernel)) (fun _ _ _ _ _ => (by exact pg_tup rfl (pgs_cons (pg_name (i := 5) scLaw.nd rfl (Or.inl rfl)) (pgs_cons (pg_name (i := 6) scLaw.nd rfl (Or.inl rfl)) pgs_nil)))) (fun _ _ _ _ _ => pts_nil) (fun _ _ _ _ _ => (pv 5)))
      (pss_cons (ps_if (pt_not (pt_val (pe_callB (cr_all rfl) (by rfl) GL.all (by decide +kernel) (pa_cons (pe_lc (own := [("_law_text", 5)]) (g := gName 5) rfl scLaw.nd (pi_list (pv 4)) (blkOk_by (own := [("_law_text", 5)]) (N := NLaw) (sc := defScope sLaw) (by decide +kernel)) (fun _ _ _ _ _ => pg_name (i := 5) scLaw.nd rfl (Or.inl rfl)) (fun _ _ _ _ _ => pts_nil) (fun _ _ _ _ _ => (pe_cf F__law_own (hr.mono (by decide)) passL (pa_cons (pv 5) pa_nil)))) pa_nil)))) (pss_one (ps_ret pe_bl)) pss_nil)
      (pss_cons (ps_for PassesOwn.never rfl (pi_list (pv 3)) (pg_tup rfl (pgs_cons (pg_name (i := 7) scLaw.nd rfl (Or.inl rfl)) (pgs_cons (pg_name (i := 8) scLaw.nd rfl (Or.inl rfl)) pgs_nil))) (pss_one (ps_for PassesOwn.never rfl (pi_list (pv 3)) (pg_tup rfl (pgs_cons (pg_name (i := 9) scLaw.nd rfl (Or.inl rfl)) (pgs_cons (pg_name (i := 10) scLaw.nd rfl (Or.inl rfl)) pgs_nil))) (pss_cons (ps_if (pt_cmpR op_ne (pe_cmpR op_eq (pe_cf F_told_form (hr.mono (by decide)) pass0 (pa_cons (pv 7) pa_nil)) (pe_cf F_told_form (hr.mono (by decide)) pass0 (pa_cons (pv 9) pa_nil)) (nomark _)) (pe_cmpR op_eq (pv 8) (pv 10) (nomark _)) (nomark _)) (pss_one (ps_ret pe_bl)) pss_nil)
      (pss_one (ps_if (pt_cmpR op_ne (pe_cmpR (op_eqOwn M_eq (hr.mono (by decide))) (pe_mkA M_Address (hr.mono (by decide)) passL (pa_cons (pv 7) pa_nil)) (pe_mkA M_Address (hr.mono (by decide)) passL (pa_cons (pv 9) pa_nil)) (nomark _)) (pe_cmpR op_eq (pv 8) (pv 10) (nomark _)) (nomark _)) (pss_one (ps_ret pe_bl)) pss_nil))))))
      (pss_cons (ps_if (pt_not (pt_val (pe_cf F__law_put_together (hr.mono (by decide)) pass0 (pa_cons (pv 4) pa_nil)))) (pss_one (ps_ret pe_bl)) pss_nil)
      (pss_cons (ps_set (i := 5) scLaw.nd rfl (Or.inl rfl) (pe_cf F__law_pick (hr.mono (by decide)) pass0 (pa_cons (pv 1) (pa_cons (pv 4) pa_nil))))
      (pss_cons (ps_set (i := 11) scLaw.nd rfl (Or.inl rfl) (pe_cf F__law_draw (hr.mono (by decide)) pass0 (pa_cons (pv 1) (pa_cons (pe_callB call_len_str (by rfl) GL.len (by decide +kernel) (pa_cons (pv 5) pa_nil)) pa_nil))))
      (pss_one (ps_if (pt_not (pt_val (pe_cf F__law_none_or_own (hr.mono (by decide)) pass0 (pa_cons (pe_op op_add_str (pe_op op_add_str (pe_slice sl_str (pv 5) po_none (po_some (pv 11))) (pe_cf F__law_pick (hr.mono (by decide)) pass0 (pa_cons (pv 1) (pa_cons pe_str pa_nil)))) (pe_slice sl_str (pv 5) (po_some (pe_op op_add (pv 11) pe_int)) po_none)) pa_nil)))) (pss_one (ps_ret pe_bl)) pss_nil))))))))))
      (pss_one (ps_ret pe_bl)))), ?_⟩
    refine ⟨_, rfl, p, ns, rfl, hp, hlen, fun a l H1 s1 pot => ?_⟩
    have hp1 := s1.seq hp
    refine ⟨_, rfl, p, _, rfl, .inl hp1, _, _, rfl, _, _, rfl, _, rfl, ?_⟩
    rw [List.length_map]
    obtain ⟨N0, e0, hN0⟩ : ∃ N0 : Nat, (if (if (4 : Int) < ((ns.length : Nat) : Int) then (4 : Int) else ((ns.length : Nat) : Int)) > 1 then (if (4 : Int) < ((ns.length : Nat) : Int) then (4 : Int) else ((ns.length : Nat) : Int)) else 1) = (N0 : Nat) ∧ N0 ≤ 4 := by
      refine ⟨if (if 4 < ns.length then 4 else ns.length) > 1 then (if 4 < ns.length then 4 else ns.length) else 1, ?_, ?_⟩
      · split <;> split <;> (try split) <;> (try split) <;> omega
      · split <;> split <;> omega
    rw [e0]
    refine ⟨by omega, by omega, ?_⟩
    have e1 : ((N0 : Int)).toNat = N0 := by omega
    rw [e1]
    refine for_it (walk_range (lo := 0) (n := N0)) (fun i σ H' => ∃ u2 u3 u4 u5 u6 u7 u8 u9 u10 u11 : Option V, σ = [some (.ref p), some (.ref a), u2, u3, u4, u5, u6, u7, u8, u9, u10, u11] ∧ Pot a l (1000000 - 8003 * i) H')
      ⟨_, _, _, _, _, _, _, _, _, _, rfl, pot⟩ (fun _ _ _ _ _ => True.intro) ?_ ?_
    · rintro i y σ H3 H4 hi ⟨u2, u3, u4, u5, u6, u7, u8, u9, u10, u11, rfl, p3⟩ ⟨rfl, rfl⟩
      refine ⟨_, rfl, a, l, 1000000 - 8003 * i, rfl, by omega, p3, fun R rows H5 hR hP hgood hrl hne K5 p5 => ?_⟩
      refine ⟨_, rfl, R, rfl, ⟨_, SqL.of hR.at_⟩, fun D5 hD5 => lc_list (K := K) (a := R) (xs := rows.map fun r => V.ref r.1) (fun j H' => Same H5 H' ∧ H' D5 = some (.lst ((rows.take j).map fun r => V.str r.2.1)))
        ⟨Same.new (Same.refl H5) hD5, upd_same⟩ (fun j H' _ q => q.1.seq (SqL.of hR.at_)) (fun j x H' hj q => ?_) (fun H6 q => ?_)⟩
      · obtain ⟨r, hr, rfl⟩ : ∃ r, rows[j]? = some r ∧ V.ref r.1 = x := by
          rw [List.getElem?_map] at hj
          cases e : rows[j]? with
          | none => rw [e] at hj; cases hj
          | some r => rw [e] at hj; exact ⟨r, rfl, Option.some.inj hj⟩
        have hrm : r ∈ rows := List.mem_of_getElem? hr
        have ht := q.1 _ _ (hR.each r hrm)
        refine ⟨r.1, _, rfl, SqT.of ht, rfl, _, _, rfl, _, _, rfl, rfl, rfl, ?_⟩
        refine ⟨_, rfl, _, q.2, ?_, Same.put q.1 hD5, ?_⟩
        · rw [List.length_map, List.length_take, sizeLine_eq]
          omega
        · rw [upd_same, List.take_add_one, hr]
          simp
      · obtain ⟨s6, hT6⟩ := q
        rw [List.length_map, List.take_length] at hT6
        have hT6 : H6 D5 = some (.lst ((rows.map (·.2.1)).map V.str)) := by rw [hT6, List.map_map]; rfl
        have hR6 := hR.same s6
        have p6 := p5.same s6
        have hvals : ∀ x ∈ rows.map (·.2.1), x.length ≤ 1400 ∧ okS x ∧ ∃ v, valsOf (tl x) = some v := fun x hx => by
          obtain ⟨r, hr, rfl⟩ := List.mem_map.mp hx
          obtain ⟨v, h1, _⟩ := (hgood r hr).vals
          exact ⟨(hgood r hr).len, (hgood r hr).ok, v, h1⟩
        have hrl2 : (rows.map (·.2.1)).length ≤ 10 := by rw [List.length_map]; exact hrl
        refine if_all (K := K) (j := 4) (i0 := 5) (vs := [5]) (σ := [some (.ref p), some (.ref a), some (.int (0 + ((i : Nat) : Int))), some (.ref R), some (.ref D5), u5, u6, u7, u8, u9, u10, u11]) D5 _ rfl (SqL.of hT6) (fun _ => rfl) (by rw [List.length_map]; omega) (fun z H7 Q' hz s7 kz => ?_) fun H7 s7 => ?_
        · obtain ⟨z, hz2, rfl⟩ := List.mem_map.mp hz
          obtain ⟨z1, z2, vz, z3⟩ := hvals z hz2
          exact ⟨_, rfl, z, rfl, by omega, z2, (fun h => by rw [z3] at h; cases h), fun v hv H8 s8 => kz _ s8⟩
        · have hR7 := hR6.same s7
          have hT7 := s7 _ _ hT6
          have p7 := p6.same s7
          refine ⟨_, rfl, R, rfl, ⟨_, SqL.of hR7.at_⟩, for_list (K := K) (a := R) (xs := rows.map fun r => V.ref r.1) (fun _ σ H' => (∃ v7 v8 v9 v10, σ = [some (.ref p), some (.ref a), some (.int (0 + ((i : Nat) : Int))), some (.ref R), some (.ref D5), u5, u6, v7, v8, v9, v10, u11]) ∧ Same H7 H')
            ⟨⟨_, _, _, _, rfl⟩, Same.refl _⟩ (fun _ _ H' _ q => q.2.seq (SqL.of hR7.at_)) (fun j x σ H8 hj q => ?_) (fun σ H8 q => ?_)⟩
          · obtain ⟨⟨v7, v8, v9, v10, rfl⟩, s8⟩ := q
            obtain ⟨r, hr, rfl⟩ := prow_at hj
            have hrm : r ∈ rows := List.mem_of_getElem? hr
            have hR8 := hR7.same s8
            have ht := hR8.each r hrm
            obtain ⟨⟨w1, g1, g2⟩, g3, g4⟩ := hgood r hrm
            refine ⟨r.1, _, rfl, SqT.of ht, rfl, _, _, rfl, _, _, rfl, rfl, ?_⟩
            refine ⟨_, rfl, R, rfl, ⟨_, SqL.of hR8.at_⟩, for_list (K := K) (a := R) (xs := rows.map fun r => V.ref r.1) (fun _ σ H' => (∃ v9 v10, σ = [some (.ref p), some (.ref a), some (.int (0 + ((i : Nat) : Int))), some (.ref R), some (.ref D5), u5, u6, some (.str r.2.1), some (.str r.2.2), v9, v10, u11]) ∧ Same H8 H')
              ⟨⟨_, _, rfl⟩, Same.refl _⟩ (fun _ _ H' _ q => q.2.seq (SqL.of hR8.at_)) (fun j2 x σ H9 hj2 q => ?_) (fun σ H9 q => ?_)⟩
            · obtain ⟨⟨v9, v10, rfl⟩, s9⟩ := q
              obtain ⟨r2, hr2, rfl⟩ := prow_at hj2
              have hrm2 : r2 ∈ rows := List.mem_of_getElem? hr2
              have ht2 := (hR8.same s9).each r2 hrm2
              obtain ⟨⟨w2, k1, k2⟩, k3, k4⟩ := hgood r2 hrm2
              have lw1 := form_len g1
              have lw2 := form_len k1
              have lx1 := len_tl r.2.1
              have lx2 := len_tl r2.2.1
              refine ⟨r2.1, _, rfl, SqT.of ht2, rfl, _, _, rfl, _, _, rfl, rfl, ?_⟩
              refine ⟨_, rfl, r.2.1, w1, rfl, by omega, g3, g1, fun o1 H10 s10 e1 => ⟨_, rfl, r2.2.1, w2, rfl, by omega, k3, k1, fun o2 H11 s11 e2 => ⟨rfl, _, rfl, _, rfl, rfl, rfl, _, rfl, ?_⟩⟩⟩
              rw [str_eq2 e1 e2, str_eq2 g2 k2, decide_eq_true rfl]
              refine iteF ?_
              refine ⟨_, rfl, fun b1 d1 hb1 hd1 ne1 => ⟨b1, d1, r.2.1, rfl, upd_same, by omega, g3, (fun z => by rw [g1] at z; cases z), fun v hv H12 kp1 at1 => ⟨rfl, ?_⟩⟩⟩
              have s12 := kept_made hb1 hd1 kp1
              refine ⟨_, rfl, fun b2 d2 hb2 hd2 ne2 => ⟨b2, d2, r2.2.1, rfl, upd_same, by omega, k3, (fun z => by rw [k1] at z; cases z), fun v' hv' H13 kp2 at2 => ⟨rfl, ?_⟩⟩⟩
              have s13 := kept_made hb2 hd2 kp2
              have at13 := at1.same s13
              have ev : v = w1 := by rw [g1] at hv; exact (Option.some.inj hv).symm
              have ev' : v' = w2 := by rw [k1] at hv'; exact (Option.some.inj hv').symm
              subst ev ev'
              obtain ⟨dx1, q1, h1, pp1, ap1, hi1, _⟩ := id at13
              obtain ⟨dx2, q2, h2, pp2, ap2, hi2, _⟩ := id at2
              refine ⟨b1, b2, dx1, dx2, _, _, rfl, rfl, hi1, hi2, b1, b2, v, v', rfl, at13, vals_wf g1, by omega, at2, vals_wf k1, by omega, fun H14 s14 => ⟨_, rfl, _, rfl, _, rfl, rfl, rfl, _, rfl, ?_⟩⟩
              rw [str_eq2 g2 k2, decide_eq_true rfl]
              refine iteF ?_
              exact ⟨⟨_, _, rfl⟩, ((((s9.trans s10).trans s11).trans s12).trans s13).trans s14⟩
            · obtain ⟨⟨v9, v10, rfl⟩, s9⟩ := q
              exact ⟨⟨_, _, _, _, rfl⟩, s8.trans s9⟩
          · obtain ⟨⟨v7, v8, v9, v10, rfl⟩, s8⟩ := q
            have hT8 := s8 _ _ hT7
            have p8 := p7.same s8
            have hgrp := pairs_grp hP hgood
            refine ⟨_, rfl, D5, _, rfl, SqL.of hT8, by omega, fun x hx => ⟨by have := (hvals x hx).1; omega, (hvals x hx).2⟩, hgrp, fun H9 s9 => ⟨_, rfl, iteF ?_⟩⟩
            have hT9 := s9 _ _ hT8
            have p9 := p8.same s9
            have Dn := p5.ne hD5
            refine ⟨_, rfl, _, rfl, a, l, _, (show 1 ≤ 1000000 - 8003 * i - 8000 by omega), p9, .inr ⟨D5, _, rfl, Dn.1, Dn.2, hT9, ?_, by rw [List.length_map]; omega, fun v H10 hv K10 p10 => ?_⟩⟩
            · intro e
              rw [List.map_map, List.map_eq_nil_iff] at e
              exact hne e
            · obtain ⟨x, hx, rfl⟩ := List.mem_map.mp hv
              obtain ⟨x1, x2, x3⟩ := hvals x hx
              have xl : 1 ≤ x.length := by
                obtain ⟨v, hv⟩ := x3
                have := len_tl x
                rcases Nat.eq_zero_or_pos x.length with z | z
                · have : tl x = [] := List.length_eq_zero_iff.mp (by omega)
                  rw [this] at hv
                  cases hv
                · exact z
              refine ⟨_, rfl, _, rfl, x, rfl, (by rw [sizeLine_eq]; omega), a, l, x.length, _, rfl, xl, by omega, (show 1 ≤ 1000000 - 8003 * i - 8000 - 1 by omega), p10, fun t H11 ht K11 p11 => ?_⟩
              refine ⟨_, rfl, _, rfl, _, rfl, x, rfl, (by rw [sizeLine_eq]; omega), _, rfl, a, l, _, (show 1 ≤ 1000000 - 8003 * i - 8000 - 1 - 1 by omega), p11, .inl ⟨_, rfl, by decide +kernel, by decide +kernel, fun c H12 hc K12 p12 => ?_⟩⟩
              have l1 := cutS_length x none (some ((t : Nat) : Int))
              have lc : (⟨#[c]⟩ : Str).length = 1 := rfl
              have l3 := cutS_length x (some (((t : Nat) : Int) + 1)) none
              have l2 := len_app (cutS x none (some ((t : Nat) : Int))) ⟨#[c]⟩
              have l4 := len_app (cutS x none (some ((t : Nat) : Int)) ++ ⟨#[c]⟩) (cutS x (some (((t : Nat) : Int) + 1)) none)
              have okc : c < 128 := (show ∀ c ∈ tl "~/.&?#=:a41", c < 128 by decide +kernel) c hc
              refine ⟨_, _, rfl, rfl, (by rw [sizeLine_eq]; omega), _, rfl, _, rfl, _, _, rfl, rfl, _, rfl, x, rfl, (by rw [sizeLine_eq]; omega), _, _, rfl, rfl, (by rw [sizeLine_eq]; omega), _, rfl, (by omega), okS_app (okS_app (okS_cut x2) ?_) (okS_cut x2), fun H13 s13 => ⟨_, rfl, iteF ?_⟩⟩
              · intro d hd
                have : d = c := List.mem_singleton.mp hd
                rw [this]
                exact okc
              · exact ⟨_, _, _, _, _, _, _, _, _, _, rfl, (p12.same s13).le (by omega)⟩
    · rintro σ H3 ⟨u2, u3, u4, u5, u6, u7, u8, u9, u10, u11, rfl, p3⟩
      exact k _
end Kp
namespace Kp
open PySem PySem.Spec PyProof.Rows L2 TL
variable {P : Program} {w : World} {K : PySem.W.Frag} {mg : Str → Option Value} {base : Heap}
/-! ### all in a row -/
theorem all_ok {C N B : Addr} (TN : NaC K mg N B) (TA : AdC K mg C) (XF : XfC K N) (te : PySem.W.exmOne K (.ref N) (.ref N) = some true) (GL : Glb K w mg) (D__law_blend : DefAt K mg "_law_blend" sBlend) (D_is_gate : DefAt K mg "is_gate" sIsGate) (D_is_host : DefAt K mg "is_host" sIsHost) (D_is_written : DefAt K mg "is_written" sIsWritten) (D_sign_of : DefAt K mg "sign_of" sSignOf) (D_told_signs : DefAt K mg "told_signs" sTold) (D_told_host : DefAt K mg "told_host" sToldHost) (D_way_parts : DefAt K mg "way_parts" sWayParts) (D_ask_parts : DefAt K mg "ask_parts" sAskParts) (D_form_by : DefAt K mg "form_by" sFormBy) (D_cut_address : DefAt K mg "cut_address" sCut) (D__law_pot : DefAt K mg "_law_pot" sPot) (D__law_draw : DefAt K mg "_law_draw" sDraw) (D__law_pick : DefAt K mg "_law_pick" sPick) (D__law_plain : DefAt K mg "_law_plain" sPlain) (D__law_code : DefAt K mg "_law_code" sCode) (D__law_number_of : DefAt K mg "_law_number_of" sNumOf) (D__law_atom : DefAt K mg "_law_atom" sAtom) (D__law_piece : DefAt K mg "_law_piece" sPiece) (D__law_content : DefAt K mg "_law_content" sContent) (D__law_either : DefAt K mg "_law_either" sEither) (D__law_coded : DefAt K mg "_law_coded" sCoded) (D__law_gate : DefAt K mg "_law_gate" sGate) (D__law_way : DefAt K mg "_law_way" sWay) (D__law_asks : DefAt K mg "_law_asks" sAsks) (D__law_form : DefAt K mg "_law_form" sForm) (D__law_written : DefAt K mg "_law_written" sWritten) (D__law_turned : DefAt K mg "_law_turned" sTurned) (D__law_near : DefAt K mg "_law_near" sNear) (D__law_pages : DefAt K mg "_law_pages" sPages) (D__law_values : DefAt K mg "_law_values" sValues) (D__law_own : DefAt K mg "_law_own" sOwn) (D__law_none_or_own : DefAt K mg "_law_none_or_own" sNoneOr) (D__law_put_together : DefAt K mg "_law_put_together" sPut) (D_told_form : DDef K mg "told_form" sToldForm) (D_twins : DDef K mg "twins" sTwins) {f : Addr} {fd : FuncData} (F : Fun K "law" "law" sLaw f fd) :
    FnOk P w K mg base CX0 9 f fd ["_law_script"] (spLaw K) := by
  have F__law_blend := ok_blend (P := P) (w := w) (base := base) D__law_blend
  have F_is_gate := ok_is_gate (P := P) (w := w) (base := base) D_is_gate GL
  have F_is_host := ok_is_host (P := P) (w := w) (base := base) D_is_host GL
  have F_is_written := ok_is_written (P := P) (w := w) (base := base) D_is_written GL
  have F_sign_of := ok_sign_of (P := P) (w := w) (base := base) D_sign_of GL
  have F_told_signs := ok_told_signs (P := P) (w := w) (base := base) D_told_signs GL F_sign_of
  have F_told_host := ok_told_host (P := P) (w := w) (base := base) D_told_host GL
  have F_way_parts := ok_way_parts (P := P) (w := w) (base := base) D_way_parts GL F_told_signs
  have F_ask_parts := ok_ask_parts (P := P) (w := w) (base := base) D_ask_parts GL F_told_signs
  have F_form_by := ok_form_by (P := P) (w := w) (base := base) D_form_by GL
  have F_cut_address := ok_cut_address (P := P) (w := w) (base := base) D_cut_address GL F_is_host F_is_gate F_is_written
  have M_str := ok_a_str (P := P) (w := w) (base := base) TA GL F_form_by
  have M_eq := ok_a_eq (P := P) (w := w) (base := base) TA GL M_str
  have M_Address := mk_addr (P := P) (w := w) (base := base) TA TN GL F_cut_address F_told_host F_way_parts F_ask_parts
  have F_told_form := ok_told_form (P := P) (w := w) (base := base) D_told_form GL M_str M_Address.2
  have F_twins := ok_twins (P := P) (w := w) (base := base) D_twins GL F_told_form.2
  have F__law_pot := ok_pot (P := P) (w := w) (base := base) D__law_pot GL
  have F__law_draw := ok_draw (P := P) (w := w) (base := base) D__law_draw GL F__law_blend
  have F__law_pick := ok_pick (P := P) (w := w) (base := base) D__law_pick GL F__law_draw
  have F__law_plain := ok_plain (P := P) (w := w) (base := base) D__law_plain
  have F__law_code := ok_code (P := P) (w := w) (base := base) D__law_code
  have F__law_number_of := ok_number_of (P := P) (w := w) (base := base) D__law_number_of
  have F__law_atom := ok_atom (P := P) (w := w) (base := base) D__law_atom GL F__law_draw F__law_pick F__law_plain F__law_code F__law_number_of
  have F__law_piece := ok_piece (P := P) (w := w) (base := base) D__law_piece GL F__law_draw F__law_atom
  have F__law_content := ok_content (P := P) (w := w) (base := base) D__law_content GL F__law_draw F__law_pick F__law_piece
  have F__law_either := ok_either (P := P) (w := w) (base := base) D__law_either GL F__law_draw
  have F__law_coded := ok_coded (P := P) (w := w) (base := base) D__law_coded GL F__law_draw F__law_either F__law_plain F__law_code F__law_number_of
  have F__law_gate := ok_gate (P := P) (w := w) (base := base) D__law_gate GL F__law_draw
  have F__law_way := ok_way (P := P) (w := w) (base := base) D__law_way GL F__law_draw F__law_pick F__law_coded
  have F__law_asks := ok_asks (P := P) (w := w) (base := base) D__law_asks GL F__law_draw F__law_pick F__law_coded
  have F__law_form := ok_form (P := P) (w := w) (base := base) D__law_form GL
  have F__law_written := ok_written (P := P) (w := w) (base := base) D__law_written GL F__law_draw F__law_pick F__law_either F__law_gate F__law_way F__law_asks
  have F__law_turned := ok_turned (P := P) (w := w) (base := base) D__law_turned GL F__law_draw
  have F__law_near := ok_near (P := P) (w := w) (base := base) D__law_near GL F__law_pick F__law_turned
  have F__law_pages := ok_pages (P := P) (w := w) (base := base) D__law_pages GL F__law_draw F__law_pick F__law_content F__law_near F__law_written F__law_form
  have F__law_values := ok_values (P := P) (w := w) (base := base) TA D__law_values
  have F__law_own := ok_own (P := P) (w := w) (base := base) TA D__law_own GL M_Address.1 M_str M_eq F_told_form.1 F__law_values
  have F__law_none_or_own := ok_none_or (P := P) (w := w) (base := base) TN XF te D__law_none_or_own F__law_own
  have F__law_put_together := ok_put (P := P) (w := w) (base := base) D__law_put_together GL F_twins F_told_form.1
  have F_law := ok_law (P := P) (w := w) (base := base) TN TA F GL F__law_pot F__law_pages F__law_own F_told_form.1 M_Address.1 M_eq F__law_put_together F__law_pick F__law_draw F__law_none_or_own
  exact F_law
end Kp
open PySem PySem.W PyProof.Rows
set_option maxHeartbeats 0
open_top khd for PySem.Challenge.rw_keptpages_k74_whole_one_page_one_form
open PySem PySem.W PyProof.Rows L2
namespace Kp
section
variable {K : PySem.W.Frag} {h : Heap} {mg : Str → Option Value} {x m q0 : Str} {st : Stmt} {f C : Addr} {oc : Value} {od an : Option Addr} {osl : Array (Option Value)} {kV doc pm cdv ct : Value}
theorem def_mk (X : K.In h) (G : h.Ns mainGlobals mg)
    (a : PySem.W.nsIn K mainGlobals x = some (some (.ref f))) (l : K.lookup f = some ⟨oc, od, .func (PySem.W.fnOf x x (defArgs st) (defBody st) (defScope st) .none kV doc pm an cdv ct), osl⟩)
    (c : PySem.W.codeIn K cdv x = true) (k : PySem.W.keepIn K (.ref f) = true) : DefAt K mg x st := ⟨f, _, PySem.W.mg_of X G a, fun_mk l c k⟩
theorem law_mk (X : K.In h) (G : h.Ns mainGlobals mg)
    (a : PySem.W.nsIn K mainGlobals x = some (some (.ref f))) (l : K.lookup f = some ⟨oc, od, .func (PySem.W.fnOf x x (defArgs st) (defBody st) (defScope st) .none kV doc pm an cdv ct), osl⟩)
    (c : PySem.W.codeIn K cdv x = true) (k : PySem.W.keepIn K (.ref f) = true) :
    ∃ f oc od an osl kV doc pm cdv ct, mg x = some (.ref f) ∧ K.lookup f = some ⟨oc, od, .func (PySem.W.fnOf x x (defArgs st) (defBody st) (defScope st) .none kV doc pm an cdv ct), osl⟩ ∧ PySem.W.codeIn K cdv x = true ∧ PySem.W.keepIn K (.ref f) = true :=
  ⟨f, oc, od, an, osl, kV, doc, pm, cdv, ct, PySem.W.mg_of X G a, l, c, k⟩
theorem mdef_mk (a : PySem.W.findIn K (.ref C) m = some (some (.ref f))) (i : PySem.W.isFn K (.ref f) = true)
    (l : K.lookup f = some ⟨oc, od, .func (PySem.W.fnOf m q0 (defArgs st) (defBody st) (defScope st) .none kV doc pm an cdv ct), osl⟩)
    (c : PySem.W.codeIn K cdv q0 = true) (k : PySem.W.keepIn K (.ref f) = true) : MDef K C m q0 st := ⟨f, _, a, i, fun_mk l c k⟩
variable {T : Addr} {tc : Value} {tod : Option Addr} {tn : Nat} {tsl : Array (Option Value)}
theorem fund_mk (l : K.lookup f = some ⟨oc, od, .func (PySem.W.fnOf m q0 (defArgs st) (defBody st) (defScope st) (.ref T) kV doc pm an cdv ct), osl⟩)
    (c : PySem.W.codeIn K cdv q0 = true) (k : PySem.W.keepIn K (.ref f) = true) (t : K.lookup T = some ⟨tc, tod, .seq #[.none] tn, tsl⟩) :
    FunD K m q0 (defArgs st) (defBody st) (defScope st) [.non] [] f (PySem.W.fnOf m q0 (defArgs st) (defBody st) (defScope st) (.ref T) kV doc pm an cdv ct) :=
  ⟨⟨_, _, _, _, _, _, _, _, _, _, rfl, l, c, .inr ⟨by simp, T, _, [.none], tn, rfl, t, rfl, .cons rfl .nil⟩, .inl rfl⟩, k⟩
theorem ddef_mk (X : K.In h) (G : h.Ns mainGlobals mg)
    (a : PySem.W.nsIn K mainGlobals x = some (some (.ref f))) (l : K.lookup f = some ⟨oc, od, .func (PySem.W.fnOf x x (defArgs st) (defBody st) (defScope st) (.ref T) kV doc pm an cdv ct), osl⟩)
    (c : PySem.W.codeIn K cdv x = true) (k : PySem.W.keepIn K (.ref f) = true) (t : K.lookup T = some ⟨tc, tod, .seq #[.none] tn, tsl⟩) : DDef K mg x st :=
  ⟨f, _, PySem.W.mg_of X G a, fund_mk l c k t⟩
theorem ini_mk (i2 : PySem.W.findIn K (.ref C) "__init__" = some (some (.ref f))) (i1 : PySem.W.makesIn K C = true) (i3 : PySem.W.isFn K (.ref f) = true) (i4 : PySem.W.keepIn K (.ref C) = true)
    (l : K.lookup f = some ⟨oc, od, .func (PySem.W.fnOf m q0 (defArgs st) (defBody st) (defScope st) (.ref T) kV doc pm an cdv ct), osl⟩)
    (c : PySem.W.codeIn K cdv q0 = true) (k : PySem.W.keepIn K (.ref f) = true) (t : K.lookup T = some ⟨tc, tod, .seq #[.none] tn, tsl⟩) :
    ∃ f fd, Mk K C f ∧ FunD K m q0 (defArgs st) (defBody st) (defScope st) [.non] [] f fd := ⟨f, _, ⟨i1, i2, i3, i4⟩, fund_mk l c k t⟩
theorem oex_mk {nm q : Str} {N : Addr} {bs bm : List Value} {sn : List Str} {sub : List Value} {ab : Bool} {col : Option Bool} {dd : Option Addr} {m0 m1 m2 m3 m5 : Option Value}
    (xL : K.lookup C = some (excClassObj nm q C N bs bm true sn sub ab col dd m0 m1 m2 m3 m5 "ValueError.__new__")) (hb : PySem.HandSPX.refsVE bm = true)
    (sa : PySem.W.findIn K (.ref C) "__setattr__" = some (some (.builtin "object.__setattr__"))) (eC : PySem.W.subIn K (.ref C) (.type "BaseException") = some true) (tC : PySem.W.typeIn K (.ref C) = some (.type "type")) (kC : PySem.W.keepIn K (.ref C) = true) : OexC K C :=
  ⟨⟨nm, q, N, bs, bm, sn, sub, ab, col, dd, m0, m1, m2, m3, m5, xL, hb⟩, sa, eC, tC, kC⟩
/-- an error of the class at S is what «except S» names -/
theorem exm_self {S : Addr} (h1 : PySem.W.subIn K (.ref S) (.type "BaseException") = some true) (h2 : PySem.W.isClsIn K S = true) (h3 : PySem.W.typeIn K (.ref S) = some (.type "type")) (h4 : PySem.W.subIn K (.ref S) (.ref S) = some true) :
    PySem.W.exmOne K (.ref S) (.ref S) = some true := by
  have e1 : (PySem.W.subIn K (.ref S) (.type "BaseException") == some true) = true := by rw [h1] <;> rfl
  have e2 : ((PySem.W.clsIn K S).isSome && PySem.W.typeIn K (.ref S) == some (.type "type")) = true := by
    have h2' : (PySem.W.clsIn K S).isSome = true := h2
    rw [h2', h3] <;> rfl
  show (if (PySem.W.subIn K (.ref S) (.type "BaseException") == some true) = true then (if ((PySem.W.clsIn K S).isSome && PySem.W.typeIn K (.ref S) == some (.type "type")) = true then PySem.W.subIn K (.ref S) (.ref S) else none) else none) = some true
  rw [if_pos e1, if_pos e2]
  exact h4
theorem tup_refs {T : Addr} {its : Array Value} {n : Nat} {od : Option Addr} {sl : Array (Option Value)} {xs : List V} (l : K.lookup T = some ⟨.type "tuple", od, .seq its n, sl⟩) (hs : its.size ≤ sizeLine) (v : Vals xs its.toList) (H : Hp) : SqT K H T xs := .inr ⟨_, its, n, l, rfl, rfl, hs, v⟩
theorem gates_mk {w : World} {d : Addr} {n : Nat} {t1 t2 t3 t4 : Tok} (l : K.lookup d = some ⟨.type "dict", none, .dict #[{ hash := PyData.keyHash w.params "leaf", key := .str "leaf" t1, val := .int 70 t2 }, { hash := PyData.keyHash w.params "seal", key := .str "seal" t3, val := .int 700 t4 }] n, #[]⟩) (hd : (d == sysModules) = false) :
    KDict K w d #[{ hash := PyData.keyHash w.params "leaf", key := .str "leaf" t1, val := .int 70 t2 }, { hash := PyData.keyHash w.params "seal", key := .str "seal" t3, val := .int 700 t4 }] n ∧ (∀ z : Str, z ≠ "leaf" → z ≠ "seal" → PySem.W.nsIn K d z = some none) := by
  refine ⟨⟨l, ⟨⟨_, _, rfl, rfl⟩, ⟨_, _, rfl, rfl⟩, True.intro⟩, hd⟩, fun z h1 h2 => ?_⟩
  have e1 : Value.isStr (.str "leaf" t1) z = false := by
    show (_ == _) = false
    simpa using fun e => h1 e.symm
  have e2 : Value.isStr (.str "seal" t3) z = false := by
    show (_ == _) = false
    simpa using fun e => h2 e.symm
  unfold PySem.W.nsIn
  rw [l]
  simp [List.find?, e1, e2, DictEntry.refKey]
theorem glb_mk {w : World} {n nF : Nat} {od9 odh10 odh11 odh12 odh13 odh14 : Option Addr} {sl9 slh10 slh11 slh12 slh13 slh14 : Array (Option Value)} {nh10 nh11 nh12 nh13 nh14 : Nat} {s1 s2 s3 s4 t1 t2 t3 t4 uh10 vh10 uh11 vh11 uh12 vh12 uh13 vh13 uh14 vh14 : Tok} (X : K.In h) (G : h.Ns mainGlobals mg) (z0 : PySem.W.nsIn K mainGlobals "len" = some none) (z1 : PySem.W.nsIn K mainGlobals "all" = some none) (z2 : PySem.W.nsIn K mainGlobals "abs" = some none) (z3 : PySem.W.nsIn K mainGlobals "max" = some none) (z4 : PySem.W.nsIn K mainGlobals "min" = some none) (z5 : PySem.W.nsIn K mainGlobals "list" = some none) (z6 : PySem.W.nsIn K mainGlobals "tuple" = some none) (z7 : PySem.W.nsIn K mainGlobals "sorted" = some none) (z8 : PySem.W.nsIn K mainGlobals "isinstance" = some none) (z9 : PySem.W.nsIn K mainGlobals "int" = some none) (z10 : PySem.W.nsIn K mainGlobals "str" = some none) (z11 : PySem.W.nsIn K mainGlobals "range" = some none) (z12 : PySem.W.nsIn K mainGlobals "enumerate" = some none)
    (h1 : PySem.W.nsIn K mainGlobals "HOST_SIGNS" = some (some (.str hostSigns s1))) (h2 : PySem.W.nsIn K mainGlobals "FIGURES" = some (some (.str figures s2))) (h3 : PySem.W.nsIn K mainGlobals "CODE_SIGNS" = some (some (.str codeSigns s3))) (h4 : PySem.W.nsIn K mainGlobals "MOST_GATE" = some (some (.int 5 s4)))
    (h5 : PySem.W.nsIn K mainGlobals "GATES" = some (some (.ref 47)))
    (l : K.lookup 47 = some ⟨.type "dict", none, .dict #[{ hash := PyData.keyHash w.params "leaf", key := .str "leaf" t1, val := .int 70 t2 }, { hash := PyData.keyHash w.params "seal", key := .str "seal" t3, val := .int 700 t4 }] n, #[]⟩) (hd : ((47 : Addr) == sysModules) = false)
    (h6 : PySem.W.nsIn K 47 "leaf" = some (some (.int 70 t2))) (h7 : PySem.W.nsIn K 47 "seal" = some (some (.int 700 t4))) (h8 : PySem.W.nsIn K mainGlobals "FIRST_CODES" = some (some (.ref 53)))
    (h9 : K.lookup 53 = some ⟨.type "tuple", od9, .seq #[.ref 48, .ref 49, .ref 50, .ref 51, .ref 52] nF, sl9⟩) (h2s : 2 ≤ sizeLine ∧ 5 ≤ sizeLine)
    (h10 : K.lookup 48 = some ⟨.type "tuple", odh10, .seq #[.int 48 uh10, .str figures vh10] nh10, slh10⟩) (h11 : K.lookup 49 = some ⟨.type "tuple", odh11, .seq #[.int 65 uh11, .str "ABCDEFGHIJKLMNOPQRSTUVWXYZ" vh11] nh11, slh11⟩) (h12 : K.lookup 50 = some ⟨.type "tuple", odh12, .seq #[.int 97 uh12, .str "abcdefghijklmnopqrstuvwxyz" vh12] nh12, slh12⟩) (h13 : K.lookup 51 = some ⟨.type "tuple", odh13, .seq #[.int 45 uh13, .str "-." vh13] nh13, slh13⟩) (h14 : K.lookup 52 = some ⟨.type "tuple", odh14, .seq #[.int 95 uh14, .str "_" vh14] nh14, slh14⟩) : Nonempty (Glb K w mg) := by
  have GA := gates_mk l hd
  exact ⟨⟨PySem.W.mg_none_of X G z0, PySem.W.mg_none_of X G z1, PySem.W.mg_none_of X G z2, PySem.W.mg_none_of X G z3, PySem.W.mg_none_of X G z4, PySem.W.mg_none_of X G z5, PySem.W.mg_none_of X G z6, PySem.W.mg_none_of X G z7, PySem.W.mg_none_of X G z8, PySem.W.mg_none_of X G z9, PySem.W.mg_none_of X G z10, PySem.W.mg_none_of X G z11, PySem.W.mg_none_of X G z12, s1, PySem.W.mg_of X G h1, s2, PySem.W.mg_of X G h2, s3, PySem.W.mg_of X G h3, s4, PySem.W.mg_of X G h4, 47, PySem.W.mg_of X G h5, _, _, GA.1, ⟨_, h6⟩, ⟨_, h7⟩, GA.2, 53, PySem.W.mg_of X G h8, [48, 49, 50, 51, 52],
    tup_refs h9 h2s.2 (.cons rfl (.cons rfl (.cons rfl (.cons rfl (.cons rfl .nil))))), ⟨48, 49, 50, 51, 52, rfl, tup_refs h10 h2s.1 (.cons ⟨_, rfl⟩ (.cons ⟨_, rfl⟩ .nil)), tup_refs h11 h2s.1 (.cons ⟨_, rfl⟩ (.cons ⟨_, rfl⟩ .nil)), tup_refs h12 h2s.1 (.cons ⟨_, rfl⟩ (.cons ⟨_, rfl⟩ .nil)), tup_refs h13 h2s.1 (.cons ⟨_, rfl⟩ (.cons ⟨_, rfl⟩ .nil)), tup_refs h14 h2s.1 (.cons ⟨_, rfl⟩ (.cons ⟨_, rfl⟩ .nil))⟩⟩⟩
end
end Kp
theorem PySem.Challenge.cw_keptpages_k74_whole_one_page_one_form_holds : PySem.Challenge.rw_keptpages_k74_whole_one_page_one_form.Holds := by
  exact khd (by
  k_fill
  refine L2.walk_of (n := 63) (k := 9) (x := "_law_script") (CX := fun _ => CX0) (sp := fun w => Kp.spLaw _) rfl (by decide) rfl ⟨rfl, by decide, by decide⟩ (fun w h Y => PySem.W.kIn_of Y) ?F (fun _ _ a ns hl _ hS => ⟨a, ns, rfl, hS, Nat.le_trans hl (by decide), fun _ => rfl⟩) fun _ _ _ _ _ z => z
  case F =>
    intro w mg fa h KX G hmg0
    have hmg : mg "law" = some (.ref fa) := hmg0
    clear hmg0
    have D1 : Kp.DDef (khd.heap_39 w.params) mg "told_form" Kp.sToldForm := by
      refine' Kp.ddef_mk KX G ?a ?l ?c ?k ?t
      (case a => k_is); (case l => k_is); (case c => k_is); (case k => k_is); (case t => k_is)
    have D2 : Kp.DDef (khd.heap_39 w.params) mg "twins" Kp.sTwins := by
      refine' Kp.ddef_mk KX G ?a ?l ?c ?k ?t
      (case a => k_is); (case l => k_is); (case c => k_is); (case k => k_is); (case t => k_is)
    have M1 : Kp.MDef (khd.heap_39 w.params) 44 "__init__" "NoAddress.__init__" (inClass (Kp.top 2) 0) := by
      refine' Kp.mdef_mk ?a ?i ?l ?c ?k
      (case a => k_is); (case i => k_is); (case l => k_is); (case c => k_is); (case k => k_is)
    have M2 : Kp.MDef (khd.heap_39 w.params) 161 "__str__" "Address.__str__" (inClass (Kp.top 22) 1) := by
      refine' Kp.mdef_mk ?a ?i ?l ?c ?k
      (case a => k_is); (case i => k_is); (case l => k_is); (case c => k_is); (case k => k_is)
    have M3 : Kp.MDef (khd.heap_39 w.params) 161 "__eq__" "Address.__eq__" (inClass (Kp.top 22) 3) := by
      refine' Kp.mdef_mk ?a ?i ?l ?c ?k
      (case a => k_is); (case i => k_is); (case l => k_is); (case c => k_is); (case k => k_is)
    have I1 : ∃ f fd, Mk (khd.heap_39 w.params) 161 f ∧ FunD (khd.heap_39 w.params) "__init__" "Address.__init__" (defArgs (inClass (Kp.top 22) 0)) (defBody (inClass (Kp.top 22) 0)) (defScope (inClass (Kp.top 22) 0)) [.non] [] f fd := by
      refine' Kp.ini_mk ?i1 ?i2 ?i3 ?i4 ?i5 ?i6 ?i7 ?i8
      (case i1 => k_is); (case i2 => k_is); (case i3 => k_is); (case i4 => k_is); (case i5 => k_is); (case i6 => k_is); (case i7 => k_is); (case i8 => k_is)
    have B1 : Kp.BaseInit (khd.heap_39 w.params) 24 := by
      refine' ⟨?b1, ?b2, ?b3⟩
      (case b1 => k_is); (case b2 => k_is); (case b3 => k_is)
    have X1 : XfC (khd.heap_39 w.params) 44 := by
      refine' ⟨?x1, ?x2, ?x3, ?x4⟩
      (case x1 => k_is); (case x2 => k_is); (case x3 => k_is); (case x4 => k_is)
    have N1 : findIn (khd.heap_39 w.params) (.ref 44) "text" = some none := by k_is
    have O1 : OexC (khd.heap_39 w.params) 44 := by
      refine' Kp.oex_mk (bm := [.ref 24, .type "ValueError", .type "Exception", .type "BaseException", .type "object"]) ?o1 (by decide +kernel) ?o2 ?o3 ?o4 ?o5
      (case o1 => k_is); (case o2 => k_is); (case o3 => k_is); (case o4 => k_is); (case o5 => k_is)
    have TE : exmOne (khd.heap_39 w.params) (.ref 44) (.ref 44) = some true := by
      refine' Kp.exm_self ?t1 ?t2 ?t3 ?t4
      (case t1 => k_is); (case t2 => k_is); (case t3 => k_is); (case t4 => first | rfl | k_is)
    have TN : Kp.NaC (khd.heap_39 w.params) mg 44 24 := by
      refine' ⟨mg_of KX G ?n1, mg_of KX G ?n2, B1, O1, N1, M1⟩
      (case n1 => k_is); (case n2 => k_is)
    have C1 : Cls (khd.heap_39 w.params) 161 := by
      refine' ⟨?c1, ?c2, ?c3, ?c4⟩
      (case c1 => k_is); (case c2 => k_is); (case c3 => k_is); (case c4 => k_is)
    have TA : Kp.AdC (khd.heap_39 w.params) mg 161 := by
      refine' ⟨mg_of KX G ?a1, C1, ?a2, ?a3, ?a4, ?a5, ?a6, ?a7, ?a8, ?a9, ?a10, ?a11, I1, M2, M3⟩
      (case a1 => k_is); (case a2 => unfold NoAttr; k_is); (case a3 => unfold NoAttr; k_is); (case a4 => unfold NoAttr; k_is); (case a5 => unfold NoAttr; k_is); (case a6 => unfold NoAttr; k_is); (case a7 => k_is); (case a8 => k_is); (case a9 => k_is); (case a10 => k_is); (case a11 => first | rfl | k_is)
    have GL : Nonempty (Kp.Glb (khd.heap_39 w.params) w mg) := by
      refine' Kp.glb_mk (w := w) KX G ?z0 ?z1 ?z2 ?z3 ?z4 ?z5 ?z6 ?z7 ?z8 ?z9 ?z10 ?z11 ?z12 ?h1 ?h2 ?h3 ?h4 ?h5 ?h51 (by decide) ?h6 ?h7 ?h8 ?h9 (by decide) ?h10 ?h11 ?h12 ?h13 ?h14
      (case z0 => k_is); (case z1 => k_is); (case z2 => k_is); (case z3 => k_is); (case z4 => k_is); (case z5 => k_is); (case z6 => k_is); (case z7 => k_is); (case z8 => k_is); (case z9 => k_is); (case z10 => k_is); (case z11 => k_is); (case z12 => k_is)
      (case h1 => k_is); (case h2 => k_is); (case h3 => k_is); (case h4 => k_is); (case h5 => k_is); (case h51 => k_is); (case h6 => k_is); (case h7 => k_is); (case h8 => k_is); (case h9 => k_is); (case h10 => k_is); (case h11 => k_is); (case h12 => k_is); (case h13 => k_is); (case h14 => k_is)
    obtain ⟨GL⟩ := GL
    have D__law_blend : Kp.DefAt (khd.heap_39 w.params) mg "_law_blend" Kp.sBlend := by
      refine' Kp.def_mk KX G ?d1 ?d2 ?d3 ?d4
      (case d1 => k_is); (case d2 => k_is); (case d3 => k_is); (case d4 => k_is)
    have D_is_gate : Kp.DefAt (khd.heap_39 w.params) mg "is_gate" Kp.sIsGate := by
      refine' Kp.def_mk KX G ?d1 ?d2 ?d3 ?d4
      (case d1 => k_is); (case d2 => k_is); (case d3 => k_is); (case d4 => k_is)
    have D_is_host : Kp.DefAt (khd.heap_39 w.params) mg "is_host" Kp.sIsHost := by
      refine' Kp.def_mk KX G ?d1 ?d2 ?d3 ?d4
      (case d1 => k_is); (case d2 => k_is); (case d3 => k_is); (case d4 => k_is)
    have D_is_written : Kp.DefAt (khd.heap_39 w.params) mg "is_written" Kp.sIsWritten := by
      refine' Kp.def_mk KX G ?d1 ?d2 ?d3 ?d4
      (case d1 => k_is); (case d2 => k_is); (case d3 => k_is); (case d4 => k_is)
    have D_sign_of : Kp.DefAt (khd.heap_39 w.params) mg "sign_of" Kp.sSignOf := by
      refine' Kp.def_mk KX G ?d1 ?d2 ?d3 ?d4
      (case d1 => k_is); (case d2 => k_is); (case d3 => k_is); (case d4 => k_is)
    have D_told_signs : Kp.DefAt (khd.heap_39 w.params) mg "told_signs" Kp.sTold := by
      refine' Kp.def_mk KX G ?d1 ?d2 ?d3 ?d4
      (case d1 => k_is); (case d2 => k_is); (case d3 => k_is); (case d4 => k_is)
    have D_told_host : Kp.DefAt (khd.heap_39 w.params) mg "told_host" Kp.sToldHost := by
      refine' Kp.def_mk KX G ?d1 ?d2 ?d3 ?d4
      (case d1 => k_is); (case d2 => k_is); (case d3 => k_is); (case d4 => k_is)
    have D_way_parts : Kp.DefAt (khd.heap_39 w.params) mg "way_parts" Kp.sWayParts := by
      refine' Kp.def_mk KX G ?d1 ?d2 ?d3 ?d4
      (case d1 => k_is); (case d2 => k_is); (case d3 => k_is); (case d4 => k_is)
    have D_ask_parts : Kp.DefAt (khd.heap_39 w.params) mg "ask_parts" Kp.sAskParts := by
      refine' Kp.def_mk KX G ?d1 ?d2 ?d3 ?d4
      (case d1 => k_is); (case d2 => k_is); (case d3 => k_is); (case d4 => k_is)
    have D_form_by : Kp.DefAt (khd.heap_39 w.params) mg "form_by" Kp.sFormBy := by
      refine' Kp.def_mk KX G ?d1 ?d2 ?d3 ?d4
      (case d1 => k_is); (case d2 => k_is); (case d3 => k_is); (case d4 => k_is)
    have D_cut_address : Kp.DefAt (khd.heap_39 w.params) mg "cut_address" Kp.sCut := by
      refine' Kp.def_mk KX G ?d1 ?d2 ?d3 ?d4
      (case d1 => k_is); (case d2 => k_is); (case d3 => k_is); (case d4 => k_is)
    have D__law_pot : Kp.DefAt (khd.heap_39 w.params) mg "_law_pot" Kp.sPot := by
      refine' Kp.def_mk KX G ?d1 ?d2 ?d3 ?d4
      (case d1 => k_is); (case d2 => k_is); (case d3 => k_is); (case d4 => k_is)
    have D__law_draw : Kp.DefAt (khd.heap_39 w.params) mg "_law_draw" Kp.sDraw := by
      refine' Kp.def_mk KX G ?d1 ?d2 ?d3 ?d4
      (case d1 => k_is); (case d2 => k_is); (case d3 => k_is); (case d4 => k_is)
    have D__law_pick : Kp.DefAt (khd.heap_39 w.params) mg "_law_pick" Kp.sPick := by
      refine' Kp.def_mk KX G ?d1 ?d2 ?d3 ?d4
      (case d1 => k_is); (case d2 => k_is); (case d3 => k_is); (case d4 => k_is)
    have D__law_plain : Kp.DefAt (khd.heap_39 w.params) mg "_law_plain" Kp.sPlain := by
      refine' Kp.def_mk KX G ?d1 ?d2 ?d3 ?d4
      (case d1 => k_is); (case d2 => k_is); (case d3 => k_is); (case d4 => k_is)
    have D__law_code : Kp.DefAt (khd.heap_39 w.params) mg "_law_code" Kp.sCode := by
      refine' Kp.def_mk KX G ?d1 ?d2 ?d3 ?d4
      (case d1 => k_is); (case d2 => k_is); (case d3 => k_is); (case d4 => k_is)
    have D__law_number_of : Kp.DefAt (khd.heap_39 w.params) mg "_law_number_of" Kp.sNumOf := by
      refine' Kp.def_mk KX G ?d1 ?d2 ?d3 ?d4
      (case d1 => k_is); (case d2 => k_is); (case d3 => k_is); (case d4 => k_is)
    have D__law_atom : Kp.DefAt (khd.heap_39 w.params) mg "_law_atom" Kp.sAtom := by
      refine' Kp.def_mk KX G ?d1 ?d2 ?d3 ?d4
      (case d1 => k_is); (case d2 => k_is); (case d3 => k_is); (case d4 => k_is)
    have D__law_piece : Kp.DefAt (khd.heap_39 w.params) mg "_law_piece" Kp.sPiece := by
      refine' Kp.def_mk KX G ?d1 ?d2 ?d3 ?d4
      (case d1 => k_is); (case d2 => k_is); (case d3 => k_is); (case d4 => k_is)
    have D__law_content : Kp.DefAt (khd.heap_39 w.params) mg "_law_content" Kp.sContent := by
      refine' Kp.def_mk KX G ?d1 ?d2 ?d3 ?d4
      (case d1 => k_is); (case d2 => k_is); (case d3 => k_is); (case d4 => k_is)
    have D__law_either : Kp.DefAt (khd.heap_39 w.params) mg "_law_either" Kp.sEither := by
      refine' Kp.def_mk KX G ?d1 ?d2 ?d3 ?d4
      (case d1 => k_is); (case d2 => k_is); (case d3 => k_is); (case d4 => k_is)
    have D__law_coded : Kp.DefAt (khd.heap_39 w.params) mg "_law_coded" Kp.sCoded := by
      refine' Kp.def_mk KX G ?d1 ?d2 ?d3 ?d4
      (case d1 => k_is); (case d2 => k_is); (case d3 => k_is); (case d4 => k_is)
    have D__law_gate : Kp.DefAt (khd.heap_39 w.params) mg "_law_gate" Kp.sGate := by
      refine' Kp.def_mk KX G ?d1 ?d2 ?d3 ?d4
      (case d1 => k_is); (case d2 => k_is); (case d3 => k_is); (case d4 => k_is)
    have D__law_way : Kp.DefAt (khd.heap_39 w.params) mg "_law_way" Kp.sWay := by
      refine' Kp.def_mk KX G ?d1 ?d2 ?d3 ?d4
      (case d1 => k_is); (case d2 => k_is); (case d3 => k_is); (case d4 => k_is)
    have D__law_asks : Kp.DefAt (khd.heap_39 w.params) mg "_law_asks" Kp.sAsks := by
      refine' Kp.def_mk KX G ?d1 ?d2 ?d3 ?d4
      (case d1 => k_is); (case d2 => k_is); (case d3 => k_is); (case d4 => k_is)
    have D__law_form : Kp.DefAt (khd.heap_39 w.params) mg "_law_form" Kp.sForm := by
      refine' Kp.def_mk KX G ?d1 ?d2 ?d3 ?d4
      (case d1 => k_is); (case d2 => k_is); (case d3 => k_is); (case d4 => k_is)
    have D__law_written : Kp.DefAt (khd.heap_39 w.params) mg "_law_written" Kp.sWritten := by
      refine' Kp.def_mk KX G ?d1 ?d2 ?d3 ?d4
      (case d1 => k_is); (case d2 => k_is); (case d3 => k_is); (case d4 => k_is)
    have D__law_turned : Kp.DefAt (khd.heap_39 w.params) mg "_law_turned" Kp.sTurned := by
      refine' Kp.def_mk KX G ?d1 ?d2 ?d3 ?d4
      (case d1 => k_is); (case d2 => k_is); (case d3 => k_is); (case d4 => k_is)
    have D__law_near : Kp.DefAt (khd.heap_39 w.params) mg "_law_near" Kp.sNear := by
      refine' Kp.def_mk KX G ?d1 ?d2 ?d3 ?d4
      (case d1 => k_is); (case d2 => k_is); (case d3 => k_is); (case d4 => k_is)
    have D__law_pages : Kp.DefAt (khd.heap_39 w.params) mg "_law_pages" Kp.sPages := by
      refine' Kp.def_mk KX G ?d1 ?d2 ?d3 ?d4
      (case d1 => k_is); (case d2 => k_is); (case d3 => k_is); (case d4 => k_is)
    have D__law_values : Kp.DefAt (khd.heap_39 w.params) mg "_law_values" Kp.sValues := by
      refine' Kp.def_mk KX G ?d1 ?d2 ?d3 ?d4
      (case d1 => k_is); (case d2 => k_is); (case d3 => k_is); (case d4 => k_is)
    have D__law_own : Kp.DefAt (khd.heap_39 w.params) mg "_law_own" Kp.sOwn := by
      refine' Kp.def_mk KX G ?d1 ?d2 ?d3 ?d4
      (case d1 => k_is); (case d2 => k_is); (case d3 => k_is); (case d4 => k_is)
    have D__law_none_or_own : Kp.DefAt (khd.heap_39 w.params) mg "_law_none_or_own" Kp.sNoneOr := by
      refine' Kp.def_mk KX G ?d1 ?d2 ?d3 ?d4
      (case d1 => k_is); (case d2 => k_is); (case d3 => k_is); (case d4 => k_is)
    have D__law_put_together : Kp.DefAt (khd.heap_39 w.params) mg "_law_put_together" Kp.sPut := by
      refine' Kp.def_mk KX G ?d1 ?d2 ?d3 ?d4
      (case d1 => k_is); (case d2 => k_is); (case d3 => k_is); (case d4 => k_is)
    have FL : ∃ f oc od an osl kV doc pm cdv ct, mg "law" = some (.ref f) ∧ (khd.heap_39 w.params).lookup f = some ⟨oc, od, .func (PySem.W.fnOf "law" "law" (defArgs Kp.sLaw) (defBody Kp.sLaw) (defScope Kp.sLaw) .none kV doc pm an cdv ct), osl⟩ ∧ PySem.W.codeIn (khd.heap_39 w.params) cdv "law" = true ∧ PySem.W.keepIn (khd.heap_39 w.params) (.ref f) = true := by
      refine' Kp.law_mk KX G ?d1 ?d2 ?d3 ?d4
      (case d1 => k_is); (case d2 => k_is); (case d3 => k_is); (case d4 => k_is)
    obtain ⟨f, oc, od, an, osl, kV, doc, pm, cdv, ct, hm, hl, hc, hk⟩ := FL
    have ef : fa = f := by
      have := hmg.symm.trans hm
      cases this
      rfl
    subst ef
    have FN := fun_mk (st := Kp.sLaw) hl hc hk
    refine ⟨PySem.W.fnOf "law" "law" (defArgs Kp.sLaw) (defBody Kp.sLaw) (defScope Kp.sLaw) .none kV doc pm an cdv ct, fun s u => .of_eq rfl, fun base _ _ => ?_⟩
    exact Kp.all_ok TN TA X1 TE GL D__law_blend D_is_gate D_is_host D_is_written D_sign_of D_told_signs D_told_host D_way_parts D_ask_parts D_form_by D_cut_address D__law_pot D__law_draw D__law_pick D__law_plain D__law_code D__law_number_of D__law_atom D__law_piece D__law_content D__law_either D__law_coded D__law_gate D__law_way D__law_asks D__law_form D__law_written D__law_turned D__law_near D__law_pages D__law_values D__law_own D__law_none_or_own D__law_put_together D1 D2 FN)
