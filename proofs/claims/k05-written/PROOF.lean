import PyProof.Rows.All
import Wide.All
import OpenK.AllK
import Wide.FinOn
import PyProof.EqAt
import PyProof.EqKinds
import PyProof.TupleCall
import Lean
import HandS.ForMost
import HandS.WordsExc
import HandS.Exc
import HandS.ExcOwn
import HandS.ExcIs
import HandS.TryOnly
import HandS.Defaults
import HandS.IsInst
import HandS.Head0
import HandS.Head1
import HandS.Head2
import HandS.HeadEnd
import HandS.HeadHook1
import HandS.HeadHook2
import HandS.Evl
import HandS.Codes
import HandS.StrMore
import HandS.TupLe
import HandS.SortInts
import HandS.Flow
import HandS.Style
import HandS.Walk
import PyProof.Rows.StrRev
import PyProof.Rows.StrStep
import KE.GoesMore
import HandS.New0
import HandS.SetFor
import HandS.Strs
import PyProof.Rows.CountFlat
import HandS.HotCalls
import HandS.CallLocal
import KE.GoesRaise
import KE.GoesComp
import HandS.SuiteRaise
import PySem.Challenge.RW_oddcoin_k05_written
set_option Elab.async false
set_option linter.all false
set_option maxRecDepth 100000
set_option maxHeartbeats 4000000
namespace Od
open PySem PySem.Spec PyProof.Rows L2
/-! ### facts that the top leaves, and some truths more, read by one look -/
structure InsK (K : PySem.W.Frag) (C : Addr) : Prop where
  ha : PySem.W.findIn K (.ref C) "__class__" = some (some (.builtin "object.__class__"))
  hn : PySem.W.specialIn K (.builtin "object.__class__") "__get__" = some (some (.builtin "getset_descriptor.__get__"))
  ht : PySem.W.takesIn K (.builtin "object.__class__") = some true
  hm : PySem.W.mroIn K C (.type "object") = some true
def insB (K : PySem.W.Frag) (C : Addr) : Bool :=
  He.eqO (PySem.W.findIn K (.ref C) "__class__") (some (some (.builtin "object.__class__"))) &&
  (He.eqO (PySem.W.specialIn K (.builtin "object.__class__") "__get__") (some (some (.builtin "getset_descriptor.__get__"))) &&
  (decide (PySem.W.takesIn K (.builtin "object.__class__") = some true) && decide (PySem.W.mroIn K C (.type "object") = some true)))
theorem insB_ok {K : PySem.W.Frag} {C : Addr} (h : insB K C = true) : InsK K C := by
  obtain ⟨h1, h⟩ := He.ba h
  obtain ⟨h2, h⟩ := He.ba h
  obtain ⟨h3, h4⟩ := He.ba h
  exact ⟨He.eqO_ok h1, He.eqO_ok h2, of_decide_eq_true h3, of_decide_eq_true h4⟩
structure Mk0 (K : PySem.W.Frag) (C : Addr) : Prop where
  makes : PySem.W.makesIn K C = true
  init : PySem.W.findIn K (.ref C) "__init__" = some (some (.builtin "object.__init__"))
  kp : PySem.W.keepIn K (.ref C) = true
def mk0B (K : PySem.W.Frag) (C : Addr) : Bool :=
  PySem.W.makesIn K C && (He.eqO (PySem.W.findIn K (.ref C) "__init__") (some (some (.builtin "object.__init__"))) && PySem.W.keepIn K (.ref C))
theorem mk0B_ok {K : PySem.W.Frag} {C : Addr} (h : mk0B K C = true) : Mk0 K C := by
  obtain ⟨h1, h⟩ := He.ba h
  obtain ⟨h2, h3⟩ := He.ba h
  exact ⟨h1, He.eqO_ok h2, h3⟩
def excCB (K : PySem.W.Frag) (D : Addr) : Bool :=
  He.eqO (PySem.W.findIn K (.ref D) "__getattribute__") (some (some (.builtin "BaseException.__getattribute__"))) &&
  (He.eqO (PySem.W.findIn K (.ref D) "__getattr__") (some none) &&
  (decide (PySem.W.subIn K (.ref D) (.type "BaseException") = some true) && (PySem.W.hasDictIn K D && insB K D)))
theorem excCB_ok {K : PySem.W.Frag} {D : Addr} (h : excCB K D = true) : L2.ExcC K D := by
  obtain ⟨h1, h⟩ := He.ba h
  obtain ⟨h2, h⟩ := He.ba h
  obtain ⟨h3, h⟩ := He.ba h
  obtain ⟨h4, h5⟩ := He.ba h
  have i := insB_ok h5
  exact ⟨He.eqO_ok h1, He.eqO_ok h2, of_decide_eq_true h3, h4, i.ha, i.hn, i.ht, i.hm⟩
abbrev AlQ : Type := He.AlD × Bool
def obsQ (fa : List He.Fa) (fn : List He.DefD) (ex : PySem.W.Frag → List Bool) (K : PySem.W.Frag) : AlQ := (He.obsD fa fn K, (ex K).all id)
def valQ (fn : List He.DefD) : AlQ := (He.valD fn, true)
def SaysQ (fa : List He.Fa) (fn : List He.DefD) (ex : PySem.W.Frag → List Bool) (K : PySem.W.Frag) : Prop := He.SaysD fa fn K ∧ (ex K).all id = true
theorem SaysQ.ex {fa : List He.Fa} {fn : List He.DefD} {ex : PySem.W.Frag → List Bool} {K : PySem.W.Frag} (c : SaysQ fa fn ex K) (i : Nat) {b : Bool} (h : (ex K)[i]? = some b) : b = true :=
  List.all_eq_true.mp c.2 b (List.mem_of_getElem? h)
def obsQG (n : Nat) (fa : List He.Fa) (fn : List He.DefD) (ex : PySem.W.Frag → List Bool) (g : Addr → Option Obj) : AlQ := obsQ fa fn ex (He.frG g (He.asD g n))
def hookQ (n : Nat) (fa : List He.Fa) (fn : List He.DefD) (ex : PySem.W.Frag → List Bool) : PySem.W.Hook where
  α := AlQ
  obs := fun s => obsQG n fa fn ex s.heap.get?
  val := fun _ => valQ fn
  says := fun _ h => ∃ K : PySem.W.Frag, K.In h ∧ SaysQ fa fn ex K
  of := fun _ _ e => ⟨_, He.frG_in, congrArg (fun z : AlQ => z.1) e, congrArg (fun z : AlQ => z.2) e⟩
  keeps := fun _ _ _ ⟨K, hK, c⟩ k => ⟨K, PySem.W.Frag.In.keeps hK k, c⟩
theorem obsQG_eq {n : Nat} {fa : List He.Fa} {fn : List He.DefD} {ex : PySem.W.Frag → List Bool} {g : Addr → Option Obj} {s : Shared} (h : ∀ a, g a = s.heap.get? a) : obsQG n fa fn ex g = (hookQ n fa fn ex).obs s := by
  have e : g = s.heap.get? := funext h
  rw [e] <;> rfl
end Od

namespace Od
open PySem PySem.Spec PyProof.Rows L2 SX
open PySem.Builtin PySem.Builtin.Str
/-! ### texts as lists of signs -/
theorem get_take_count (m : List Nat) (c i : Nat) : (m.take (i + 1)).count c = (m.take i).count c + (if m[i]? = some c then 1 else 0) := by
  rw [List.take_add_one, List.count_append]
  cases h : m[i]? with
  | none => simp
  | some d =>
    by_cases e : d = c
    · subst e; simp
    · have : ¬ (some d = some c) := fun q => e (Option.some.inj q)
      rw [if_neg this]
      simp [e]
theorem count_run (m : List Nat) (c : Nat) : ∀ (k a : Nat) (st : Array Nat × Nat), a + k = m.length + 1 → st.fst.size = (m.take a).count c → st.snd ≤ a →
    (forIn (List.range' a k) st (StrLaws.occBody (S m) (S [c]) m.length (m.length + 1))).run.fst.size = m.count c
  | 0, a, st, h, h1, h2 => by
    have e : m.take a = m := List.take_of_length_le (by omega)
    rw [e] at h1
    simpa using h1
  | k + 1, a, st, h, h1, h2 => by
    rw [List.range'_succ, List.forIn_cons]
    have ec := get_take_count m c a
    have hs : (S [c]).length = 1 := rfl
    have one := StrLaws.subAt_one (S m) c a
    have el : (S m).length = m.length := S_len m
    rw [el] at one
    have ht : (S m).cps.toList = m := rfl
    rw [ht] at one
    have hcount : (m.take a).count c ≤ m.length := Nat.le_trans (List.count_le_length) (by simp; omega)
    unfold StrLaws.occBody
    by_cases hc : m[a]? = some c
    · have q := one.mpr hc
      rw [if_pos hc] at ec
      have cond : ((st.fst.size < m.length + 1 ∧ st.snd ≤ a) ∧ a + (S [c]).length ≤ m.length) ∧ subAt (S m) (S [c]) a = true :=
        ⟨⟨⟨by omega, h2⟩, q.1⟩, q.2⟩
      rw [if_pos cond]
      exact count_run m c k (a + 1) (st.fst.push a, a + (S [c]).length) (by omega) (by simp; omega) (by rw [hs]; omega)
    · rw [if_neg hc] at ec
      have cond : ¬ (((st.fst.size < m.length + 1 ∧ st.snd ≤ a) ∧ a + (S [c]).length ≤ m.length) ∧ subAt (S m) (S [c]) a = true) := fun z => hc (one.mp ⟨z.1.2, z.2⟩)
      rw [if_neg cond]
      exact count_run m c k (a + 1) (st.fst, st.snd) (by omega) (by show st.fst.size = _; omega) (by show st.snd ≤ _; omega)
theorem count_S (m : List Nat) (c : Nat) : Txt.count (S m) (S [c]) = ((m.count c : Nat) : Int) := by
  unfold Txt.count
  rw [StrLaws.occ_eq]
  have el : (S m).length = m.length := S_len m
  rw [el, Array.length_toList]
  exact congrArg (fun z : Nat => (z : Int)) (count_run m c (m.length + 1 - 0) 0 (#[], 0) (by omega) (by simp) (Nat.le_refl _))
theorem foldl_app (m : List Nat) : ∀ (n : Nat) (acc : Array Nat), ((List.replicate n m.toArray).foldl (· ++ ·) acc).toList = acc.toList ++ (List.replicate n m).flatten
  | 0, acc => by simp
  | n + 1, acc => by
    rw [List.replicate_succ, List.foldl_cons, foldl_app m n, List.replicate_succ, List.flatten_cons]
    simp
theorem mul_S (m : List Nat) {n : Int} (h : 0 ≤ n) : Txt.mul (S m) n = S (List.replicate n.toNat m).flatten := by
  unfold Txt.mul
  by_cases h1 : n < 1
  · have e : n.toNat = 0 := by omega
    rw [if_pos h1, e]
    rfl
  · rw [if_neg h1]
    by_cases h2 : (n == 1 || (S m).length == 0) = true
    · rw [if_pos h2]
      rw [Bool.or_eq_true, beq_iff_eq, beq_iff_eq] at h2
      rcases h2 with e | e
      · subst e
        show S m = S (List.replicate 1 m).flatten
        simp
      · rw [S_len] at e
        have e2 : m = [] := List.length_eq_zero_iff.mp e
        subst e2
        have e3 : (List.replicate n.toNat ([] : List Nat)).flatten = [] := by simp
        rw [e3]
    · rw [if_neg h2]
      refine Str.ext' (Array.ext' ?_)
      rw [foldl_app]
      simp
theorem len_rep (m : List Nat) (n : Nat) : ((List.replicate n m).flatten).length = n * m.length := by
  simp [List.length_flatten]
def rMulT : R2 := fun x y H Q => ∃ (m : List Nat) (n : Int), x = .str (S m) ∧ y = .int n ∧ 0 ≤ n ∧ n ≤ 10000 ∧ m.length ≤ 100 ∧ Q (.str (S (List.replicate n.toNat m).flatten)) H
theorem op_mulT {X : Cx} : OpR X (binaryOp .Mult) rMulT := by
  intro pins s σ H x y v u Q I rx ry h
  obtain ⟨m, n, rfl, rfl, h0, h1, hm, q⟩ := h
  obtain ⟨t, rfl⟩ := rx
  obtain ⟨t', rfl⟩ := ry
  have el : (S m).length = m.length := S_len m
  refine SB.mul ⟨?_, fun _ _ => ?_, fun _ _ => ?_⟩ fun t2 k => ⟨.str (Txt.mul (S m) n), H, I.tok _, ⟨_, rfl⟩, by rw [mul_S m h0]; exact q⟩
  · have a1 : ¬ n < -(2 ^ 63 : Int) := by omega
    have a2 : ¬ n ≥ (2 ^ 63 : Int) := by omega
    rw [decide_eq_false a1, decide_eq_false a2] <;> rfl
  · rw [el]
    have hn : 0 < n := by
      rcases Int.lt_or_eq_of_le h0 with z | z
      · exact z
      · omega
    have : (100 : Int) ≤ (2 ^ 63 - 1) / n := Int.le_ediv_of_mul_le hn (by omega)
    omega
  · rw [el]
    have : m.length * n.toNat ≤ 100 * 10000 := Nat.mul_le_mul hm (by omega)
    unfold tooLong
    have e : sizeLine = 16777216 := sizeLine_eq
    simp only [decide_eq_false_iff_not, Nat.not_lt, gt_iff_lt]
    first
      | omega
      | (rw [e]; omega)
/-! ### s[::-1] of a text -/
theorem rev_S (m : List Nat) (u : Tok) : Txt.sliceBy (S m) none none (-1, u) = S m.reverse := by
  refine Str.ext' (Array.ext' ?_)
  rw [PyProof.Rows.step_rev_list]
  show _ = m.reverse
  have el : (S m).length = m.length := S_len m
  rw [el]
  refine List.ext_getElem (by simp) fun i h1 h2 => ?_
  simp only [List.getElem_map, List.getElem_range, List.getElem_reverse]
  have hi : i < m.length := by simpa using h1
  have hb : m.length - 1 - i < m.length := by omega
  show m.toArray.getD (m.length - 1 - i) 0 = _
  simp [Array.getD, hb]
end Od

namespace Od
open PySem PySem.Spec PyProof.Rows L2 SX
open PySem.Builtin PySem.Builtin.Str
section
variable {X : Cx}
def tRevS (te : TE) : TE := fun σ H Q => te σ H fun x H1 => ∃ m : List Nat, x = .str (S m) ∧ m.length ≤ 100000 ∧ Q (.str (S m.reverse)) H1
theorem pe_revS {e : Expr} {te : TE} {k : Nat} {p1 p2 p3 pos : Pos} (he : PE X e te) : PE X (.Subscript e (.Slice none none (some (.UnaryOp .USub (.Constant (.int 1) k p1) p2)) p3) pos) (tRevS te) := by
  refine ⟨fun pins s σ H Q I h => ?_⟩
  refine Subscript_ (thn (he.run pins s σ H _ I h) fun v s1 ⟨x, H1, I1, r1, q1⟩ => ?_)
  obtain ⟨m, ex, hm, q⟩ := q1
  subst ex
  obtain ⟨t, rfl⟩ := r1
  have hst : PO X (some (.UnaryOp .USub (.Constant (.int 1) k p1) p2)) (tPart (tUn (rU fun i => .int (-i)) (tC (.int 1)))) := po_some (pe_un un_neg pe_int)
  refine wpAny_Slice (thn (po_none.run pins s1 σ H1 (fun o H2 => o = none ∧ H2 = H1) I1 ⟨rfl, rfl⟩) fun vl s2 ⟨l, H2, I2, pl, el, e2⟩ => ?_)
  subst el e2
  refine thn (po_none.run pins s2 σ H2 (fun o H3 => o = none ∧ H3 = H2) I2 ⟨rfl, rfl⟩) fun vu s3 ⟨u, H3, I3, pu, eu, e3⟩ => ?_
  subst eu e3
  refine thn (hst.run pins s3 σ H3 (fun o H4 => o = some (-1) ∧ H4 = H3) I3 ⟨1, rfl, -1, rfl, rfl, rfl⟩) fun vs s4 ⟨o, H4, I4, ps, eo, e4⟩ => ?_
  subst eo e4
  have I5 : Inv X pins σ H4 { s4 with heap := s4.heap.push { cls := .type "slice", data := .fields #[vl, vu, vs] } } := I4.kept (t' := s4.toks) fun b ob q => Heap.get?_push_of_some _ q
  show wpAny (model X.prog X.w) X.A (subscriptTail e (.Slice none none (some (.UnaryOp .USub (.Constant (.int 1) k p1) p2)) p3) (.str (S m) t) (.ref s4.heap.objs.size)) (EP X pins σ Q) X.xe { s4 with heap := s4.heap.push { cls := .type "slice", data := .fields #[vl, vu, vs] } }
  refine tail_any (ops := [.ref s4.heap.objs.size, .str (S m) t]) (typeIs_str _ _ _) (F.slot_str_getitem.lookup) ?_ (by with_unfolding_all rfl)
  obtain ⟨l', e1, e2⟩ := IsPart.raw pl
  obtain ⟨u', e3, e4⟩ := IsPart.raw pu
  obtain ⟨w', e5, e6⟩ := IsPart.raw ps
  cases l' with
  | some z => cases e2
  | none =>
    cases u' with
    | some z => cases e4
    | none =>
      cases w' with
      | none => cases e6
      | some z =>
        obtain ⟨i, ti⟩ := z
        have ei : i = -1 := Option.some.inj e6
        subst ei
        subst e1 e3 e5
        refine wpAny_getItem_str_slice (l := none) (u := none) (st := some (-1, ti)) ⟨_, Heap.get?_push_size _ rfl, rfl, rfl⟩ (show ((-1 : Int) == 0) = false by decide) ?_
        have hz : (S m).length ≤ sizeLine := by rw [S_len]; exact Nat.le_trans hm (by decide)
        have q2 : Q (.str (Txt.sliceBy (S m) none none (-1, ti))) H4 := by rw [rev_S]; exact q
        exact post_val_or_str ⟨Nat.le_trans (Txt.sliceBy_le (S m) _ _ (-1, ti) (show (-1 : Int) ≠ 0 by decide)) hz, fun t' c => ⟨.str _, H4, I5.tok _, ⟨_, rfl⟩, q2⟩⟩
/-! ### enumerate(text), enumerate(tuple) -/
/-- the items as they are told by y, each in a new pair -/
def ItE (n : Nat) (y : Nat → V) : It :=
  ⟨fun i _ => i < n, fun i H v H' => ∃ T, v = .ref T ∧ H T = none ∧ H' = upd H T (.tup [.int (i : Nat), y i]), fun i _ => i = n⟩
theorem turn_enumD {P : Program} {w : World} {K : PySem.W.Frag} {elts : List Expr} {kk : Nat} {tpos : Pos} {x : Str} {t : Tok} (e it : Addr) :
    Turn P w K (.Tuple elts kk tpos) (ItE x.cps.size fun i => .str ⟨#[x.cps.getD i 0]⟩) [e, it] e (fun i h => (∃ old, IsEnum h e it ((i : Nat) : Int) old) ∧ h.IsStrIter it (strIterType x) x t i ∧ e ≠ it) where
  mem := by simp
  obj := fun i h st b hb => by
    obtain ⟨⟨old, he⟩, ⟨o, ho, hc, hd⟩, _⟩ := st
    have e' : b = e ∨ b = it := by simpa using hb
    rcases e' with z | z
    · rw [z]; exact ⟨_, he, fun v q => nomatch q⟩
    · rw [z]; exact ⟨o, ho, fun v q => by rw [hd] at q; cases q⟩
  keep := fun i h h' st k => let ⟨⟨old, he⟩, ⟨o, ho, r⟩, hne⟩ := st; ⟨⟨old, k e (by simp) _ he⟩, ⟨o, k it (by simp) o ho, r⟩, hne⟩
  item := by
    intro X hP hw hK hc i pins s σ H E I hf st hg
    subst hP hw hK
    obtain ⟨⟨old, he⟩, hit, hne⟩ := st
    have hg' : i < x.cps.size := hg
    have hel : e < s.heap.objs.size := Heap.lt_size he
    have hil : it < s.heap.objs.size := by obtain ⟨_, q, _⟩ := hit; exact Heap.lt_size q
    have D := Draws.text (prog := X.prog) (w := X.w) (A := X.A.in1) (I.ok.hd hc) it x t
    refine wpAny_pyNext_enum_itemD D he hit hg' hne (by simp; exact hne) fun y h' tk hP ho hit' hT hsz hk => ?_
    obtain ⟨c, u, hc', rfl⟩ := hP
    have ec : x.cps.getD i 0 = c := by simp [Array.getD_eq_getD_getElem?, hc']
    refine ⟨_, rfl, wpAny_letOwnedTupleGo_enum (s := { s with heap := h', toks := tk + 1 }) ho fun h'' he' sb => ?_⟩
    have hT2 : h''.get? s.heap.objs.size = some { cls := .type "tuple", data := .seq #[.int i tk, .str ⟨#[c]⟩ u] } := (sb.2 _ (Nat.ne_of_gt hel)).trans hT
    have new : ObjOk X.prog X.w (upd H s.heap.objs.size (.tup [.int (i : Nat), .str ⟨#[c]⟩])) h'' s.heap.objs.size (.tup [.int (i : Nat), .str ⟨#[c]⟩]) :=
      ⟨by show 2 ≤ sizeLine; decide, [.int i tk, .str ⟨#[c]⟩ u], .cons ⟨_, rfl⟩ (.cons ⟨_, rfl⟩ .nil), ⟨_, hT2, rfl, _, rfl⟩⟩
    have I1 : Inv X pins σ (upd H s.heap.objs.size (.tup [.int (i : Nat), .str ⟨#[c]⟩])) { s with heap := h'', toks := tk + 1 } :=
      I.turnedNew (ch := [e, it]) (fun b ob hb q => (sb.2 b (fun z => hb (by simp [z]))).trans (hk b ob (fun z => hb (by simp [z])) (fun z => hb (by simp [z])) q)) hf (Nat.le_refl _) new
    refine ⟨.ref s.heap.objs.size, _, I1, rfl, ⟨_, rfl, I.hok.fresh (Nat.le_refl _), by show _ = upd _ _ (.tup [.int (i : Nat), .str ⟨#[x.cps.getD i 0]⟩]); rw [ec]⟩, ⟨⟨.str ⟨#[c]⟩ u, ?_⟩, ?_, hne⟩, fun b hb => ?_⟩
    · have e1 : ((i + 1 : Nat) : Int) = (i : Int) + 1 := by omega
      rw [e1]; exact he'
    · obtain ⟨o, ho2, r⟩ := hit'
      exact ⟨o, (sb.2 it (Ne.symm hne)).trans ho2, r⟩
    · have hb' : b < s.heap.objs.size := by
        have e' : b = e ∨ b = it := by simpa using hb
        rcases e' with z | z
        · rw [z]; exact hel
        · rw [z]; exact hil
      rw [upd_ne (Nat.ne_of_lt hb')]
      exact (hf b hb).1
  done := by
    intro X hP hw hK hc i pins s σ H E I hf st hg
    subst hP hw hK
    obtain ⟨⟨old, he⟩, hit, hne⟩ := st
    obtain ⟨f0, f1, f2, f3, f4, f5⟩ := hf it (by simp)
    have hx : i = x.cps.size := hg
    subst hx
    have D := Draws.text (prog := X.prog) (w := X.w) (A := X.A.in1) (I.ok.hd hc) it x t
    exact wpAny_pyNext_enum_endD D he hit fun h' eb => ⟨rfl, I.turned (t' := s.toks) (fun b o hb q => eb b o hb q) f0 f1 f3 f4 f5⟩
  self := fun A i s Q E st h => let ⟨⟨_, he⟩, _⟩ := st; wpAny_pyIter_enum he h
def iEnumS (te : TA) : TI := fun σ H R => te σ H fun vs H1 => ∃ m : List Nat, vs = [.str (S m)] ∧ R (ItE m.length fun i => .str (S [m.getD i 0])) H1
theorem pi_enumS {e : Expr} {ta : TA} {p pos tpos : Pos} {elts : List Expr} {kk : Nat} (hg : Gl X "enumerate") (hm : X.mg "enumerate" = none) (ha : PA X [e] ta) (hs : starEach [e] X.env = [(false, eval e X.env)] := by rfl) :
    PI X (.Tuple elts kk tpos) (.Call (.Name "enumerate" p) [e] [] pos) (iEnumS ta) := by
  refine ⟨fun pins s σ H R I h => ?_⟩
  refine Call_ (ld_blt I hg hm boot_enumerate (PyProof.Rows.callWith_type1 (thn (ha.run pos pins s σ H _ I h) fun us s1 ⟨vs, H1, I1, r1, q1⟩ => ?_) hs rfl))
  obtain ⟨m, ex, q⟩ := q1
  subst ex
  cases r1 with
  | cons r rr =>
    cases rr
    obtain ⟨t, rfl⟩ := r
    refine call_enumerate_str fun h' he hit hsz hk => wpAny_pyIter_enum he ?_
    have I2 : Inv X pins σ H1 { s1 with heap := h' } := I1.kept (t' := s1.toks) hk
    have hJ : (ItE (S m).cps.size fun i => .str ⟨#[(S m).cps.getD i 0]⟩) = ItE m.length fun i => .str (S [m.getD i 0]) := by
      have e1 : (S m).cps.size = m.length := S_len m
      have e2 : (fun i => V.str ⟨#[(S m).cps.getD i 0]⟩) = fun i => V.str (S [m.getD i 0]) := by
        funext i
        have e3 : (S m).cps.getD i 0 = m.getD i 0 := by
          show m.toArray.getD i 0 = m.getD i 0
          simp [Array.getD_eq_getD_getElem?, List.getD_eq_getElem?_getD]
        rw [e3]
      rw [e1, e2]
    have T := turn_enumD (P := X.prog) (w := X.w) (K := X.K) (elts := elts) (kk := kk) (tpos := tpos) (x := S m) (t := t) (s1.heap.objs.size + 1) s1.heap.objs.size
    rw [hJ] at T
    refine ⟨s1.heap.objs.size + 1, [s1.heap.objs.size + 1, s1.heap.objs.size], _, _, H1, rfl, I2, T, ⟨⟨.none, he⟩, hit, Nat.succ_ne_self _⟩, fun b hb => ?_, q⟩
    have e' : b = s1.heap.objs.size + 1 ∨ b = s1.heap.objs.size := by simpa using hb
    have hle : s1.heap.objs.size ≤ b := by
      rcases e' with z | z
      · rw [z]; exact Nat.le_add_right _ _
      · rw [z]; exact Nat.le_refl _
    exact I1.fpOk hle (I1.hok.fresh hle)
theorem walk_enumE {n : Nat} {y : Nat → V} : Walk (ItE n y) n (fun _ => True) (fun i H v H' => ∃ T, v = .ref T ∧ H T = none ∧ H' = upd H T (.tup [.int (i : Nat), y i])) :=
  ⟨fun _ _ hi _ => hi, fun _ _ => rfl, fun _ _ _ _ _ _ z => z⟩
end
end Od

namespace Od
open PySem PySem.Spec PyProof.Rows L2 SX Evl
/-! ## operators by names of their own -/
def rAddI : R2 := rI0 fun i j => .int (i + j)
def rSubI : R2 := rI0 fun i j => .int (i - j)
def rMulI : R2 := rI CMul fun i j => .int (i * j)
def rModI : R2 := rI (fun _ j => 0 < j) fun i j => .int (i % j)
def rDivI : R2 := rI CDiv fun i j => .int (i / j)
def rLtI : R2 := rI0 fun i j => .bl (decide (i < j))
def rLeI : R2 := rI0 fun i j => .bl (decide (i ≤ j))
def rGtI : R2 := rI0 fun i j => .bl (decide (j < i))
def rGeI : R2 := rI0 fun i j => .bl (decide (j ≤ i))
def rEqI : R2 := rI0 fun i j => .bl (decide (i = j))
def rNeI : R2 := rI0 fun i j => .bl (!decide (i = j))
def rNegI : V → Hp → VK → Prop := rU fun i => .int (-i)
def rEqB : R2 := fun x y H Q => ∃ a b, x = .bl a ∧ y = .bl b ∧ Q (.bl (decide (a = b))) H
def rNeB : R2 := fun x y H Q => ∃ a b, x = .bl a ∧ y = .bl b ∧ Q (.bl (!decide (a = b))) H
def rEqT : R2 := fun x y H Q => ∃ a b : List Nat, x = .str (S a) ∧ y = .str (S b) ∧ Q (.bl (decide (a = b))) H
def rNeT : R2 := fun x y H Q => ∃ a b : List Nat, x = .str (S a) ∧ y = .str (S b) ∧ Q (.bl (!decide (a = b))) H
def rAddT : R2 := fun x y H Q => ∃ a b : List Nat, x = .str (S a) ∧ y = .str (S b) ∧ a.length + b.length ≤ 100000 ∧ Q (.str (S (a ++ b))) H
def rInT : R2 := fun x y H Q => ∃ (c : Nat) (m : List Nat), x = .str (S [c]) ∧ y = .str (S m) ∧ Q (.bl (decide (c ∈ m))) H
def rNotInT : R2 := fun x y H Q => ∃ (c : Nat) (m : List Nat), x = .str (S [c]) ∧ y = .str (S m) ∧ Q (.bl (!decide (c ∈ m))) H
theorem S_eq (a b : List Nat) : decide (V.str (S a) = V.str (S b)) = decide (a = b) := by
  by_cases h : a = b
  · subst h; simp
  · rw [decide_eq_false h, decide_eq_false fun e => h (S_inj (V.str.inj e))]
section
variable {X : Cx}
theorem op_addI : OpR X (binaryOp .Add) rAddI := op_add
theorem op_subI : OpR X (binaryOp .Sub) rSubI := op_sub
theorem op_mulI : OpR X (binaryOp .Mult) rMulI := op_mul
theorem op_modI : OpR X (binaryOp .Mod) rModI := op_mod
theorem op_divI : OpR X (binaryOp .FloorDiv) rDivI := op_fdiv
theorem op_ltI : OpR X (compareOp .Lt) rLtI := op_lt
theorem op_leI : OpR X (compareOp .LtE) rLeI := op_le
theorem op_gtI : OpR X (compareOp .Gt) rGtI := op_gt
theorem op_geI : OpR X (compareOp .GtE) rGeI := op_ge
theorem un_negI : UnR X (unaryOp .USub) rNegI := un_neg
theorem dec_int (i j : Int) : decide (V.int i = V.int j) = decide (i = j) := by
  by_cases h : i = j
  · subst h; simp
  · rw [decide_eq_false h, decide_eq_false fun e => h (V.int.inj e)]
theorem dec_bl (i j : Bool) : decide (V.bl i = V.bl j) = decide (i = j) := by
  by_cases h : i = j
  · subst h; simp
  · rw [decide_eq_false h, decide_eq_false fun e => h (V.bl.inj e)]
theorem op_eqI : OpR X (compareOp .Eq) rEqI := fun pins s σ H x y v u Q I rx ry h => by
  obtain ⟨i, j, rfl, rfl, q⟩ := h
  exact op_eq pins s σ H _ _ v u Q I rx ry ⟨rfl, by rw [dec_int]; exact q⟩
theorem op_neI : OpR X (compareOp .NotEq) rNeI := fun pins s σ H x y v u Q I rx ry h => by
  obtain ⟨i, j, rfl, rfl, q⟩ := h
  exact op_ne pins s σ H _ _ v u Q I rx ry ⟨rfl, by rw [dec_int]; exact q⟩
theorem op_eqB : OpR X (compareOp .Eq) rEqB := fun pins s σ H x y v u Q I rx ry h => by
  obtain ⟨i, j, rfl, rfl, q⟩ := h
  exact op_eq pins s σ H _ _ v u Q I rx ry ⟨rfl, by rw [dec_bl]; exact q⟩
theorem op_neB : OpR X (compareOp .NotEq) rNeB := fun pins s σ H x y v u Q I rx ry h => by
  obtain ⟨i, j, rfl, rfl, q⟩ := h
  exact op_ne pins s σ H _ _ v u Q I rx ry ⟨rfl, by rw [dec_bl]; exact q⟩
theorem op_eqT : OpR X (compareOp .Eq) rEqT := fun pins s σ H x y v u Q I rx ry h => by
  obtain ⟨i, j, rfl, rfl, q⟩ := h
  exact op_eq pins s σ H _ _ v u Q I rx ry ⟨rfl, by rw [S_eq]; exact q⟩
theorem op_neT : OpR X (compareOp .NotEq) rNeT := fun pins s σ H x y v u Q I rx ry h => by
  obtain ⟨i, j, rfl, rfl, q⟩ := h
  exact op_ne pins s σ H _ _ v u Q I rx ry ⟨rfl, by rw [S_eq]; exact q⟩
theorem op_addT : OpR X (binaryOp .Add) rAddT := fun pins s σ H x y v u Q I rx ry h => by
  obtain ⟨a, b, rfl, rfl, hl, q⟩ := h
  exact op_add_str pins s σ H _ _ v u Q I rx ry ⟨_, _, rfl, rfl, by rw [S_len, S_len]; exact sz_of hl, by rw [S_cat]; exact q⟩
theorem op_inT : OpR X (compareOp .In) rInT := fun pins s σ H x y v u Q I rx ry h => by
  obtain ⟨c, m, rfl, rfl, q⟩ := h
  exact op_in_sign pins s σ H _ _ v u Q I rx ry ⟨c, S m, rfl, rfl, q⟩
theorem op_notInT : OpR X (compareOp .NotIn) rNotInT := fun pins s σ H x y v u Q I rx ry h => by
  obtain ⟨c, m, rfl, rfl, q⟩ := h
  exact op_notIn_sign pins s σ H _ _ v u Q I rx ry ⟨c, S m, rfl, rfl, q⟩
/-- a written text by its signs; a module's constants -/
theorem pe_strS {x : Str} {m : List Nat} {j : Nat} {pos : Pos} (e : x = S m) : PE X (.Constant (.str x) j pos) (tC (.str (S m))) := by
  rw [← e]
  exact pe_str
theorem pe_gS {x z : Str} {m : List Nat} {pos : Pos} (h : ∃ t, X.mg x = some (.str z t)) (e : z = S m) (hg : Gl X x := by rfl) (hd : (x == ("__debug__" : Str)) = false := by decide) : PE X (.Name x pos) (tC (.str (S m))) := by
  obtain ⟨t, h⟩ := h
  rw [← e]
  exact pe_glob hg h ⟨t, rfl⟩ hd
theorem pe_gI {x : Str} {z : Int} {pos : Pos} (h : ∃ t, X.mg x = some (.int z t)) (hg : Gl X x := by rfl) (hd : (x == ("__debug__" : Str)) = false := by decide) : PE X (.Name x pos) (tC (.int z)) := by
  obtain ⟨t, h⟩ := h
  exact pe_glob hg h ⟨t, rfl⟩ hd
theorem pe_gR {x : Str} {a : Addr} {pos : Pos} (h : X.mg x = some (.ref a)) (hg : Gl X x := by rfl) (hd : (x == ("__debug__" : Str)) = false := by decide) : PE X (.Name x pos) (tC (.ref a)) :=
  pe_glob hg h rfl hd
theorem pe_gTy {x : Str} {n : String} {pos : Pos} (h : X.mg x = none) (hv : bootBuiltins x = some (.type n) := by decide +kernel) (hg : Gl X x := by rfl) (hn : x ≠ "__name__" := by decide) (hd : (x == ("__debug__" : Str)) = false := by decide) : PE X (.Name x pos) (tC (.ty n)) :=
  pe_bltn hg h hv rfl hn hd
end
/-! ## built-in functions -/
def r1 (f : V → Hp → VK → Prop) : List V → Hp → VK → Prop := fun vs H Q => ∃ x, vs = [x] ∧ f x H Q
def rLenT : List V → Hp → VK → Prop := fun vs H Q => ∃ m : List Nat, vs = [.str (S m)] ∧ m.length ≤ 100000 ∧ Q (.int (m.length : Nat)) H
def rLenQ (K : PySem.W.Frag) : List V → Hp → VK → Prop := fun vs H Q => ∃ p ys, vs = [.ref p] ∧ (SqL K H p ys ∨ SqT K H p ys) ∧ Q (.int (ys.length : Nat)) H
def rMaxI : List V → Hp → VK → Prop := fun vs H Q => ∃ i j : Int, vs = [.int i, .int j] ∧ Q (.int (max i j)) H
def rMinI : List V → Hp → VK → Prop := fun vs H Q => ∃ i j : Int, vs = [.int i, .int j] ∧ Q (.int (min i j)) H
def rListOf (K : PySem.W.Frag) : List V → Hp → VK → Prop := fun vs H Q => ∃ p ys, vs = [.ref p] ∧ (SqL K H p ys ∨ SqT K H p ys) ∧ ∀ l, H l = none → Q (.ref l) (upd H l (.lst ys))
def rTupOf (K : PySem.W.Frag) : List V → Hp → VK → Prop := fun vs H Q => ∃ p ys, vs = [.ref p] ∧ SqL K H p ys ∧ ∀ l, H l = none → Q (.ref l) (upd H l (.tup ys))
section
variable {X : Cx}
theorem call_lenT : CallR X (.builtin "len") rLenT := fun pins s σ H xs us Q I r h => by
  obtain ⟨m, rfl, hm, q⟩ := h
  refine call_len_str pins s σ H _ us Q I r ⟨S m, rfl, by rw [S_len]; exact sz_of hm, ?_⟩
  rw [S_len]
  exact q
theorem call_lenQ : CallR X (.builtin "len") (rLenQ X.K) := call_len_seq
theorem call_maxI (hc : X.calm = true) : CallR X (.builtin "max") rMaxI := fun pins s σ H xs us Q I r h => by
  obtain ⟨i, j, rfl, q⟩ := h
  refine call_max2 hc pins s σ H _ us Q I r ⟨i, j, rfl, ?_⟩
  have e : (if j > i then j else i) = max i j := by
    split <;> omega
  rw [e]
  exact q
theorem call_minI (hc : X.calm = true) : CallR X (.builtin "min") rMinI := fun pins s σ H xs us Q I r h => by
  obtain ⟨i, j, rfl, q⟩ := h
  refine call_min2 hc pins s σ H _ us Q I r ⟨i, j, rfl, ?_⟩
  have e : (if j < i then j else i) = min i j := by
    split <;> omega
  rw [e]
  exact q
theorem call_listOf : CallR X (.type "list") (rListOf X.K) := call_list_of
theorem call_tupOf : CallR X (.type "tuple") (rTupOf X.K) := fun pins s σ H xs us Q I r h => by
  obtain ⟨p, ys, rfl, hp, q⟩ := h
  exact call_tuple_of pins s σ H _ us Q I r ⟨p, ys, rfl, .inl ⟨hp, q⟩⟩
end
/-! ## methods of texts -/
def rCountT : V → List V → Hp → VK → Prop := fun x xs H Q => ∃ (m : List Nat) (c : Nat), x = .str (S m) ∧ xs = [.str (S [c])] ∧ Q (.int (m.count c : Nat)) H
section
variable {X : Cx}
theorem mt_countT : MtR X "str.count" rCountT := fun pins s σ H x xs v us Q I rx rxs h => by
  obtain ⟨m, c, rfl, rfl, q⟩ := h
  exact mt_count pins s σ H _ _ v us Q I rx rxs ⟨S m, S [c], rfl, rfl, by rw [count_S]; exact q⟩
end
/-! ## what evaluates to what -/
section
variable {K : PySem.W.Frag} {σ : L2.St} {H H' : Hp} {ta tb tc te tx : TE} {t u : TT} {x y z v : V} {i j k : Int} {a b m : List Nat} {xs ys : List V} {p : Addr}
theorem ev_addI (ha : Ev ta σ H (.int i)) (hb : Ev tb σ H (.int j)) : Ev (tOp rAddI ta tb) σ H (.int (i + j)) := ev_op ha hb rv_I0
theorem ev_subI (ha : Ev ta σ H (.int i)) (hb : Ev tb σ H (.int j)) : Ev (tOp rSubI ta tb) σ H (.int (i - j)) := ev_op ha hb rv_I0
theorem ev_mulI (ha : Ev ta σ H (.int i)) (hb : Ev tb σ H (.int j)) (hc : CMul i j) : Ev (tOp rMulI ta tb) σ H (.int (i * j)) := ev_op ha hb (rv_I hc)
theorem ev_modI (ha : Ev ta σ H (.int i)) (hb : Ev tb σ H (.int j)) (hc : 0 < j) : Ev (tOp rModI ta tb) σ H (.int (i % j)) := ev_op ha hb (rv_I hc)
theorem ev_divI (ha : Ev ta σ H (.int i)) (hb : Ev tb σ H (.int j)) (hc : CDiv i j) : Ev (tOp rDivI ta tb) σ H (.int (i / j)) := ev_op ha hb (rv_I hc)
theorem ev_ltI (ha : Ev ta σ H (.int i)) (hb : Ev tb σ H (.int j)) : Ev (tOp rLtI ta tb) σ H (.bl (decide (i < j))) := ev_op ha hb rv_I0
theorem ev_leI (ha : Ev ta σ H (.int i)) (hb : Ev tb σ H (.int j)) : Ev (tOp rLeI ta tb) σ H (.bl (decide (i ≤ j))) := ev_op ha hb rv_I0
theorem ev_gtI (ha : Ev ta σ H (.int i)) (hb : Ev tb σ H (.int j)) : Ev (tOp rGtI ta tb) σ H (.bl (decide (j < i))) := ev_op ha hb rv_I0
theorem ev_geI (ha : Ev ta σ H (.int i)) (hb : Ev tb σ H (.int j)) : Ev (tOp rGeI ta tb) σ H (.bl (decide (j ≤ i))) := ev_op ha hb rv_I0
theorem ev_eqI (ha : Ev ta σ H (.int i)) (hb : Ev tb σ H (.int j)) : Ev (tOp rEqI ta tb) σ H (.bl (decide (i = j))) := ev_op ha hb rv_I0
theorem ev_neI (ha : Ev ta σ H (.int i)) (hb : Ev tb σ H (.int j)) : Ev (tOp rNeI ta tb) σ H (.bl (!decide (i = j))) := ev_op ha hb rv_I0
theorem ev_negI (ha : Ev ta σ H (.int i)) : Ev (tUn rNegI ta) σ H (.int (-i)) := ev_un ha ru_neg
theorem ev_eqB {a b : Bool} (ha : Ev ta σ H (.bl a)) (hb : Ev tb σ H (.bl b)) : Ev (tOp rEqB ta tb) σ H (.bl (decide (a = b))) := ev_op ha hb fun H1 _ _ q => ⟨a, b, rfl, rfl, q H1 (Ex.refl H1)⟩
theorem ev_neB {a b : Bool} (ha : Ev ta σ H (.bl a)) (hb : Ev tb σ H (.bl b)) : Ev (tOp rNeB ta tb) σ H (.bl (!decide (a = b))) := ev_op ha hb fun H1 _ _ q => ⟨a, b, rfl, rfl, q H1 (Ex.refl H1)⟩
theorem ev_eqT (ha : Ev ta σ H (.str (S a))) (hb : Ev tb σ H (.str (S b))) : Ev (tOp rEqT ta tb) σ H (.bl (decide (a = b))) := ev_op ha hb fun H1 _ _ q => ⟨a, b, rfl, rfl, q H1 (Ex.refl H1)⟩
theorem ev_neT (ha : Ev ta σ H (.str (S a))) (hb : Ev tb σ H (.str (S b))) : Ev (tOp rNeT ta tb) σ H (.bl (!decide (a = b))) := ev_op ha hb fun H1 _ _ q => ⟨a, b, rfl, rfl, q H1 (Ex.refl H1)⟩
theorem ev_addT (ha : Ev ta σ H (.str (S a))) (hb : Ev tb σ H (.str (S b))) (hl : a.length + b.length ≤ 100000) : Ev (tOp rAddT ta tb) σ H (.str (S (a ++ b))) := ev_op ha hb fun H1 _ _ q => ⟨a, b, rfl, rfl, hl, q H1 (Ex.refl H1)⟩
theorem ev_mulT (ha : Ev ta σ H (.str (S m))) (hb : Ev tb σ H (.int i)) (h0 : 0 ≤ i) (h1 : i ≤ 10000) (hl : m.length ≤ 100) : Ev (tOp rMulT ta tb) σ H (.str (S (List.replicate i.toNat m).flatten)) := ev_op ha hb fun H1 _ _ q => ⟨m, i, rfl, rfl, h0, h1, hl, q H1 (Ex.refl H1)⟩
theorem ev_inT {c : Nat} (ha : Ev ta σ H (.str (S [c]))) (hb : Ev tb σ H (.str (S m))) : Ev (tOp rInT ta tb) σ H (.bl (decide (c ∈ m))) := ev_op ha hb fun H1 _ _ q => ⟨c, m, rfl, rfl, q H1 (Ex.refl H1)⟩
theorem ev_notInT {c : Nat} (ha : Ev ta σ H (.str (S [c]))) (hb : Ev tb σ H (.str (S m))) : Ev (tOp rNotInT ta tb) σ H (.bl (!decide (c ∈ m))) := ev_op ha hb fun H1 _ _ q => ⟨c, m, rfl, rfl, q H1 (Ex.refl H1)⟩
theorem ite_and {p s : Bool} {A : Prop} {Q : V → Prop} (h : (Q (.bl s) → A)) (q : Q (.bl (p && s))) : if p = true then A else Q (.bl false) := by
  cases p with
  | true => rw [if_pos rfl]; exact h q
  | false => rw [if_neg Bool.false_ne_true]; exact q
theorem ev_leLt (ha : Ev ta σ H (.int i)) (hb : Ev tb σ H (.int j)) (hc : Ev tc σ H (.int k)) : Ev (tChain rLeI rLtI ta tb tc) σ H (.bl (decide (i ≤ j) && decide (j < k))) := fun H1 e Q q =>
  ha H1 e _ fun H2 e2 => hb H2 (e.trans e2) _ fun H3 e3 => ⟨i, j, rfl, rfl, _, rfl, by
    by_cases h : i ≤ j
    · rw [if_pos (decide_eq_true h)]
      rw [decide_eq_true h, Bool.true_and] at q
      exact hc H3 ((e.trans e2).trans e3) _ fun H4 e4 => ⟨j, k, rfl, rfl, q H4 ((e2.trans e3).trans e4)⟩
    · rw [if_neg (by rw [decide_eq_false h]; exact Bool.false_ne_true)]
      rw [decide_eq_false h, Bool.false_and] at q
      exact q H3 (e2.trans e3)⟩
theorem ev_ltLe (ha : Ev ta σ H (.int i)) (hb : Ev tb σ H (.int j)) (hc : Ev tc σ H (.int k)) : Ev (tChain rLtI rLeI ta tb tc) σ H (.bl (decide (i < j) && decide (j ≤ k))) := fun H1 e Q q =>
  ha H1 e _ fun H2 e2 => hb H2 (e.trans e2) _ fun H3 e3 => ⟨i, j, rfl, rfl, _, rfl, by
    by_cases h : i < j
    · rw [if_pos (decide_eq_true h)]
      rw [decide_eq_true h, Bool.true_and] at q
      exact hc H3 ((e.trans e2).trans e3) _ fun H4 e4 => ⟨j, k, rfl, rfl, q H4 ((e2.trans e3).trans e4)⟩
    · rw [if_neg (by rw [decide_eq_false h]; exact Bool.false_ne_true)]
      rw [decide_eq_false h, Bool.false_and] at q
      exact q H3 (e2.trans e3)⟩
theorem ev_leLe (ha : Ev ta σ H (.int i)) (hb : Ev tb σ H (.int j)) (hc : Ev tc σ H (.int k)) : Ev (tChain rLeI rLeI ta tb tc) σ H (.bl (decide (i ≤ j) && decide (j ≤ k))) := fun H1 e Q q =>
  ha H1 e _ fun H2 e2 => hb H2 (e.trans e2) _ fun H3 e3 => ⟨i, j, rfl, rfl, _, rfl, by
    by_cases h : i ≤ j
    · rw [if_pos (decide_eq_true h)]
      rw [decide_eq_true h, Bool.true_and] at q
      exact hc H3 ((e.trans e2).trans e3) _ fun H4 e4 => ⟨j, k, rfl, rfl, q H4 ((e2.trans e3).trans e4)⟩
    · rw [if_neg (by rw [decide_eq_false h]; exact Bool.false_ne_true)]
      rw [decide_eq_false h, Bool.false_and] at q
      exact q H3 (e2.trans e3)⟩
theorem ev_revS (ha : Ev te σ H (.str (S m))) (hm : m.length ≤ 100000) : Ev (tRevS te) σ H (.str (S m.reverse)) := fun H1 e Q q => ha H1 e _ fun H2 e2 => ⟨m, rfl, hm, q H2 e2⟩
/-! calls of built-ins -/
theorem ev_lenT (ha : Ev ta σ H (.str (S m))) (hm : m.length ≤ 100000) : Ev (tCB rLenT (tCons ta tNil)) σ H (.int (m.length : Nat)) := fun H1 e Q q => ha H1 e _ fun H2 e2 => ⟨m, rfl, hm, q H2 e2⟩
theorem ev_lenQ (ha : Ev ta σ H (.ref p)) (h : SqL K H p xs) : Ev (tCB (rLenQ K) (tCons ta tNil)) σ H (.int (xs.length : Nat)) := fun H1 e Q q =>
  ha H1 e _ fun H2 e2 => ⟨p, xs, rfl, .inl (ex_l (e.trans e2) h), q H2 e2⟩
theorem ev_lenQN (ha : EvL ta σ H xs) : Ev (tCB (rLenQ K) (tCons ta tNil)) σ H (.int (xs.length : Nat)) := fun H1 e Q q =>
  ha H1 e _ fun p H2 _ e2 h2 => ⟨p, xs, rfl, .inl (sq_of h2), q H2 e2⟩
theorem ev_max (ha : Ev ta σ H (.int i)) (hb : Ev tb σ H (.int j)) : Ev (tCB rMaxI (tCons ta (tCons tb tNil))) σ H (.int (max i j)) := fun H1 e Q q =>
  ha H1 e _ fun H2 e2 => hb H2 (e.trans e2) _ fun H3 e3 => ⟨i, j, rfl, q H3 (e2.trans e3)⟩
theorem ev_min (ha : Ev ta σ H (.int i)) (hb : Ev tb σ H (.int j)) : Ev (tCB rMinI (tCons ta (tCons tb tNil))) σ H (.int (min i j)) := fun H1 e Q q =>
  ha H1 e _ fun H2 e2 => hb H2 (e.trans e2) _ fun H3 e3 => ⟨i, j, rfl, q H3 (e2.trans e3)⟩
theorem ev_allN {bs : List Bool} (ha : EvL ta σ H (bs.map V.bl)) : Ev (tCB (rAll K) (tCons ta tNil)) σ H (.bl (bs.all id)) := fun H1 e Q q =>
  ha H1 e _ fun p H2 _ e2 h2 => ⟨p, bs, rfl, sq_of h2, q H2 e2⟩
theorem ev_anyN {bs : List Bool} (ha : EvL ta σ H (bs.map V.bl)) : Ev (tCB (rAny K) (tCons ta tNil)) σ H (.bl (bs.any id)) := fun H1 e Q q =>
  ha H1 e _ fun p H2 _ e2 h2 => ⟨p, bs, rfl, sq_of h2, q H2 e2⟩
theorem el_listOf (ha : Ev ta σ H (.ref p)) (h : SqL K H p xs) : EvL (tCB (rListOf K) (tCons ta tNil)) σ H xs := fun H1 e Q q =>
  ha H1 e _ fun H2 e2 => ⟨p, xs, rfl, .inl (ex_l (e.trans e2) h), fun l hl => q l _ (fresh_back e2 hl) (e2.trans (Ex.new hl)) upd_same⟩
theorem ev_isi {c : V} {tt uu : Value} {bb : Bool} (ha : Ev ta σ H x) (hb : Ev tb σ H c) (hc : ClsV c uu) (ht : ∀ H1, Ex H H1 → TyX K H1 x tt) (hk : PySem.W.kitOne K tt uu = some bb) : Ev (tCB (rIsi K) (tCons ta (tCons tb tNil))) σ H (.bl bb) := fun H1 e Q q =>
  ha H1 e _ fun H2 e2 => hb H2 (e.trans e2) _ fun H3 e3 => ⟨x, c, tt, uu, bb, rfl, hc, ht H3 ((e.trans e2).trans e3), hk, q H3 (e2.trans e3)⟩
/-! methods -/
theorem ev_countT {c : Nat} (ha : Ev ta σ H (.str (S m))) (hb : Ev tb σ H (.str (S [c]))) : Ev (tM1 rCountT ta tb) σ H (.int (m.count c : Nat)) := fun H1 e Q q =>
  ha H1 e _ fun H2 e2 => ⟨⟨_, rfl⟩, hb H2 (e.trans e2) _ fun H3 e3 => ⟨m, c, rfl, rfl, q H3 (e2.trans e3)⟩⟩
/-! items -/
theorem ev_ixL {n : Nat} (ha : Ev ta σ H (.ref p)) (hb : Ev tb σ H (.int (n : Nat))) (h : SqL K H p xs) (hn : xs[n]? = some v) : Ev (tOp (rIxL K) ta tb) σ H v := ev_op ha hb (rv_ixL h (atI_nat hn))
theorem ev_ixT {n : Nat} (ha : Ev ta σ H (.ref p)) (hb : Ev tb σ H (.int (n : Nat))) (h : SqT K H p xs) (hn : xs[n]? = some v) : Ev (tOp (rIxT K) ta tb) σ H v := ev_op ha hb (rv_ixT h (atI_nat hn))
/-- an item of a tuple just written -/
theorem ev_ixU {n : Nat} (ha : EvU ta σ H xs) (hb : Ev tb σ H (.int (n : Nat))) (hn : xs[n]? = some v) : Ev (tOp (rIxT K) ta tb) σ H v := fun H1 e Q q =>
  ha H1 e _ fun p H2 _ e2 hp => hb H2 (e.trans e2) _ fun H3 e3 => rv_ixT (st_of (e3 p _ hp)) (atI_nat hn) H3 (Ex.refl H3) Q fun H4 e4 => q H4 ((e2.trans e3).trans e4)
theorem ev_ixS {n : Nat} (ha : Ev ta σ H (.str (S m))) (hb : Ev tb σ H (.int (n : Nat))) (hl : m.length ≤ 100000) (hn : n < m.length) : Ev (tOp rIxS ta tb) σ H (.str (S [m.getD n 0])) := by
  have e : m[n]? = some (m.getD n 0) := by simp [List.getD_eq_getElem?_getD, List.getElem?_eq_getElem hn]
  exact ev_op ha hb (rv_ixS (by rw [S_len]; exact hl) (atI_nat (xs := m) e))
theorem ev_fld {C dx : Addr} {fs : List (Str × V)} {f : Str} (ha : Ev ta σ H (.ref p)) (h : H p = some (.ins C dx fs)) (c : Cls K C) (n : NoAttr K C f) (l : fs.lookup f = some v) : Ev (tFld K ta f) σ H v := fun H1 e Q q =>
  ha H1 e _ fun H2 e2 => ⟨p, C, dx, fs, v, rfl, e2 _ _ (e _ _ h), c, n, l, q H2 e2⟩
theorem ev_meth {C dx : Addr} {fs : List (Str × V)} {f : Str} {sp : Sp} {tr : TA} {vs : List V} {E : XK} (ha : Ev ta σ H (.ref p)) (h : H p = some (.ins C dx fs)) (l : fs.lookup f = none) (hr : EvA tr σ H vs) (hs : SpV sp (.ref p :: (vs ++ [])) H v) : Ev (tMeth C f sp [] E ta tr) σ H v := fun H1 e Q q =>
  ha H1 e _ fun H2 e2 => ⟨p, dx, fs, rfl, e2 _ _ (e _ _ h), l, hr H2 (e.trans e2) _ fun H3 e3 => hs H3 ((e.trans e2).trans e3) Q (fun H4 e4 => q H4 ((e2.trans e3).trans e4)) E⟩
theorem ev_call0 {sp : Sp} {vs : List V} {E : XK} {tr : TA} (h : EvA tr σ H vs) (hs : SpV sp (vs ++ []) H z) : Ev (tCall sp [] E tr) σ H z := ev_call h hs
theorem ev_in {neg : Bool} (ha : Ev ta σ H x) (hb : Ev tb σ H (.ref p)) (h : SqL K H p xs) (hx : flatV x = true) (hf : xs.all flatV = true) : Ev (tOp (rIn K neg) ta tb) σ H (.bl (if neg then !inV x xs else inV x xs)) := ev_op ha hb (rv_inL h hx hf)
end
/-! ## slices -/
section
variable {K : PySem.W.Frag} {σ : L2.St} {H H' : Hp} {te : TE} {tl th : TO} {m : List Nat} {i j : Int} {xs : List V} {p : Addr}
theorem cutV_to {xs : List V} {i : Int} (h : 0 ≤ i) : cutV xs none (some i) = xs.take i.toNat := by
  obtain ⟨n, rfl⟩ := Int.eq_ofNat_of_zero_le h
  unfold cutV
  rw [HT.sIx_none, show HT.sIx xs.length xs.length (some (n : Int)) = min n xs.length from HT.sIx_nat xs.length xs.length n]
  rw [List.drop_zero, Nat.sub_zero, Int.toNat_natCast]
  rcases Nat.le_total n xs.length with q | q
  · rw [Nat.min_eq_left q]
  · rw [Nat.min_eq_right q, List.take_length, List.take_of_length_le q]
theorem cutV_both {xs : List V} {i j : Int} (h : 0 ≤ i) (h2 : i ≤ j) : cutV xs (some i) (some j) = (xs.drop i.toNat).take (j - i).toNat := by
  obtain ⟨n, rfl⟩ := Int.eq_ofNat_of_zero_le h
  obtain ⟨k, rfl⟩ := Int.eq_ofNat_of_zero_le (Int.le_trans h h2)
  unfold cutV
  rw [show HT.sIx xs.length xs.length (some (k : Int)) = min k xs.length from HT.sIx_nat xs.length xs.length k, show HT.sIx xs.length 0 (some (n : Int)) = min n xs.length from HT.sIx_nat xs.length 0 n]
  have e : ((k : Int) - (n : Int)).toNat = k - n := by omega
  rw [e, Int.toNat_natCast]
  rcases Nat.le_total n xs.length with q | q
  · rw [Nat.min_eq_left q]
    rcases Nat.le_total k xs.length with q2 | q2
    · rw [Nat.min_eq_left q2]
    · rw [Nat.min_eq_right q2, List.take_of_length_le (by simp), List.take_of_length_le (by simp; omega)]
  · rw [Nat.min_eq_right q, List.drop_length, List.drop_eq_nil_of_le q, List.take_nil, List.take_nil]
theorem cutV_from {xs : List V} {i : Int} (h : 0 ≤ i) : cutV xs (some i) none = xs.drop i.toNat := by
  obtain ⟨n, rfl⟩ := Int.eq_ofNat_of_zero_le h
  unfold cutV
  rw [HT.sIx_none, show HT.sIx xs.length 0 (some (n : Int)) = min n xs.length from HT.sIx_nat xs.length 0 n, Int.toNat_natCast]
  rcases Nat.le_total n xs.length with q | q
  · rw [Nat.min_eq_left q, List.take_of_length_le (by simp)]
  · rw [Nat.min_eq_right q, List.drop_length, List.drop_eq_nil_of_le q, List.take_nil]
theorem el_slTo (h : Ev te σ H (.ref p)) (h2 : EvO th σ H (some i)) (hs : SqL K H p xs) (hi : 0 ≤ i) : EvL (tSl (rSlL K) te tNoPart th) σ H (xs.take i.toNat) := by
  rw [← cutV_to hi]
  exact el_sl h eo_none h2 hs
theorem el_slBoth (h : Ev te σ H (.ref p)) (h1 : EvO tl σ H (some i)) (h2 : EvO th σ H (some j)) (hs : SqL K H p xs) (hi : 0 ≤ i) (hj : i ≤ j) : EvL (tSl (rSlL K) te tl th) σ H ((xs.drop i.toNat).take (j - i).toNat) := by
  rw [← cutV_both hi hj]
  exact el_sl h h1 h2 hs
theorem el_slFrom (h : Ev te σ H (.ref p)) (h1 : EvO tl σ H (some i)) (hs : SqL K H p xs) (hi : 0 ≤ i) : EvL (tSl (rSlL K) te tl tNoPart) σ H (xs.drop i.toNat) := by
  rw [← cutV_from hi]
  exact el_sl h h1 eo_none hs
theorem ev_slTo (h : Ev te σ H (.str (S m))) (h2 : EvO th σ H (some i)) (hi : 0 ≤ i) (hm : m.length ≤ 100000) : Ev (tSl C8.rSlX te tNoPart th) σ H (.str (S (m.take i.toNat))) := fun H1 e Q q =>
  h H1 e _ fun H2 e2 => h2 H2 (e.trans e2) _ fun H3 e3 => ⟨S m, rfl, by rw [S_len]; exact sz_of hm, by rw [slice_to hi]; exact q H3 (e2.trans e3)⟩
theorem ev_slFrom (h : Ev te σ H (.str (S m))) (h2 : EvO tl σ H (some i)) (hi : 0 ≤ i) (hm : m.length ≤ 100000) : Ev (tSl C8.rSlX te tl tNoPart) σ H (.str (S (m.drop i.toNat))) := fun H1 e Q q =>
  h H1 e _ fun H2 e2 => h2 H2 (e.trans e2) _ fun H3 e3 => ⟨S m, rfl, by rw [S_len]; exact sz_of hm, by rw [slice_from hi]; exact q H3 (e2.trans e3)⟩
end
end Od

namespace Od
open PySem PySem.Spec PyProof.Rows L2 SX Evl
/-! ## from any heap that knows H on -/
abbrev Go (H : Hp) (p : Hp → Prop) : Prop := ∀ H1, Ex H H1 → p H1
theorem Go.mono {H H' : Hp} {p : Hp → Prop} (h : Go H p) (e : Ex H H') : Go H' p := fun H1 e1 => h H1 (e.trans e1)
theorem Go.here {H : Hp} {p : Hp → Prop} (h : Go H p) : p H := h H (Ex.refl H)
def NewL (xs : List V) (H : Hp) (Q : VK) : Prop := ∀ p, H p = none → Go (upd H p (.lst xs)) (Q (.ref p))
def NewU (xs : List V) (H : Hp) (Q : VK) : Prop := ∀ p, H p = none → Go (upd H p (.tup xs)) (Q (.ref p))
theorem ex_upd {H H2 : Hp} {p : Addr} {o : HO} (e : Ex H H2) (h : H2 p = some o) : Ex (upd H p o) H2 := fun a u ha => by
  by_cases q : a = p
  · subst q
    rw [upd_same] at ha
    rw [h]
    exact ha
  · rw [upd_ne q] at ha
    exact e a u ha
theorem ex_upd2 {H H2 : Hp} {p : Addr} {o : HO} (e : Ex H H2) : Ex (upd H p o) (upd H2 p o) := fun a u ha => by
  by_cases q : a = p
  · subst q
    rw [upd_same] at ha ⊢
    exact ha
  · rw [upd_ne q] at ha ⊢
    exact e a u ha
theorem NewL.mono {xs : List V} {H H' : Hp} {Q : VK} (h : NewL xs H Q) (e : Ex H H') : NewL xs H' Q := fun p hp => (h p (fresh_back e hp)).mono (ex_upd2 e)
theorem NewU.mono {xs : List V} {H H' : Hp} {Q : VK} (h : NewU xs H Q) (e : Ex H H') : NewU xs H' Q := fun p hp => (h p (fresh_back e hp)).mono (ex_upd2 e)
/-- evaluates to some value, in some heap, of which R holds -/
def EvR (te : TE) (σ : L2.St) (H : Hp) (R : V → Hp → Prop) : Prop := ∀ H1, Ex H H1 → ∀ Q : VK, (∀ v H2, Ex H1 H2 → R v H2 → Q v H2) → te σ H1 Q
section
variable {K : PySem.W.Frag} {σ : L2.St} {H H' : Hp} {ta tb tc te tx : TE} {t u : TT} {x y z v w : V} {D : Ends} {tu tw tz : TS} {g : TG} {i j : Nat} {xs ys : List V} {tr : TA} {R : V → Hp → Prop}
theorem EvR.mono (e : Ex H H') (h : EvR te σ H R) : EvR te σ H' R := fun H1 a Q q => h H1 (e.trans a) Q q
theorem go_asg (h : Ev te σ H v) (k : Go H (tz D (σ.set i (some v)))) : Go H (tSeq (tAsg te (gName i)) tz D σ) := fun H1 e => h H1 e _ fun H2 e2 => k H2 (e.trans e2)
theorem go_asgL (h : EvL te σ H xs) (k : ∀ p, H p = none → Go (upd H p (.lst xs)) (tz D (σ.set i (some (.ref p))))) : Go H (tSeq (tAsg te (gName i)) tz D σ) := fun H1 e => h H1 e _ fun p H2 hp e2 h2 => k p (fresh_back e hp) H2 (ex_upd (e.trans e2) h2)
theorem go_asgU (h : EvU te σ H xs) (k : ∀ p, H p = none → Go (upd H p (.tup xs)) (tz D (σ.set i (some (.ref p))))) : Go H (tSeq (tAsg te (gName i)) tz D σ) := fun H1 e => h H1 e _ fun p H2 hp e2 h2 => k p (fresh_back e hp) H2 (ex_upd (e.trans e2) h2)
theorem go_asgR (h : EvR te σ H R) (k : ∀ v H2, Ex H H2 → R v H2 → Go H2 (tz D (σ.set i (some v)))) : Go H (tSeq (tAsg te (gName i)) tz D σ) := fun H1 e => h H1 e _ fun v H2 e2 r => k v H2 (e.trans e2) r H2 (Ex.refl H2)
theorem go_ret (h : Ev te σ H v) (k : Go H (D.rt v)) : Go H (tSeq (tRet te) tz D σ) := fun H1 e => h H1 e _ fun H2 e2 => k H2 (e.trans e2)
theorem go_retL (h : EvL te σ H xs) (k : NewL xs H D.rt) : Go H (tSeq (tRet te) tz D σ) := fun H1 e => h H1 e _ fun p H2 hp e2 h2 => k p (fresh_back e hp) H2 (ex_upd (e.trans e2) h2)
theorem go_retU (h : EvU te σ H xs) (k : NewU xs H D.rt) : Go H (tSeq (tRet te) tz D σ) := fun H1 e => h H1 e _ fun p H2 hp e2 h2 => k p (fresh_back e hp) H2 (ex_upd (e.trans e2) h2)
theorem go_retR (h : EvR te σ H R) (k : ∀ v H2, Ex H H2 → R v H2 → D.rt v H2) : Go H (tSeq (tRet te) tz D σ) := fun H1 e => h H1 e _ fun v H2 e2 r => k v H2 (e.trans e2) r
theorem go_next (k : Go H (D.nx σ)) : Go H (tNext D σ) := k
theorem go_brk (k : Go H (D.bk σ)) : Go H (tSeq tBreak tz D σ) := k
theorem go_cont (k : Go H (D.ct σ)) : Go H (tSeq tCont tz D σ) := k
theorem go_pass (k : Go H (tz D σ)) : Go H (tSeq tNext tz D σ) := k
theorem go_if {b : Bool} (h : EvT t σ H b) (h1 : b = true → Go H (tu { D with nx := tz D } σ)) (h2 : b = false → Go H (tw { D with nx := tz D } σ)) : Go H (tSeq (tIfS t tu tw) tz D σ) := fun H1 e => h H1 e _ fun H2 e2 => by
  cases b with
  | true => rw [if_pos rfl]; exact h1 rfl H2 (e.trans e2)
  | false => rw [if_neg Bool.false_ne_true]; exact h2 rfl H2 (e.trans e2)
/-- an if without else -/
theorem go_when {b : Bool} (h : EvT t σ H b) (h1 : b = true → Go H (tu { D with nx := tz D } σ)) (h2 : b = false → Go H (tz D σ)) : Go H (tSeq (tIfS t tu tNext) tz D σ) := go_if h h1 h2
theorem go_drop (h : Ev te σ H v) (k : Go H (tz D σ)) : Go H (tSeq (tDrop te) tz D σ) := fun H1 e => h H1 e _ fun H2 e2 => k H2 (e.trans e2)
theorem go_aug {f : Int → Int → Int} {a b : Int} (hx : σ[i]? = some (some (.int a))) (h : Ev te σ H (.int b)) (k : Go H (tz D (σ.set i (some (.int (f a b)))))) : Go H (tSeq (tAug i te (ipI f)) tz D σ) := fun H1 e =>
  ⟨.int a, hx, h H1 e _ fun H2 e2 => ⟨a, b, rfl, rfl, k H2 (e.trans e2)⟩⟩
theorem go_augM {a b : Int} (hx : σ[i]? = some (some (.int a))) (h : Ev te σ H (.int b)) (hc : CMul a b) (k : Go H (tz D (σ.set i (some (.int (a * b)))))) : Go H (tSeq (tAug i te (rI CMul fun i j => .int (i * j))) tz D σ) := fun H1 e =>
  ⟨.int a, hx, h H1 e _ fun H2 e2 => ⟨a, b, rfl, rfl, hc, k H2 (e.trans e2)⟩⟩
theorem go_app {l : Addr} (hl : H l = some (.lst xs)) (ha : Ev ta σ H (.ref l)) (h : Ev te σ H v) (hz : xs.length < 100000) (k : Go (upd H l (.lst (xs ++ [v]))) (tz D σ)) :
    Go H (tSeq (tDrop (tBM K "list" rAppend ta (tCons te tNil))) tz D σ) := fun H0 e0 => ha H0 e0 _ fun H1 e1 =>
  ⟨Or.inl ⟨rfl, xs, sq_of (e1 l _ (e0 l _ hl))⟩, h H1 (e0.trans e1) _ fun H2 e2 => ⟨l, xs, v, rfl, rfl, e2 l _ (e1 l _ (e0 l _ hl)), sz_lt hz, k _ (ex_upd2 ((e0.trans e1).trans e2))⟩⟩
theorem go_setL {l : Addr} {n : Nat} (hl : H l = some (.lst xs)) (h : Ev te σ H v) (ho : Ev ta σ H (.ref l)) (hi : Ev tb σ H (.int (n : Int))) (hn : n < xs.length) (k : Go (upd H l (.lst (xs.set n v))) (tz D σ)) :
    Go H (tSeq (tAsg te (gSub ta tb rSetL)) tz D σ) := fun H0 e0 => h H0 e0 _ fun H1 e1 => ho H1 (e0.trans e1) _ fun H2 e2 => hi H2 ((e0.trans e1).trans e2) _ fun H3 e3 =>
  ⟨l, xs, (n : Int), n, rfl, rfl, (((e0.trans e1).trans e2).trans e3) l _ hl, ixN_nat hn, k _ (ex_upd2 (((e0.trans e1).trans e2).trans e3))⟩
theorem go_par (h : EvA tr σ H [v, w]) (k : Go H (tz D ((σ.set i (some v)).set j (some w)))) : Go H (tSeq (tPar i j tr) tz D σ) := fun H1 e => h H1 e _ fun H2 e2 => ⟨v, w, rfl, k H2 (e.trans e2)⟩
/-- both sides new lists -/
theorem go_parLL (h1 : EvL ta σ H xs) (h2 : EvL tb σ H ys) (k : ∀ p q, H p = none → H q = none → p ≠ q → Go (upd (upd H p (.lst xs)) q (.lst ys)) (tz D ((σ.set i (some (.ref p))).set j (some (.ref q))))) :
    Go H (tSeq (tPar i j (tCons ta (tCons tb tNil))) tz D σ) := fun H1 e => h1 H1 e _ fun p H2 hp e2 hp2 => h2 H2 (e.trans e2) _ fun q H3 hq e3 hq3 => ⟨.ref p, .ref q, rfl,
      k p q (fresh_back e hp) (fresh_back (e.trans e2) hq) (ne_of_none hp2 hq) H3 (ex_upd (ex_upd ((e.trans e2).trans e3) (e3 p _ hp2)) hq3)⟩
theorem go_unpack2 (h : EvR te σ H R) (k : ∀ v H2, Ex H H2 → R v H2 → ∃ p x y, v = .ref p ∧ SqT K H2 p [x, y] ∧ Go H2 (tz D ((σ.set i (some x)).set j (some y)))) :
    Go H (tSeq (tAsg te (gTup K 2 (gCons (gName i) (gCons (gName j) gNil)))) tz D σ) := fun H1 e => h H1 e _ fun v H2 e2 r => by
  obtain ⟨p, x, y, rfl, hp, k⟩ := k v H2 (e.trans e2) r
  exact ⟨p, [x, y], rfl, hp, rfl, x, [y], rfl, y, [], rfl, rfl, k H2 (Ex.refl H2)⟩
/-! ### loops -/
def Up (P : L2.St → Hp → Prop) : L2.St → Hp → Prop := fun σ H' => ∃ Hk, P σ Hk ∧ Ex Hk H'
theorem up_mk {P : L2.St → Hp → Prop} (h : P σ H) : Go H (Up P σ) := fun H1 e => ⟨H, h, e⟩
/-- a turn's end -/
theorem go_up {P : L2.St → Hp → Prop} (e : D.nx = Up P) (h : P σ H) : Go H (tNext D σ) := fun H1 e1 => by
  show D.nx σ H1
  rw [e]
  exact ⟨H, h, e1⟩
theorem go_upc {P : L2.St → Hp → Prop} (e : D.ct = Up P) (h : P σ H) : Go H (tSeq tCont tz D σ) := fun H1 e1 => by
  show D.ct σ H1
  rw [e]
  exact ⟨H, h, e1⟩
theorem go_forL {a : Addr} {tl : TE} (P : Nat → L2.St → Hp → Prop) (h : Ev tl σ H (.ref a)) (hx : SqL K H a xs) (h0 : P 0 σ H) (hl : ∀ i σ' Hk, P i σ' Hk → SqL K Hk a xs)
    (hs : ∀ i x σ' Hk, xs[i]? = some x → P i σ' Hk → Go Hk (tu { D with nx := Up (P (i + 1)), ct := Up (P (i + 1)), bk := tz D } (σ'.set j (some x)))) (hd : ∀ σ' Hk, P xs.length σ' Hk → Go Hk (tz D σ')) :
    Go H (tSeq (tFor (iList K tl) (gName j) tu) tz D σ) := fun H0 e0 => h H0 e0 _ fun H1 e => ⟨a, rfl, ⟨xs, ex_l (e0.trans e) hx⟩,
      for_list (D := { D with nx := tz D }) (fun i => Up (P i)) ⟨H, h0, e0.trans e⟩ (fun i σ' H' _ ⟨Hk, p, ek⟩ => ex_l ek (hl i σ' Hk p)) (fun i x σ' H' hi ⟨Hk, p, ek⟩ => hs i x σ' Hk hi p H' ek) (fun σ' H' ⟨Hk, p, ek⟩ => hd σ' Hk p H' ek)⟩
theorem go_forR {n : Nat} {tl : TA} (P : Nat → L2.St → Hp → Prop) (h : EvA tl σ H [.int (n : Nat)]) (hn : n ≤ 100000) (h0 : P 0 σ H)
    (hs : ∀ i σ' Hk, i < n → P i σ' Hk → Go Hk (tu { D with nx := Up (P (i + 1)), ct := Up (P (i + 1)), bk := tz D } (σ'.set j (some (.int (i : Nat)))))) (hd : ∀ σ' Hk, P n σ' Hk → Go Hk (tz D σ')) :
    Go H (tSeq (tFor (iRng1 tl) (gName j) tu) tz D σ) := fun H0 e0 => h H0 e0 _ fun H1 e => ⟨(n : Int), rfl, by omega, by omega,
      for_range (D := { D with nx := tz D }) (lo := 0) (n := (n : Int).toNat) (fun i => Up (P i)) ⟨H, h0, e0.trans e⟩ (fun i σ' H' hi ⟨Hk, p, ek⟩ => by
        have e0 : (0 : Int) + (i : Int) = (i : Int) := Int.zero_add _
        show tu { D with nx := Up (P (i + 1)), ct := Up (P (i + 1)), bk := tz D } (σ'.set j (some (.int ((0 : Int) + (i : Int))))) H'
        rw [e0]
        exact hs i σ' Hk (by omega) p H' ek) (fun σ' H' ⟨Hk, p, ek⟩ => hd σ' Hk (by rwa [Int.toNat_natCast] at p) H' ek)⟩
/-- over a tuple that was just written -/
theorem go_forU {tl : TE} (P : Addr → Nat → L2.St → Hp → Prop) (h : EvU tl σ H xs) (h0 : ∀ p, H p = none → P p 0 σ (upd H p (.tup xs))) (hl : ∀ p i σ' Hk, P p i σ' Hk → Hk p = some (.tup xs))
    (hs : ∀ p i x σ' Hk, xs[i]? = some x → P p i σ' Hk → Go Hk (tu { D with nx := Up (P p (i + 1)), ct := Up (P p (i + 1)), bk := tz D } (σ'.set j (some x)))) (hd : ∀ p σ' Hk, P p xs.length σ' Hk → Go Hk (tz D σ')) :
    Go H (tSeq (tFor (iTup K tl) (gName j) tu) tz D σ) := fun H0 e0 => h H0 e0 _ fun p H1 hp e hp1 => ⟨p, rfl, ⟨xs, st_of hp1⟩,
      for_tup (D := { D with nx := tz D }) (fun i => Up (P p i)) ⟨_, h0 p (fresh_back e0 hp), ex_upd (e0.trans e) hp1⟩ (fun i σ' H' _ ⟨Hk, q, ek⟩ => ex_t ek (st_of (hl p i σ' Hk q))) (fun i x σ' H' hi ⟨Hk, q, ek⟩ => hs p i x σ' Hk hi q H' ek) (fun σ' H' ⟨Hk, q, ek⟩ => hd p σ' Hk q H' ek)⟩
/-- for i, s in enumerate(text) -/
theorem go_forES {m : List Nat} {tl : TA} {j1 j2 : Nat} (P : Nat → L2.St → Hp → Prop) (h : EvA tl σ H [.str (S m)]) (h0 : P 0 σ H)
    (hs : ∀ i σ' Hk, i < m.length → P i σ' Hk → Go Hk (tu { D with nx := Up (P (i + 1)), ct := Up (P (i + 1)), bk := tz D } ((σ'.set j1 (some (.int (i : Nat)))).set j2 (some (.str (S [m.getD i 0])))))) (hd : ∀ σ' Hk, P m.length σ' Hk → Go Hk (tz D σ')) :
    Go H (tSeq (tFor (iEnumS tl) (gTup K 2 (gCons (gName j1) (gCons (gName j2) gNil))) tu) tz D σ) := fun H0 e0 => h H0 e0 _ fun H1 e => ⟨m, rfl,
      for_it (D := { D with nx := tz D }) walk_enumE (fun i => Up (P i)) ⟨H, h0, e0.trans e⟩ (fun _ _ _ _ _ => True.intro) (fun i x σ' H' H'' hi ⟨Hk, p, ek⟩ ⟨T, ev, hT, eH⟩ => by
        subst ev eH
        exact ⟨T, _, rfl, st_of upd_same, rfl, _, _, rfl, _, _, rfl, rfl, hs i σ' Hk hi p _ (ek.trans (Ex.new hT))⟩) (fun σ' H' ⟨Hk, p, ek⟩ => hd σ' Hk p H' ek)⟩
/-- while: P by a number that falls -/
theorem go_while {tt : TT} (P : Nat → L2.St → Hp → Prop) (m0 : Nat) (h0 : P m0 σ H)
    (hs : ∀ m σ' Hk, P m σ' Hk → ∃ b, EvT tt σ' Hk b ∧ (b = true → Go Hk (tu { D with nx := Up (fun σ2 H2 => ∃ m', m' < m ∧ P m' σ2 H2), ct := Up (fun σ2 H2 => ∃ m', m' < m ∧ P m' σ2 H2), bk := tz D } σ')) ∧ (b = false → Go Hk (tz D σ'))) :
    Go H (tSeq (tWhile tt tu) tz D σ) := fun H0 e0 => ⟨fun m => Up (P m), ⟨m0, H, h0, e0⟩, fun m σ' H' ⟨Hk, p, ek⟩ => by
    obtain ⟨b, hb, h1, h2⟩ := hs m σ' Hk p
    refine hb H' ek _ fun H1 e => ?_
    cases b with
    | true =>
      rw [if_pos rfl]
      exact ⟨_, fun σ2 H2 ⟨Hk2, ⟨m', l, q⟩, e2⟩ => ⟨m', l, Hk2, q, e2⟩, h1 rfl H1 (ek.trans e)⟩
    | false =>
      rw [if_neg Bool.false_ne_true]
      exact h2 rfl H1 (ek.trans e)⟩
/-! ### comprehensions -/
theorem given_at (n : Nat) {f f' : Nat → Bool} {v v' : Nat → V} (hf : ∀ i, i < n → f i = f' i) (hv : ∀ i, i < n → f i = true → v i = v' i) : given n f v = given n f' v' := by
  unfold given
  have e : (List.range n).filter f = (List.range n).filter f' := List.filter_congr fun i hi => hf i (List.mem_range.mp hi)
  rw [e]
  refine List.map_congr_left fun i hi => ?_
  obtain ⟨h1, h2⟩ := List.mem_filter.mp hi
  have h3 := List.mem_range.mp h1
  exact hv i h3 (by rw [hf i h3]; exact h2)
theorem given_list {α : Type} (d : α) : ∀ (l : List α) (p : α → Bool) (g : α → V), given l.length (fun i => p (l.getD i d)) (fun i => g (l.getD i d)) = (l.filter p).map g := by
  intro l p g
  unfold given
  have e : l = (List.range l.length).map fun i => l.getD i d := by
    refine List.ext_getElem (by simp) fun i h1 h2 => ?_
    simp [List.getD_eq_getElem?_getD, List.getElem?_eq_getElem h1]
  conv => rhs; rw [e, List.filter_map, List.map_map]
  rfl
/-- [e for x in xs if t], the items told by inj, the kept ones by p, the new ones by g -/
theorem el_compL {α : Type} (l : List α) (inj : α → V) (p : α → Bool) (g : α → V) {a : Addr} {tl : TE} {vs : List Nat} (d : α) (h : Ev tl σ H (.ref a)) (hx : SqL K H a (l.map inj)) (hz : l.length ≤ 40000)
    (hw : ∀ x, wipe ((wipe σ vs).set j (some x)) vs = wipe σ vs) (ht : ∀ x ∈ l, EvT t ((wipe σ vs).set j (some (inj x))) H (p x)) (he : ∀ x ∈ l, p x = true → Ev te ((wipe σ vs).set j (some (inj x))) H (g x)) :
    EvL (tLc (iList K tl) (gName j) t te vs) σ H ((l.filter p).map g) := by
  rw [← given_list d l p g]
  have key : ∀ (i : Nat) (x : V), (l.map inj)[i]? = some x → l.getD i d ∈ l ∧ x = inj (l.getD i d) := fun i x hi => by
    rw [List.getElem?_map] at hi
    cases q : l[i]? with
    | none => rw [q] at hi; cases hi
    | some y =>
      rw [q] at hi
      have e : l.getD i d = y := by simp [List.getD_eq_getElem?_getD, q]
      rw [e]
      exact ⟨List.mem_of_getElem? q, (Option.some.inj hi).symm⟩
  have := el_lcL (K := K) (t := t) (te := te) (vs := vs) (j := j) (fun i => p (l.getD i d)) (fun i => g (l.getD i d)) h hx (by rw [List.length_map]; exact hz) hw
    (fun i x H1 e1 hi => by
      obtain ⟨m, rfl⟩ := key i x hi
      exact (ht _ m).mono e1)
    (fun i x H1 e1 hi hf => by
      obtain ⟨m, rfl⟩ := key i x hi
      exact (he _ m hf).mono e1)
  rw [List.length_map] at this
  exact this
theorem et_yes : EvT tYes σ H true := fun H1 _ _ q => q H1 (Ex.refl H1)
theorem el_mapL {α : Type} (l : List α) (inj : α → V) (g : α → V) {a : Addr} {tl : TE} {vs : List Nat} (d : α) (h : Ev tl σ H (.ref a)) (hx : SqL K H a (l.map inj)) (hz : l.length ≤ 40000)
    (hw : ∀ x, wipe ((wipe σ vs).set j (some x)) vs = wipe σ vs) (he : ∀ x ∈ l, Ev te ((wipe σ vs).set j (some (inj x))) H (g x)) : EvL (tLc (iList K tl) (gName j) tYes te vs) σ H (l.map g) := by
  have e : l.filter (fun _ => true) = l := List.filter_eq_self.mpr fun _ _ => rfl
  have q := el_compL l inj (fun _ => true) g d h hx hz hw (fun _ _ => et_yes) (fun x hx _ => he x hx)
  rw [e] at q
  exact q
/-- over a list just made -/
theorem el_mapN {α : Type} (l : List α) (inj : α → V) (g : α → V) {tl : TE} {vs : List Nat} (d : α) (h : EvL tl σ H (l.map inj)) (hz : l.length ≤ 40000)
    (hw : ∀ x, wipe ((wipe σ vs).set j (some x)) vs = wipe σ vs) (he : ∀ x ∈ l, Ev te ((wipe σ vs).set j (some (inj x))) H (g x)) : EvL (tLc (iList K tl) (gName j) tYes te vs) σ H (l.map g) := fun H0 e0 Q q =>
  h H0 e0 _ fun a H1 ha e1 hx => el_mapL (K := K) (H := H1) (tl := tC (.ref a)) l inj g d ev_c (sq_of hx) hz hw (fun x hx => (he x hx).mono (e0.trans e1)) H1 (Ex.refl H1) Q (fun p H2 hp e2 h2 => q p H2 (fresh_back e1 hp) (e1.trans e2) h2)
/-- over range(n) -/
theorem el_compR {n : Nat} {tl : TA} (p : Nat → Bool) (g : Nat → V) {vs : List Nat} (h : EvA tl σ H [.int (n : Nat)]) (hn : n ≤ 40000)
    (hw : ∀ x, wipe ((wipe σ vs).set j (some x)) vs = wipe σ vs) (ht : ∀ i, i < n → EvT t ((wipe σ vs).set j (some (.int (i : Nat)))) H (p i)) (he : ∀ i, i < n → p i = true → Ev te ((wipe σ vs).set j (some (.int (i : Nat)))) H (g i)) :
    EvL (tLc (iRng1 tl) (gName j) t te vs) σ H (((List.range n).filter p).map g) := by
  have q := el_lcR1 (t := t) (te := te) (vs := vs) (j := j) (n := (n : Int)) p g h (by omega) hw (fun i H1 e1 hi => (ht i (by omega)).mono e1) (fun i H1 e1 hi hf => (he i (by omega) hf).mono e1)
  rw [Int.toNat_natCast] at q
  exact q
theorem el_mapR {n : Nat} {tl : TA} (g : Nat → V) {vs : List Nat} (h : EvA tl σ H [.int (n : Nat)]) (hn : n ≤ 40000)
    (hw : ∀ x, wipe ((wipe σ vs).set j (some x)) vs = wipe σ vs) (he : ∀ i, i < n → Ev te ((wipe σ vs).set j (some (.int (i : Nat)))) H (g i)) : EvL (tLc (iRng1 tl) (gName j) tYes te vs) σ H ((List.range n).map g) := by
  have e : (List.range n).filter (fun _ => true) = List.range n := List.filter_eq_self.mpr fun _ _ => rfl
  have q := el_compR (fun _ => true) g h hn hw (fun _ _ => et_yes) (fun i hi _ => he i hi)
  rw [e] at q
  exact q
/-- for i, s in enumerate(text) -/
theorem el_compE {m : List Nat} {tl : TA} {j1 j2 : Nat} (p : Nat → Bool) (g : Nat → V) {vs : List Nat} (h : EvA tl σ H [.str (S m)]) (hm : m.length ≤ 40000)
    (hw : ∀ x y, wipe (((wipe σ vs).set j1 (some x)).set j2 (some y)) vs = wipe σ vs)
    (ht : ∀ i, i < m.length → EvT t (((wipe σ vs).set j1 (some (.int (i : Nat)))).set j2 (some (.str (S [m.getD i 0])))) H (p i))
    (he : ∀ i, i < m.length → p i = true → Ev te (((wipe σ vs).set j1 (some (.int (i : Nat)))).set j2 (some (.str (S [m.getD i 0])))) H (g i)) :
    EvL (tLc (iEnumS tl) (gTup K 2 (gCons (gName j1) (gCons (gName j2) gNil))) t te vs) σ H (((List.range m.length).filter p).map g) := fun H0 e0 Q q => h H0 e0 _ fun H1 e => ⟨m, rfl, fun Dl hD =>
  lc_it walk_enumE (Cw H1 p g Dl) ⟨hD, Ex.new hD, upd_same⟩ (fun _ _ _ _ => True.intro) (fun i x H' H'' hi pc ⟨T, ev, hT, eH⟩ => by
    subst ev eH
    have pc2 : Cw H1 p g Dl i (upd H' T (.tup [.int (i : Nat), .str (S [m.getD i 0])])) := ⟨pc.1, pc.2.1.trans (Ex.new hT), Ex.new hT _ _ pc.2.2⟩
    exact ⟨T, _, rfl, st_of upd_same, rfl, _, _, rfl, _, _, rfl, rfl, hw _ _, cw_turn pc2 (by omega) ((ht i hi).mono (e0.trans e)) (fun hf => (he i hi hf).mono (e0.trans e))⟩)
    (fun H' pc => q Dl H' (fresh_back e pc.1) (e.trans pc.2.1) pc.2.2)⟩
end
/-! ## promises -/
def S1 (R : V → Hp → VK → Prop) : Sp := fun vs H Q _ => ∃ a, vs = [a] ∧ R a H Q
def S2 (R : V → V → Hp → VK → Prop) : Sp := fun vs H Q _ => ∃ a b, vs = [a, b] ∧ R a b H Q
def S3 (R : V → V → V → Hp → VK → Prop) : Sp := fun vs H Q _ => ∃ a b c, vs = [a, b, c] ∧ R a b c H Q
def S4 (R : V → V → V → V → Hp → VK → Prop) : Sp := fun vs H Q _ => ∃ a b c d, vs = [a, b, c, d] ∧ R a b c d H Q
theorem len1 {R : V → Hp → VK → Prop} (vs : List V) (H : Hp) (Q : VK) (E : XK) (h : S1 R vs H Q E) : vs.length = 1 := by
  obtain ⟨a, rfl, _⟩ := h
  rfl
theorem len2 {R : V → V → Hp → VK → Prop} (vs : List V) (H : Hp) (Q : VK) (E : XK) (h : S2 R vs H Q E) : vs.length = 2 := by
  obtain ⟨a, b, rfl, _⟩ := h
  rfl
theorem len3 {R : V → V → V → Hp → VK → Prop} (vs : List V) (H : Hp) (Q : VK) (E : XK) (h : S3 R vs H Q E) : vs.length = 3 := by
  obtain ⟨a, b, c, rfl, _⟩ := h
  rfl
theorem len4 {R : V → V → V → V → Hp → VK → Prop} (vs : List V) (H : Hp) (Q : VK) (E : XK) (h : S4 R vs H Q E) : vs.length = 4 := by
  obtain ⟨a, b, c, d, rfl, _⟩ := h
  rfl
theorem sv1 {R : V → Hp → VK → Prop} {a z : V} {H : Hp} (h : ∀ H1, Ex H H1 → ∀ Q, Go H1 (Q z) → R a H1 Q) : SpV (S1 R) [a] H z := fun H1 e Q q _ => ⟨a, rfl, h H1 e Q q⟩
theorem sv2 {R : V → V → Hp → VK → Prop} {a b z : V} {H : Hp} (h : ∀ H1, Ex H H1 → ∀ Q, Go H1 (Q z) → R a b H1 Q) : SpV (S2 R) [a, b] H z := fun H1 e Q q _ => ⟨a, b, rfl, h H1 e Q q⟩
theorem sv3 {R : V → V → V → Hp → VK → Prop} {a b c z : V} {H : Hp} (h : ∀ H1, Ex H H1 → ∀ Q, Go H1 (Q z) → R a b c H1 Q) : SpV (S3 R) [a, b, c] H z := fun H1 e Q q _ => ⟨a, b, c, rfl, h H1 e Q q⟩
theorem sv4 {R : V → V → V → V → Hp → VK → Prop} {a b c d z : V} {H : Hp} (h : ∀ H1, Ex H H1 → ∀ Q, Go H1 (Q z) → R a b c d H1 Q) : SpV (S4 R) [a, b, c, d] H z := fun H1 e Q q _ => ⟨a, b, c, d, rfl, h H1 e Q q⟩
/-- a promise that hands back a new list -/
theorem newL_spl {xs : List V} {H1 : Hp} {Q : VK} (q : ∀ p H2, H1 p = none → Ex H1 H2 → H2 p = some (.lst xs) → Q (.ref p) H2) : NewL xs H1 Q := fun p hp H2 e => q p H2 hp ((Ex.new hp).trans e) (e p _ upd_same)
theorem newU_spl {xs : List V} {H1 : Hp} {Q : VK} (q : ∀ p H2, H1 p = none → Ex H1 H2 → H2 p = some (.tup xs) → Q (.ref p) H2) : NewU xs H1 Q := fun p hp H2 e => q p H2 hp ((Ex.new hp).trans e) (e p _ upd_same)
/-- a def of the module that may be called by its name -/
structure Cal (CX : CXT) (P : Program) (w : World) (K : PySem.W.Frag) (mg : Str → Option Value) (base : Heap) (k : Nat) (x : Str) (sp : Sp) : Prop where
  ex : ∃ (f : Addr) (fd : FuncData) (ps : List Str), FnOk P w K mg base CX k f fd ps sp ∧ mg x = some (.ref f) ∧ PySem.W.keepIn K (.ref f) = true ∧ Binds K fd ps []
section
variable {P : Program} {w : World} {K : PySem.W.Frag} {mg : Str → Option Value} {base : Heap}
theorem cal_mk {x : Str} {st : Stmt} {f : Addr} {N ps : List Str} {k : Nat} {sp : Sp} (F : ∃ fd, FunD K x x (defArgs st) (defBody st) (defScope st) [] [] f fd) (g : mg x = some (.ref f)) (S : FnScope N ps (defScope st))
    (b : ∀ (kV doc pm : Value) (an : Option Addr) (cdv ct : Value) (us : List Value), us.length = ps.length → bindArgs (PySem.W.fnOf x x (defArgs st) (defBody st) (defScope st) .none kV doc pm an cdv ct) ⟨us, []⟩ = pure (ps.zip us))
    (len : ∀ vs H Q E, sp vs H Q E → vs.length = ps.length)
    (body : ∀ (cdv : Value) (A : Around) (outer : List Env) (s : Shared) (H : Hp) (vs : List V) (Q : VK) (E : XK), Room k (A.deeper (envOfC x (defScope st) s.heap.objs.size f cdv)) → sp vs H Q E →
      ∃ t, PSs (cxOf CX0 P w K mg base N x (defScope st) f cdv A outer s H E).nox (defBody st) t ∧ Go H (t { nx := fun _ H' => Q .non H', rt := Q } (start N vs))) : Cal CX0 P w K mg base (k + 1) x sp := by
  obtain ⟨fd, F⟩ := F
  refine ⟨f, fd, ps, F.ok S len (fun cdv A outer s H vs Q E hr hsp => ?_), g, F.kp, F.bindsN b⟩
  obtain ⟨t, h, q⟩ := body cdv A outer s H vs Q E hr hsp
  exact ⟨t, h.nox, q.here⟩
end
section
variable {X : Cx} {k j : Nat} {C : Addr} {x m : Str} {sp : Sp} {p pos apos : Pos} {e o : Expr} {es : List Expr} {ta : TE} {t : TA}
theorem pe_k (c : Cal CX0 X.prog X.w X.K X.mg X.base k x sp) (hr : Room j X.A) (hk : k ≤ j) (hg : Gl X x) (ha : PA X (e :: es) t)
    (hdb : (x == ("__debug__" : Str)) = false := by decide) (he : starEach (e :: es) X.env = (false, eval e X.env) :: starEach es X.env := by rfl) (hpl : (backTo pos (starEach es X.env)).any (·.1) = false := by rfl) :
    PE X (.Call (.Name x p) (e :: es) [] pos) (tCall sp [] E0 t) := by
  obtain ⟨f, fd, ps, F, hm, kp, b⟩ := c.ex
  exact pe_call F (hr.mono hk) hg hm kp b .nil pass0 ha hdb he hpl
end
end Od

namespace Od
open PySem PySem.Spec PyProof.Rows L2 SX Evl
open PySem.Builtin PySem.Builtin.Str
/-! ## types of values -/
theorem tyx_mono {K : PySem.W.Frag} {H H1 : Hp} (e : Ex H H1) {x : V} {t : Value} (h : TyX K H x t) : TyX K H1 x t := by
  cases h with
  | base b =>
    cases b with
    | non => exact .base .non
    | bl x => exact .base (.bl x)
    | int x => exact .base (.int x)
    | str x => exact .base (.str x)
    | flt x => exact .base (.flt x)
    | lst q => exact .base (.lst (e _ _ q))
    | frz q => exact .base (.frz (e _ _ q))
    | tup q => exact .base (.tup (e _ _ q))
    | dK q => exact .base (.dK (e _ _ q))
    | dT q => exact .base (.dT (e _ _ q))
    | ins q c a n t m => exact .base (.ins (e _ _ q) c a n t m)
  | byt b => exact .byt b
  | set q => exact .set (e _ _ q)
  | kList q c => exact .kList q c
  | kTuple q c => exact .kTuple q c
  | kDict q c => exact .kDict q c
  | fTuple q => exact .fTuple (e _ _ q)
  | fDict q => exact .fDict (e _ _ q)
theorem tyx_sql {K : PySem.W.Frag} {H : Hp} {a : Addr} {xs : List V} (h : SqL K H a xs) : TyX K H (.ref a) (.type "list") := by
  rcases h with (h | ⟨o, h⟩) | ⟨o, its, n, q, c, _⟩
  · exact .base (.lst h)
  · exact .base (.frz h)
  · exact .kList q c
theorem tyx_sqt {K : PySem.W.Frag} {H : Hp} {a : Addr} {xs : List V} (h : SqT K H a xs) : TyX K H (.ref a) (.type "tuple") := by
  rcases h with (h | ⟨o, h⟩) | ⟨o, its, n, q, c, _⟩
  · exact .base (.tup h)
  · exact .fTuple h
  · exact .kTuple q c
section
variable {K : PySem.W.Frag} {σ : L2.St} {H H' : Hp} {ta tb tc te tx : TE} {t u : TT} {x : V} {j : Nat}
theorem ev_isT {c : V} {tt uu : Value} {bb : Bool} (ha : Ev ta σ H x) (hb : Ev tb σ H c) (hc : ClsV c uu) (ht : TyX K H x tt) (hk : PySem.W.kitOne K tt uu = some bb) : Ev (tCB (rIsi K) (tCons ta (tCons tb tNil))) σ H (.bl bb) :=
  ev_isi ha hb hc (fun H1 e => tyx_mono e ht) hk
/-- [e for s in text] -/
theorem el_mapS {m : List Nat} (g : Nat → V) {tl : TE} {vs : List Nat} (h : Ev tl σ H (.str (S m))) (hz : m.length ≤ 40000)
    (hw : ∀ x, wipe ((wipe σ vs).set j (some x)) vs = wipe σ vs) (he : ∀ c ∈ m, Ev te ((wipe σ vs).set j (some (.str (S [c])))) H (g c)) : EvL (tLc (iStr tl) (gName j) tYes te vs) σ H (m.map g) := fun H0 e0 Q q =>
  h H0 e0 _ fun H1 e => ⟨S m, rfl, fun Dl hD => by
    have e2 : m.map g = given m.length (fun _ => true) fun i => g (m.getD i 0) := by
      rw [given_list 0 m (fun _ => true) g, List.filter_eq_self.mpr fun _ _ => rfl]
    have hs : (S m).cps.size = m.length := S_len m
    have W := walk_str (z := S m)
    rw [hs] at W
    refine lc_it W (Cw H1 (fun _ => true) (fun i => g (m.getD i 0)) Dl) ⟨hD, Ex.new hD, upd_same⟩ (fun _ _ _ _ => True.intro) (fun i x H' H'' hi pc ⟨eH, c, hc, ev⟩ => ?_) (fun H' pc => q Dl H' (fresh_back e pc.1) (e.trans pc.2.1) (by rw [e2]; exact pc.2.2))
    subst ev eH
    have hc2 : m[i]? = some c := by
      have z : (S m).cps[i]? = some c := hc
      simpa using z
    have ec : m.getD i 0 = c := by simp [List.getD_eq_getElem?_getD, hc2]
    refine ⟨hw _, cw_turn pc (by omega) et_yes fun _ => ?_⟩
    rw [ec]
    exact (he c (List.mem_of_getElem? hc2)).mono (e0.trans e)⟩
end
/-! ## join of texts -/
def rJoinT (K : PySem.W.Frag) : V → List V → Hp → VK → Prop := fun x xs H Q => ∃ (a : List Nat) (p : Addr) (ys : List (List Nat)), x = .str (S a) ∧ xs = [.ref p] ∧ SqL K H p (ys.map fun y => .str (S y)) ∧
  (ys.map (·.length)).sum + ys.length * a.length ≤ 100000 ∧ Q (.str (S (TL.joinL a ys))) H
section
variable {X : Cx}
theorem mt_joinT : MtR X "str.join" (rJoinT X.K) := fun pins s σ H x xs v us Q I rx rxs h => by
  obtain ⟨a, p, ys, rfl, rfl, hp, hl, q⟩ := h
  refine mt_join pins s σ H _ _ v us Q I rx rxs ⟨S a, p, ys.map S, rfl, rfl, .inl (by rw [List.map_map]; exact hp), ?_, by rw [join_S]; exact q⟩
  rw [lens, List.length_map, S_len]
  omega
end
theorem joinL_nil : ∀ ys : List (List Nat), TL.joinL [] ys = ys.flatten
  | [] => rfl
  | [y] => by
    show y = [y].flatten
    simp
  | y :: z :: r => by
    show y ++ ([] ++ TL.joinL [] (z :: r)) = _
    rw [joinL_nil (z :: r)]
    simp
theorem joinL_one (f : α → Nat) (l : List α) : TL.joinL [] (l.map fun i => [f i]) = l.map f := by
  rw [joinL_nil]
  induction l with
  | nil => rfl
  | cons a r ih => rw [List.map_cons, List.flatten_cons, ih, List.map_cons] <;> rfl
section
variable {K : PySem.W.Frag} {σ : L2.St} {H H' : Hp} {ta tb : TE}
/-- ''.join([one sign for each of ..]), the list just made -/
theorem ev_joinOne {α : Type} (l : List α) (f : α → Nat) (ha : Ev ta σ H (.str (S []))) (hb : EvL tb σ H (l.map fun i => .str (S [f i]))) (hl : l.length ≤ 100000) : Ev (tM1 (rJoinT K) ta tb) σ H (.str (S (l.map f))) := fun H1 e Q q =>
  ha H1 e _ fun H2 e2 => ⟨⟨_, rfl⟩, hb H2 (e.trans e2) _ fun p H3 _ e3 hp => ⟨[], p, l.map fun i => [f i], rfl, rfl, sq_of (by rw [List.map_map]; exact hp), by
    have z : ∀ l : List α, (((l.map fun i => [f i]).map (·.length)).sum) = l.length := fun l => by
      induction l with
      | nil => rfl
      | cons a r ih => simp only [List.map_cons, List.sum_cons, ih, List.length_cons, List.length_nil]; omega
    rw [z]
    simp
    exact hl, by rw [joinL_one]; exact q H3 (e2.trans e3)⟩⟩
theorem ev_join {ys : List (List Nat)} {a : List Nat} (ha : Ev ta σ H (.str (S a))) (hb : EvL tb σ H (ys.map fun y => .str (S y))) (hl : (ys.map (·.length)).sum + ys.length * a.length ≤ 100000) : Ev (tM1 (rJoinT K) ta tb) σ H (.str (S (TL.joinL a ys))) := fun H1 e Q q =>
  ha H1 e _ fun H2 e2 => ⟨⟨_, rfl⟩, hb H2 (e.trans e2) _ fun p H3 _ e3 hp => ⟨a, p, ys, rfl, rfl, sq_of hp, hl, q H3 (e2.trans e3)⟩⟩
end
end Od
namespace Od
open PySem PySem.Spec PyProof.Rows L2 SX Evl
/-! ## rules whose reading names the written part apart from the context (for what stands within a comprehension) -/
section
variable {X : Cx} {e : Expr} {f : Str} {ta : TE} {pos : Pos}
theorem op_inK (K : PySem.W.Frag) (h : X.K = K := by rfl) : OpR X (compareOp .In) (rIn K false) := h ▸ op_in_seq
theorem op_notInK (K : PySem.W.Frag) (h : X.K = K := by rfl) : OpR X (compareOp .NotIn) (rIn K true) := h ▸ op_notIn_seq
theorem op_eqDK (K : PySem.W.Frag) (hu : X.A.units + 64 < cLine) (h : X.K = K := by rfl) : OpR X (compareOp .Eq) (rEqD K) := h ▸ op_eqD hu
theorem op_neDK (K : PySem.W.Frag) (hu : X.A.units + 64 < cLine) (h : X.K = K := by rfl) : OpR X (compareOp .NotEq) (rNeD K) := h ▸ op_neD hu
theorem call_lenQK (K : PySem.W.Frag) (h : X.K = K := by rfl) : CallR X (.builtin "len") (rLenQ K) := h ▸ call_lenQ
theorem call_isiK2 (K : PySem.W.Frag) (h : X.K = K := by rfl) : CallR X (.builtin "isinstance") (rIsi K) := h ▸ call_isi
theorem cr_allK (K : PySem.W.Frag) (hc : X.calm = true) (h : X.K = K := by rfl) : CallR X (.builtin "all") (rAll K) := h ▸ cr_all hc
theorem cr_anyK (K : PySem.W.Frag) (hc : X.calm = true) (h : X.K = K := by rfl) : CallR X (.builtin "any") (rAny K) := h ▸ cr_any hc
theorem ix_listK (K : PySem.W.Frag) (h : X.K = K := by rfl) : IxR X (rIxL K) := h ▸ ix_list
theorem ix_tupK (K : PySem.W.Frag) (h : X.K = K := by rfl) : IxR X (rIxT K) := h ▸ ix_tup
theorem sl_listK (K : PySem.W.Frag) (h : X.K = K := by rfl) : SlR X (rSlL K) := h ▸ sl_list
theorem pe_fldK (K : PySem.W.Frag) (he : PE X e ta) (hb : attributeBase e f X.env (eval e X.env) = eval e X.env) (h : X.K = K := by rfl) : PE X (.Attribute e f pos) (tFld K ta f) := h ▸ pe_fld he hb
end
end Od
namespace Od
open PySem PySem.Spec PyProof.Rows L2 SX Evl
section
variable {K : PySem.W.Frag} {σ σ2 : L2.St} {H H' : Hp} {ta tb tc te tx : TE} {t u : TT} {x : V} {i j : Nat} {D : Ends} {tu tw tz : TS} {xs ys : List V}
/-- an if without else that leaves known slots, whichever way -/
theorem go_whenS {b : Bool} (h : EvT t σ H b) (σ2 : L2.St) (h1 : b = true → Go H (tz D σ2) → Go H (tu { D with nx := tz D } σ)) (h2 : b = false → σ = σ2) (k : Go H (tz D σ2)) : Go H (tSeq (tIfS t tu tNext) tz D σ) :=
  go_when h (fun e => h1 e k) (fun e => by rw [h2 e]; exact k)
/-- xs * k, xs just written -/
theorem el_rep {k : Int} (ha : EvL ta σ H xs) (hb : Ev tb σ H (.int k)) (h1 : -(2 ^ 63) ≤ k) (h2 : k < 2 ^ 63) (h3 : xs.length * k.toNat ≤ 100000) : EvL (tOp rRep ta tb) σ H (List.replicate k.toNat xs).flatten := fun H1 e Q q =>
  ha H1 e _ fun p H2 _ e2 hp => hb H2 (e.trans e2) _ fun H3 e3 => ⟨p, k, xs, rfl, rfl, e3 p _ hp, h1, h2, sz_of h3, fun l hl => q l _ (fresh_back (e2.trans e3) hl) ((e2.trans e3).trans (Ex.new hl)) upd_same⟩
/-- xs + ys, both tracked | new -/
theorem el_cat {p q : Addr} (ha : Ev ta σ H (.ref p)) (hb : Ev tb σ H (.ref q)) (hp : H p = some (.lst xs)) (hq : H q = some (.lst ys)) (hl : xs.length + ys.length ≤ 100000) : EvL (tOp rCat ta tb) σ H (xs ++ ys) := fun H1 e Q k =>
  ha H1 e _ fun H2 e2 => hb H2 (e.trans e2) _ fun H3 e3 => ⟨p, q, xs, ys, rfl, rfl, ((e.trans e2).trans e3) p _ hp, ((e.trans e2).trans e3) q _ hq, sz_of hl, fun l hl => k l _ (fresh_back (e2.trans e3) hl) ((e2.trans e3).trans (Ex.new hl)) upd_same⟩
theorem el_catN {p : Addr} (ha : Ev ta σ H (.ref p)) (hb : EvL tb σ H ys) (hp : H p = some (.lst xs)) (hl : xs.length + ys.length ≤ 100000) : EvL (tOp rCat ta tb) σ H (xs ++ ys) := fun H1 e Q k =>
  ha H1 e _ fun H2 e2 => hb H2 (e.trans e2) _ fun q H3 _ e3 hq => ⟨p, q, xs, ys, rfl, rfl, ((e.trans e2).trans e3) p _ hp, hq, sz_of hl, fun l hl => k l _ (fresh_back (e2.trans e3) hl) ((e2.trans e3).trans (Ex.new hl)) upd_same⟩
theorem el_catNN (ha : EvL ta σ H xs) (hb : EvL tb σ H ys) (hl : xs.length + ys.length ≤ 100000) : EvL (tOp rCat ta tb) σ H (xs ++ ys) := fun H1 e Q k =>
  ha H1 e _ fun p H2 _ e2 hp => hb H2 (e.trans e2) _ fun q H3 _ e3 hq => ⟨p, q, xs, ys, rfl, rfl, e3 p _ hp, hq, sz_of hl, fun l hl => k l _ (fresh_back (e2.trans e3) hl) ((e2.trans e3).trans (Ex.new hl)) upd_same⟩
theorem el_catNq {q : Addr} (ha : EvL ta σ H xs) (hb : Ev tb σ H (.ref q)) (hq : H q = some (.lst ys)) (hl : xs.length + ys.length ≤ 100000) : EvL (tOp rCat ta tb) σ H (xs ++ ys) := fun H1 e Q k =>
  ha H1 e _ fun p H2 _ e2 hp => hb H2 (e.trans e2) _ fun H3 e3 => ⟨p, q, xs, ys, rfl, rfl, e3 p _ hp, ((e.trans e2).trans e3) q _ hq, sz_of hl, fun l hl => k l _ (fresh_back (e2.trans e3) hl) ((e2.trans e3).trans (Ex.new hl)) upd_same⟩
theorem el_mapE {m : List Nat} {tl : TA} {j1 j2 : Nat} (g : Nat → V) {vs : List Nat} (h : EvA tl σ H [.str (S m)]) (hm : m.length ≤ 40000)
    (hw : ∀ x y, wipe (((wipe σ vs).set j1 (some x)).set j2 (some y)) vs = wipe σ vs)
    (he : ∀ i, i < m.length → Ev te (((wipe σ vs).set j1 (some (.int (i : Nat)))).set j2 (some (.str (S [m.getD i 0])))) H (g i)) :
    EvL (tLc (iEnumS tl) (gTup K 2 (gCons (gName j1) (gCons (gName j2) gNil))) tYes te vs) σ H ((List.range m.length).map g) := by
  have e : (List.range m.length).filter (fun _ => true) = List.range m.length := List.filter_eq_self.mpr fun _ _ => rfl
  have q := el_compE (K := K) (fun _ => true) g h hm hw (fun _ _ => et_yes) (fun i hi _ => he i hi)
  rw [e] at q
  exact q
end
theorem sl1 {R : V → Hp → VK → Prop} {a : V} {xs : List V} {H : Hp} (h : ∀ H1, Ex H H1 → ∀ Q, NewL xs H1 Q → R a H1 Q) : SpL (S1 R) [a] H xs := fun H1 e Q q _ => ⟨a, rfl, h H1 e Q (newL_spl q)⟩
theorem sl2 {R : V → V → Hp → VK → Prop} {a b : V} {xs : List V} {H : Hp} (h : ∀ H1, Ex H H1 → ∀ Q, NewL xs H1 Q → R a b H1 Q) : SpL (S2 R) [a, b] H xs := fun H1 e Q q _ => ⟨a, b, rfl, h H1 e Q (newL_spl q)⟩
theorem sl3 {R : V → V → V → Hp → VK → Prop} {a b c : V} {xs : List V} {H : Hp} (h : ∀ H1, Ex H H1 → ∀ Q, NewL xs H1 Q → R a b c H1 Q) : SpL (S3 R) [a, b, c] H xs := fun H1 e Q q _ => ⟨a, b, c, rfl, h H1 e Q (newL_spl q)⟩
theorem sl4 {R : V → V → V → V → Hp → VK → Prop} {a b c d : V} {xs : List V} {H : Hp} (h : ∀ H1, Ex H H1 → ∀ Q, NewL xs H1 Q → R a b c d H1 Q) : SpL (S4 R) [a, b, c, d] H xs := fun H1 e Q q _ => ⟨a, b, c, d, rfl, h H1 e Q (newL_spl q)⟩
theorem el_call0 {σ : L2.St} {H : Hp} {xs : List V} {sp : Sp} {vs : List V} {E : XK} {tr : TA} (h : EvA tr σ H vs) (hs : SpL sp (vs ++ []) H xs) : EvL (tCall sp [] E tr) σ H xs := el_call h hs
end Od
namespace Od
open PySem PySem.Spec PyProof.Rows L2 SX Evl
section
variable {X : Cx} {pos : Pos}
theorem pg_tupK (K : PySem.W.Frag) (n : Nat) {es : List Expr} {k : Nat} {t : TGs} (hc : X.calm = true) (h : PGs X es t)
    (hn : (assignEach es X.env).length = n := by rfl) (hst : (assignEach es X.env).findIdx? (·.1) = none := by rfl) (e : X.K = K := by rfl) : PG X (.Tuple es k pos) (gTup K n t) := e ▸ pg_tup hc h hn hst
end
end Od

namespace Od
open PySem PySem.Spec PyProof.Rows L2 SX Evl
/-! ## the program as functions of plain data: a text of marks is the list of its signs (101 e, 104 h, 108 l, 103 g) -/
abbrev tEven : List Nat := [101, 118, 101, 110]
abbrev tLeft : List Nat := [108, 101, 102, 116]
abbrev tRight : List Nat := [114, 105, 103, 104, 116]
/-- what are marks -/
def Marks (m : List Nat) : Prop := (∀ c ∈ m, c = 101 ∨ c = 104 ∨ c = 108 ∨ c = 103) ∧ ¬ (101 ∈ m ∧ (104 ∈ m ∨ 108 ∈ m))
def marksB (m : List Nat) : Bool := (m.all fun c => decide (c ∈ [101, 104, 108, 103])) && !(decide (101 ∈ m) && (decide (104 ∈ m) || decide (108 ∈ m)))
def tiltB (m : List Nat) : Bool := decide (104 ∈ m) || decide (108 ∈ m)
def casesN (m : List Nat) : Nat := 2 * m.count 101 + m.count 104 + m.count 108 + if tiltB m then 0 else 1
/-- the fewest weighings with as many outcomes -/
def wf (n : Nat) : Nat := if h : n ≤ 1 then 0 else wf ((n + 2) / 3) + 1
  termination_by n
  decreasing_by omega
theorem wf_le : ∀ (k n : Nat), n ≤ 3 ^ k ↔ wf n ≤ k
  | 0, n => by
    rw [wf]
    split
    · rename_i h
      exact ⟨fun _ => Nat.le_refl _, fun _ => h⟩
    · rename_i h
      exact ⟨fun q => absurd q h, fun q => absurd q (by omega)⟩
  | k + 1, n => by
    rw [wf]
    split
    · rename_i h
      exact ⟨fun _ => Nat.zero_le _, fun _ => Nat.le_trans h (Nat.one_le_pow _ _ (by decide))⟩
    · rename_i h
      have ih := wf_le k ((n + 2) / 3)
      rw [Nat.add_le_add_iff_right, ← ih, Nat.pow_succ]
      omega
theorem wf_gt (k n : Nat) : 3 ^ k < n ↔ k < wf n := by
  have h := wf_le k n
  omega
def isIntV : V → Bool
  | .int _ => true
  | _ => false
def intOf : V → Int
  | .int i => i
  | _ => 0
/-- rising counts from above last on to c -/
def riseB (c : Int) : Int → List Int → Bool
  | _, [] => true
  | last, x :: r => decide (last < x) && decide (x ≤ c) && riseB c x r
def sideV (xs : List V) (c : Int) : Bool := xs.all isIntV && riseB c (-1) (xs.map intOf)
def sideN (ns : List Int) (c : Int) : Bool := riseB c (-1) ns
theorem sideV_ints (ns : List Int) (c : Int) : sideV (ns.map V.int) c = sideN ns c := by
  unfold sideV sideN
  rw [List.map_map]
  have e1 : (ns.map V.int).all isIntV = true := by
    rw [List.all_eq_true]
    intro x hx
    obtain ⟨n, _, rfl⟩ := List.mem_map.mp hx
    rfl
  have e2 : ns.map (intOf ∘ V.int) = ns := by
    conv => rhs; rw [← List.map_id ns]
    exact List.map_congr_left fun _ _ => rfl
  rw [e1, e2, Bool.true_and]
/-- whether two lists are a weighing of c coins -/
def weighB (c : Int) (l r : List Int) : Bool := sideN l c && sideN r c && decide (l.length = r.length) && !(l.any fun x => decide (x ∈ r))
def leftover (c : Nat) (s : Int) (o : List Nat) : Nat :=
  if o = tEven then (if s = 0 then c else 103) else if 0 < s ∧ (c = 101 ∨ c = 104) then 104 else if s < 0 ∧ (c = 101 ∨ c = 108) then 108 else 103
def sideOf (l r : List Int) (o : List Nat) (i : Int) : Int :=
  if i ∈ (if o = tRight then l else r) then -1 else if i ∈ (if o = tRight then r else l) then 1 else 0
def behindL (m : List Nat) (l r : List Int) (o : List Nat) : List Nat := (List.range m.length).map fun i => leftover (m.getD i 0) (sideOf l r o (i : Nat)) o
def manyN (m : List Nat) (l r : List Int) (o : List Nat) : Nat :=
  2 * (behindL m l r o).count 101 + (behindL m l r o).count 104 + (behindL m l r o).count 108 + if decide (o = tEven) && !tiltB m then 1 else 0
end Od
namespace Od
open PySem PySem.Spec PyProof.Rows L2 SX Evl
/-- a thing handed in where a list of counts is due: no list, or a list of these flat things -/
def Thing (K : PySem.W.Frag) (H : Hp) (a : V) : Option (List V) → Prop
  | none => ∃ t, TyX K H a t ∧ PySem.W.kitOne K t (.type "list") = some false
  | some xs => ∃ p, a = .ref p ∧ SqL K H p xs ∧ xs.all flatV = true ∧ xs.length ≤ 40000
theorem Thing.mono {K : PySem.W.Frag} {H H1 : Hp} {a : V} {o : Option (List V)} (e : Ex H H1) (h : Thing K H a o) : Thing K H1 a o := by
  cases o with
  | none =>
    obtain ⟨t, h1, h2⟩ := h
    exact ⟨t, tyx_mono e h1, h2⟩
  | some xs =>
    obtain ⟨p, h1, h2, h3⟩ := h
    exact ⟨p, h1, ex_l e h2, h3⟩
def sideO (o : Option (List V)) (c : Int) : Bool := match o with
  | none => false
  | some xs => sideV xs c
def weighO (c : Int) (l r : Option (List V)) : Bool := match l, r with
  | some l, some r => sideV l c && (sideV r c && (decide (l.length = r.length) && !(l.any fun x => inV x r)))
  | _, _ => false
theorem all_flat (ns : List Int) : (ns.map V.int).all flatV = true := by
  rw [List.all_eq_true]
  intro x hx
  obtain ⟨n, _, rfl⟩ := List.mem_map.mp hx
  rfl
theorem thing_ints {K : PySem.W.Frag} {H : Hp} {p : Addr} {ns : List Int} (h : SqL K H p (ns.map V.int)) (hl : ns.length ≤ 40000) : Thing K H (.ref p) (some (ns.map V.int)) :=
  ⟨p, rfl, h, all_flat ns, by rw [List.length_map]; exact hl⟩
theorem inV_ints (x : Int) (r : List Int) : inV (.int x) (r.map V.int) = decide (x ∈ r) := by
  unfold inV
  rw [List.any_map]
  cases h : decide (x ∈ r) with
  | true =>
    rw [List.any_eq_true]
    exact ⟨x, of_decide_eq_true h, by show (x == x) = true; simp⟩
  | false =>
    rw [List.any_eq_false]
    intro y hy q
    have e : (y == x) = true := q
    have e2 : y = x := by simpa using e
    subst e2
    exact of_decide_eq_false h hy
theorem weighO_ints (c : Int) (l r : List Int) : weighO c (some (l.map V.int)) (some (r.map V.int)) = weighB c l r := by
  unfold weighO weighB
  have e : ((l.map V.int).any fun x => inV x (r.map V.int)) = l.any fun x => decide (x ∈ r) := by
    rw [List.any_map]
    congr 1
    funext x
    exact inV_ints x r
  show (sideV (l.map V.int) c && (sideV (r.map V.int) c && (decide ((l.map V.int).length = (r.map V.int).length) && !((l.map V.int).any fun x => inV x (r.map V.int))))) = _
  rw [sideV_ints, sideV_ints, e, List.length_map, List.length_map, Bool.and_assoc, Bool.and_assoc]
theorem ints_of {xs : List V} (h : xs.all isIntV = true) : xs = (xs.map intOf).map V.int := by
  rw [List.map_map]
  conv => lhs; rw [← List.map_id xs]
  refine List.map_congr_left fun x hx => ?_
  have q := List.all_eq_true.mp h x hx
  cases x with
  | int i => rfl
  | _ => cases q
theorem drop_at {α : Type} {l : List α} {i : Nat} {x : α} (h : l[i]? = some x) : l.drop i = x :: l.drop (i + 1) := by
  obtain ⟨h1, h2⟩ := List.getElem?_eq_some_iff.mp h
  rw [List.drop_eq_getElem_cons h1, h2]
end Od
namespace Od
open PySem PySem.Spec PyProof.Rows L2 SX Evl
/-! ## the sides, as they are stored one by one -/
def putAll (v : Int) (f : List Int) (xs : List Int) : List Int := xs.foldl (fun f x => f.set x.toNat v) f
theorem putAll_len (v : Int) : ∀ (xs f : List Int), (putAll v f xs).length = f.length
  | [], f => rfl
  | x :: r, f => by
    show (putAll v (f.set x.toNat v) r).length = _
    rw [putAll_len v r, List.length_set]
theorem putAll_get (v : Int) : ∀ (xs f : List Int) (i : Nat), i < f.length → (∀ x ∈ xs, 0 ≤ x) → (putAll v f xs)[i]? = if (i : Int) ∈ xs then some v else f[i]?
  | [], f, i, _, _ => by simp [putAll]
  | x :: r, f, i, hi, h0 => by
    show (putAll v (f.set x.toNat v) r)[i]? = _
    have hx := h0 x List.mem_cons_self
    rw [putAll_get v r (f.set x.toNat v) i (by rw [List.length_set]; exact hi) fun y hy => h0 y (List.mem_cons_of_mem _ hy)]
    by_cases h : (i : Int) ∈ r
    · rw [if_pos h, if_pos (List.mem_cons_of_mem _ h)]
    · rw [if_neg h]
      by_cases e : x.toNat = i
      · have e2 : (i : Int) = x := by omega
        rw [if_pos (by rw [e2]; exact List.mem_cons_self), e, List.getElem?_set_self hi]
      · have e2 : ¬ (i : Int) = x := by omega
        rw [if_neg (by simp [e2, h]), List.getElem?_set_ne e]
theorem putAll_take (v : Int) {xs f : List Int} {i : Nat} {x : Int} (h : xs[i]? = some x) : putAll v f (xs.take (i + 1)) = (putAll v f (xs.take i)).set x.toNat v := by
  unfold putAll
  rw [List.take_add_one, h, List.foldl_append]
  rfl
def sidesL (n : Nat) (l r : List Int) (o : List Nat) : List Int := putAll (-1) (putAll 1 (List.replicate (n + 1) 0) (if o = tRight then r else l)) (if o = tRight then l else r)
theorem sidesL_get {n : Nat} {l r : List Int} {o : List Nat} (hl : ∀ x ∈ l, 0 ≤ x) (hr : ∀ x ∈ r, 0 ≤ x) {i : Nat} (hi : i < n + 1) : (sidesL n l r o)[i]? = some (sideOf l r o (i : Nat)) := by
  unfold sidesL sideOf
  have h1 : ∀ x ∈ (if o = tRight then r else l), 0 ≤ x := by
    split
    · exact hr
    · exact hl
  have h2 : ∀ x ∈ (if o = tRight then l else r), 0 ≤ x := by
    split
    · exact hl
    · exact hr
  rw [putAll_get _ _ _ i (by rw [putAll_len, List.length_replicate]; exact hi) h2, putAll_get _ _ _ i (by rw [List.length_replicate]; exact hi) h1]
  have e : (List.replicate (n + 1) (0 : Int))[i]? = some 0 := by
    rw [List.getElem?_replicate, if_pos hi]
  rw [e]
  by_cases a1 : (i : Int) ∈ (if o = tRight then l else r)
  · rw [if_pos a1, if_pos a1]
  · rw [if_neg a1, if_neg a1]
    by_cases a2 : (i : Int) ∈ (if o = tRight then r else l)
    · rw [if_pos a2, if_pos a2]
    · rw [if_neg a2, if_neg a2]
end Od

namespace Od
open PySem PySem.Spec PyProof.Rows L2 SX Evl
/-! ## == of lists of ints -/
def dI (ns : List Int) : PyData := .list (ns.map PyData.int)
theorem lay_ints : ∀ ns : List Int, PyData.canLayAll0 (ns.map PyData.int) = true
  | [] => by simp [PyData.canLayAll0]
  | n :: r => by
    rw [List.map_cons]
    unfold PyData.canLayAll0
    rw [lay_ints r]
    simp [PyData.canLay0]
theorem depth_ints : ∀ ns : List Int, PyData.depthAll (ns.map PyData.int) = 0
  | [] => by simp [PyData.depthAll]
  | n :: r => by
    rw [List.map_cons]
    simp [PyData.depthAll, depth_ints r, PyData.depth]
theorem shaped_ints (ns : List Int) : SeqAt.shaped (dI ns) = true := by
  unfold SeqAt.shaped dI
  rw [Bool.and_eq_true]
  refine ⟨?_, ?_⟩
  · unfold PyData.canLay0
    exact lay_ints ns
  · simp [PyData.depth, depth_ints ns]
theorem eqv_intsAll : ∀ xs ys : List Int, PyData.eqvAll (xs.map PyData.int) (ys.map PyData.int) = decide (xs = ys)
  | [], [] => by simp [PyData.eqvAll]
  | [], y :: s => by simp [PyData.eqvAll]
  | x :: r, [] => by simp [PyData.eqvAll]
  | x :: r, y :: s => by
    rw [List.map_cons, List.map_cons]
    unfold PyData.eqvAll
    rw [eqv_intsAll r s]
    unfold PyData.eqv
    by_cases h : x = y
    · subst h
      by_cases h2 : r = s
      · subst h2; simp
      · simp [h2]
    · have e : (x == y) = false := by simpa using h
      rw [e]
      simp [h]
theorem eqv_ints (xs ys : List Int) : PyData.eqv (dI xs) (dI ys) = decide (xs = ys) := by
  unfold dI PyData.eqv
  exact eqv_intsAll xs ys
theorem dpAll_ints {K : PySem.W.Frag} {H : Hp} : ∀ ns : List Int, DpAll K H (ns.map V.int) (ns.map PyData.int)
  | [] => .nil
  | n :: r => .cons (.int n) (dpAll_ints r)
theorem dp_ints {K : PySem.W.Frag} {H : Hp} {p : Addr} {ns : List Int} (h : SqL K H p (ns.map V.int)) : Dp K H (.ref p) (dI ns) := .lst h (dpAll_ints ns)
section
variable {K : PySem.W.Frag} {σ σ2 : L2.St} {H H' : Hp} {ta tb tc te tx tv : TE} {t u : TT} {x y : V} {i j : Nat} {D : Ends} {tu tw tz : TS} {xs ys : List Int} {p q : Addr}
theorem rv_eqD (hx : SqL K H p (xs.map V.int)) (hy : SqL K H q (ys.map V.int)) : RV (rEqD K) (.ref p) (.ref q) H (.bl (decide (xs = ys))) := rv_val fun H1 e Q q => ⟨dI xs, dI ys, dp_ints (ex_l e hx), dp_ints (ex_l e hy), shaped_ints xs, shaped_ints ys, by rw [eqv_ints]; exact q⟩
theorem rv_neD (hx : SqL K H p (xs.map V.int)) (hy : SqL K H q (ys.map V.int)) : RV (rNeD K) (.ref p) (.ref q) H (.bl (!decide (xs = ys))) := rv_val fun H1 e Q q => ⟨dI xs, dI ys, dp_ints (ex_l e hx), dp_ints (ex_l e hy), shaped_ints xs, shaped_ints ys, by rw [eqv_ints]; exact q⟩
theorem ev_eqRR (ha : Ev ta σ H (.ref p)) (hb : Ev tb σ H (.ref q)) (hx : SqL K H p (xs.map V.int)) (hy : SqL K H q (ys.map V.int)) : Ev (tOp (rEqD K) ta tb) σ H (.bl (decide (xs = ys))) := ev_op ha hb (rv_eqD hx hy)
theorem ev_neRR (ha : Ev ta σ H (.ref p)) (hb : Ev tb σ H (.ref q)) (hx : SqL K H p (xs.map V.int)) (hy : SqL K H q (ys.map V.int)) : Ev (tOp (rNeD K) ta tb) σ H (.bl (!decide (xs = ys))) := ev_op ha hb (rv_neD hx hy)
theorem ev_eqRN (ha : Ev ta σ H (.ref p)) (hb : EvL tb σ H (ys.map V.int)) (hx : SqL K H p (xs.map V.int)) : Ev (tOp (rEqD K) ta tb) σ H (.bl (decide (xs = ys))) := ev_opL ha hb fun q H1 hq e => rv_eqD (ex_l e hx) (sq_of hq)
theorem ev_neRN (ha : Ev ta σ H (.ref p)) (hb : EvL tb σ H (ys.map V.int)) (hx : SqL K H p (xs.map V.int)) : Ev (tOp (rNeD K) ta tb) σ H (.bl (!decide (xs = ys))) := ev_opL ha hb fun q H1 hq e => rv_neD (ex_l e hx) (sq_of hq)
theorem ev_eqNN (ha : EvL ta σ H (xs.map V.int)) (hb : EvL tb σ H (ys.map V.int)) : Ev (tOp (rEqD K) ta tb) σ H (.bl (decide (xs = ys))) := ev_opLL ha hb fun p q H1 hp hq e => rv_eqD (sq_of hp) (sq_of hq)
theorem ev_neNN (ha : EvL ta σ H (xs.map V.int)) (hb : EvL tb σ H (ys.map V.int)) : Ev (tOp (rNeD K) ta tb) σ H (.bl (!decide (xs = ys))) := ev_opLL ha hb fun p q H1 hp hq e => rv_neD (sq_of hp) (sq_of hq)
/-! ## sorted -/
def srt (ns : List Int) : List Int := ns.mergeSort (fun a b => decide (a ≤ b))
theorem srt_perm (ns : List Int) : (srt ns).Perm ns := List.mergeSort_perm ns _
theorem srt_pair (ns : List Int) : (srt ns).Pairwise (· ≤ ·) := by
  have h := List.pairwise_mergeSort (le := fun a b : Int => decide (a ≤ b)) (by intro a b c; simp; omega) (by intro a b; simp; omega) ns
  exact h.imp fun q => of_decide_eq_true q
theorem srt_eq {ns ms : List Int} (h : ms.Perm ns) (hs : ms.Pairwise (· ≤ ·)) : ms = srt ns :=
  List.Perm.eq_of_pairwise (fun a b _ _ h1 h2 => by have h3 : a ≤ b := h1; have h4 : b ≤ a := h2; omega) hs (srt_pair ns) (h.trans (srt_perm ns).symm)
theorem el_sortedN (ha : EvL ta σ H (xs.map V.int)) : EvL (tCB (rSortedI K) (tCons ta tNil)) σ H ((srt xs).map V.int) := fun H1 e Q k =>
  ha H1 e _ fun p H2 hp e2 h2 => ⟨p, xs, rfl, sq_of h2, fun ms l hm hs hl => by
    rw [srt_eq hm hs]
    exact k l _ (fresh_back e2 hl) (e2.trans (Ex.new hl)) upd_same⟩
theorem el_sorted (ha : Ev ta σ H (.ref p)) (hx : SqL K H p (xs.map V.int)) : EvL (tCB (rSortedI K) (tCons ta tNil)) σ H ((srt xs).map V.int) := fun H1 e Q k =>
  ha H1 e _ fun H2 e2 => ⟨p, xs, rfl, ex_l (e.trans e2) hx, fun ms l hm hs hl => by
    rw [srt_eq hm hs]
    exact k l _ (fresh_back e2 hl) (e2.trans (Ex.new hl)) upd_same⟩
/-! ## instances -/
theorem go_fld {C dx : Addr} {fs : List (Str × V)} {f : Str} (hv : Ev tv σ H y) (ha : Ev ta σ H (.ref p)) (h : H p = some (.ins C dx fs)) (c : Cls K C) (n : NoAttr K C f) (l : fs.length < 1000) (k : Go (upd H p (.ins C dx (putF f y fs))) (tz D σ)) :
    Go H (tSeq (sFld K ta tv f) tz D σ) := fun H1 e => hv H1 e _ fun H2 e2 => ha H2 (e.trans e2) _ fun H3 e3 => ⟨p, C, dx, fs, rfl, ((e.trans e2).trans e3) _ _ h, c, n, l, k _ (ex_upd2 ((e.trans e2).trans e3))⟩
theorem go_fldL {C dx : Addr} {fs : List (Str × V)} {f : Str} {zs : List V} (hv : EvL tv σ H zs) (ha : Ev ta σ H (.ref p)) (h : H p = some (.ins C dx fs)) (c : Cls K C) (n : NoAttr K C f) (l : fs.length < 1000)
    (k : ∀ q, H q = none → Go (upd (upd H q (.lst zs)) p (.ins C dx (putF f (.ref q) fs))) (tz D σ)) :
    Go H (tSeq (sFld K ta tv f) tz D σ) := fun H1 e => hv H1 e _ fun q H2 hq e2 h2 => ha H2 (e.trans e2) _ fun H3 e3 => ⟨p, C, dx, fs, rfl, ((e.trans e2).trans e3) _ _ h, c, n, l,
      k q (fresh_back e hq) _ (ex_upd2 (ex_upd ((e.trans e2).trans e3) (e3 _ _ h2)))⟩
end
/-! ## classes: made, their methods -/
structure MakX (P : Program) (w : World) (K : PySem.W.Frag) (mg : Str → Option Value) (base : Heap) (k : Nat) (x : Str) (C : Addr) (sp : Sp) : Prop where
  ex : ∃ (f : Addr) (fd : FuncData) (ps : List Str), Mk K C f ∧ FnOk P w K mg base CX0 k f fd ps sp ∧ mg x = some (.ref C) ∧ Binds K fd ps []
structure MetX (P : Program) (w : World) (K : PySem.W.Frag) (mg : Str → Option Value) (base : Heap) (k : Nat) (C : Addr) (m : Str) (sp : Sp) : Prop where
  ex : ∃ (f : Addr) (fd : FuncData) (ps : List Str), Cls K C ∧ Meth K C m f ∧ FnOk P w K mg base CX0 k f fd ps sp ∧ Binds K fd ps []
section
variable {P : Program} {w : World} {K : PySem.W.Frag} {mg : Str → Option Value} {base : Heap}
theorem mak_mk {x qual : Str} {C : Addr} {st : Stmt} {f : Addr} {N ps : List Str} {k : Nat} {sp : Sp} (F : ∃ fd, FunD K "__init__" qual (defArgs st) (defBody st) (defScope st) [] [] f fd) (M : Mk K C f) (g : mg x = some (.ref C)) (S : FnScope N ps (defScope st))
    (b : ∀ (kV doc pm : Value) (an : Option Addr) (cdv ct : Value) (us : List Value), us.length = ps.length → bindArgs (PySem.W.fnOf "__init__" qual (defArgs st) (defBody st) (defScope st) .none kV doc pm an cdv ct) ⟨us, []⟩ = pure (ps.zip us))
    (len : ∀ vs H Q E, sp vs H Q E → vs.length = ps.length)
    (body : ∀ (cdv : Value) (A : Around) (outer : List Env) (s : Shared) (H : Hp) (vs : List V) (Q : VK) (E : XK), Room k (A.deeper (envOfC qual (defScope st) s.heap.objs.size f cdv)) → sp vs H Q E →
      ∃ t, PSs (cxOf CX0 P w K mg base N qual (defScope st) f cdv A outer s H E).nox (defBody st) t ∧ Go H (t { nx := fun _ H' => Q .non H', rt := Q } (start N vs))) : MakX P w K mg base (k + 1) x C sp := by
  obtain ⟨fd, F⟩ := F
  refine ⟨f, fd, ps, M, F.ok S len (fun cdv A outer s H vs Q E hr hsp => ?_), g, F.bindsN b⟩
  obtain ⟨t, h, q⟩ := body cdv A outer s H vs Q E hr hsp
  exact ⟨t, h.nox, q.here⟩
theorem met_mk {m qual : Str} {C : Addr} {st : Stmt} {f : Addr} {N ps : List Str} {k : Nat} {sp : Sp} (F : ∃ fd, FunD K m qual (defArgs st) (defBody st) (defScope st) [] [] f fd) (c : Cls K C) (M : Meth K C m f) (S : FnScope N ps (defScope st))
    (b : ∀ (kV doc pm : Value) (an : Option Addr) (cdv ct : Value) (us : List Value), us.length = ps.length → bindArgs (PySem.W.fnOf m qual (defArgs st) (defBody st) (defScope st) .none kV doc pm an cdv ct) ⟨us, []⟩ = pure (ps.zip us))
    (len : ∀ vs H Q E, sp vs H Q E → vs.length = ps.length)
    (body : ∀ (cdv : Value) (A : Around) (outer : List Env) (s : Shared) (H : Hp) (vs : List V) (Q : VK) (E : XK), Room k (A.deeper (envOfC qual (defScope st) s.heap.objs.size f cdv)) → sp vs H Q E →
      ∃ t, PSs (cxOf CX0 P w K mg base N qual (defScope st) f cdv A outer s H E).nox (defBody st) t ∧ Go H (t { nx := fun _ H' => Q .non H', rt := Q } (start N vs))) : MetX P w K mg base (k + 1) C m sp := by
  obtain ⟨fd, F⟩ := F
  refine ⟨f, fd, ps, c, M, F.ok S len (fun cdv A outer s H vs Q E hr hsp => ?_), F.bindsN b⟩
  obtain ⟨t, h, q⟩ := body cdv A outer s H vs Q E hr hsp
  exact ⟨t, h.nox, q.here⟩
end
section
variable {X : Cx} {k j : Nat} {C : Addr} {x m : Str} {sp : Sp} {p pos apos : Pos} {e o : Expr} {es : List Expr} {ta : TE} {t : TA}
theorem pe_mkc (c : MakX X.prog X.w X.K X.mg X.base k x C sp) (hr : Room j X.A) (hk : k + 1 ≤ j) (hg : Gl X x) (ha : PA X (e :: es) t)
    (hdb : (x == ("__debug__" : Str)) = false := by decide) (he : starEach (e :: es) X.env = (false, eval e X.env) :: starEach es X.env := by rfl) (hpl : (backTo pos (starEach es X.env)).any (·.1) = false := by rfl) :
    PE X (.Call (.Name x p) (e :: es) [] pos) (tMake C sp [] E0 t) := by
  obtain ⟨f, fd, ps, M, F, hm, b⟩ := c.ex
  exact pe_make M F (hr.mono hk) hg hm b .nil pass0 ha hdb he hpl
theorem pe_mtc {pl : Sem Bool} (c : MetX X.prog X.w X.K X.mg X.base k C m sp) (hr : Room j X.A) (hk : k ≤ j) (he : PE X o ta) (ha : PA X (e :: es) t)
    (hst : starEach (e :: es) X.env = (false, eval e X.env) :: starEach es X.env := by rfl) (hpl : (backTo pos (starEach es X.env)).any (·.1) = false := by rfl)
    (ht : eval (.Call (.Attribute o m apos) (e :: es) [] pos) X.env = (do
      let ov ← eval o X.env
      standAt apos.atName
      let (f, first) ← holding [ov] (getMethod ov m pl)
      callWith pos f first (backTo pos (starEach (e :: es) X.env)) (backToKw pos (keywordEach [] X.env))) := by rfl) :
    PE X (.Call (.Attribute o m apos) (e :: es) [] pos) (tMeth C m sp [] E0 ta t) := by
  obtain ⟨f, fd, ps, hc, hm, F, b⟩ := c.ex
  exact pe_meth (pl := pl) he hc hm F (hr.mono hk) b .nil pass0 ha hst hpl ht
theorem pe_either {e : Expr} {t1 t2 : TE} (h1 : PE X e t1) (h2 : PE X e t2) : PE X e (fun σ H Q => t1 σ H Q ∨ t2 σ H Q) := ⟨fun pins s σ H Q I h => by
  rcases h with h | h
  · exact h1.run pins s σ H Q I h
  · exact h2.run pins s σ H Q I h⟩
/-- C(), C without an __init__ of its own -/
def tMake0 (C : Addr) : TE := fun _ H Q => ∀ x dx, H x = none → H dx = none → dx ≠ x → Q (.ref x) (upd (upd H dx (.own x)) x (.ins C dx []))
end
end Od
namespace Od
open PySem PySem.Spec PyProof.Rows L2 SX Evl
theorem lk0 {f : Str} {v : V} {r : List (Str × V)} : List.lookup f ((f, v) :: r) = some v := by simp [List.lookup]
theorem lk1 {f g : Str} {v x : V} {r : List (Str × V)} (h : (f == g) = false) (q : List.lookup f r = some v) : List.lookup f ((g, x) :: r) = some v := by
  simp [List.lookup, h, q]
theorem lkn {f g : Str} {x : V} {r : List (Str × V)} (h : (f == g) = false) (q : List.lookup f r = none) : List.lookup f ((g, x) :: r) = none := by
  simp [List.lookup, h, q]
theorem put_new {f g : Str} {v x : V} {r : List (Str × V)} (h : ¬ g = f) : putF f v ((g, x) :: r) = (g, x) :: putF f v r := by
  show (if g = f then _ else _) = _
  rw [if_neg h]
theorem fs_left {f : V} {r : List (Str × V)} : putF "left" f [] = ([("left", f)] : List (Str × V)) := rfl
theorem fs_right {f g : V} : putF "right" g ([("left", f)] : List (Str × V)) = ([("left", f), ("right", g)] : List (Str × V)) := by
  rw [put_new (by decide +kernel)]
  rfl
theorem fs_many {f g h : V} : putF "many" h ([("left", f), ("right", g)] : List (Str × V)) = ([("left", f), ("right", g), ("many", h)] : List (Str × V)) := by
  rw [put_new (by decide +kernel), put_new (by decide +kernel)]
  rfl
end Od

namespace Od
open PySem PySem.Spec PyProof.Rows L2 SX Evl
section
variable {X : Cx} {C : Addr} {x : Str} {p pos : Pos}
theorem run_make00 {pins : List (Addr × Obj)} {σ : L2.St} {H : Hp} {s : Shared} {Q : VK} (M : Mk0 X.K C) (top : PySem.W.mroIn X.K C (.type "object") = some true) (I : Inv X pins σ H s)
    (h : ∀ x dx, H x = none → H dx = none → dx ≠ x → Q (.ref x) (upd (upd H dx (.own x)) x (.ins C dx []))) :
    wpAny (model X.prog X.w) X.A (call (.ref C) []) (EP X pins σ Q) X.xe s := by
  have hq := h (s.heap.objs.size + 1) s.heap.objs.size (I.hok.fresh (Nat.le_succ _)) (I.hok.fresh (Nat.le_refl _)) (Nat.ne_of_lt (Nat.lt_succ_self _))
  have I2 := Inv.made (C := C) I
  refine wpAny_call (make_map0 I.kIn M.makes M.init (fun self => PySem.W.Looks.of_pure (PySem.W.oi_bind _)) ?_)
  have hx : ((s.heap.push PySem.W.emptyDict).push (PySem.W.instObj C s.heap.objs.size)).get? (s.heap.objs.size + 1) = some (PySem.W.instObj C s.heap.objs.size) := by
    have z := Heap.get?_push_size (s.heap.push PySem.W.emptyDict) (o := PySem.W.instObj C s.heap.objs.size) rfl
    rw [Heap.size_push] at z
    exact z
  have t1 : PySem.W.Looks (model X.prog X.w) ((s.heap.push PySem.W.emptyDict).push (PySem.W.instObj C s.heap.objs.size)) (typeOf (.ref (s.heap.objs.size + 1))) (.ref C) := NwA.type_at hx rfl
  have t2 : PySem.W.Looks (model X.prog X.w) ((s.heap.push PySem.W.emptyDict).push (PySem.W.instObj C s.heap.objs.size)) (isInstance (.ref (s.heap.objs.size + 1)) (.type "object")) true := t1.andThen (PySem.W.looks_mroIn I2.kIn top)
  refine codeAny_call_builtin PySem.W.oi_plain PySem.W.entry_oi (@PySem.W.check_slot (model X.prog X.w) _ _ _ "object.__init__" "object" "__init__" (.ref (s.heap.objs.size + 1)) [] [] _ PySem.W.oi_kind PySem.W.oi_split t2 (NwA.oi_args_any (.ref (s.heap.objs.size + 1)) [] []) ?_)
  rw [PySem.W.oi_run]
  exact wpAny_pure (And.intro rfl ⟨V.ref (s.heap.objs.size + 1), _, I2, rfl, hq⟩)
theorem pe_make00 (M : Mk0 X.K C) (top : PySem.W.mroIn X.K C (.type "object") = some true) (hg : Gl X x) (hm : X.mg x = some (.ref C)) (hdb : (x == ("__debug__" : Str)) = false := by decide) : PE X (.Call (.Name x p) [] [] pos) (tMake0 C) := by
  refine ⟨fun pins s σ H Q I h => ?_⟩
  refine wpAny_Call_Name_kw (ld_glob I hg hm ?_ hdb)
  exact PySem.W.callWith_K0 I.kIn M.kp (run_make00 M top I h)
end
end Od

namespace Od
open PySem PySem.Spec PyProof.Rows L2 SX Evl
open PySem.Builtin PySem.Builtin.Str
/-! ## strip(signs) -/
def stripL (g m : List Nat) : List Nat := (m.drop (m.takeWhile fun c => decide (c ∈ g)).length).take (m.length - ((m.drop (m.takeWhile fun c => decide (c ∈ g)).length).reverse.takeWhile fun c => decide (c ∈ g)).length - (m.takeWhile fun c => decide (c ∈ g)).length)
theorem strip_S (m g : List Nat) : Txt.stripChars (S m) (S g) = S (stripL g m) := by
  unfold Txt.stripChars
  rw [PyProof.Rows.stripBy_eq]
  have e : ((S g).cps.contains : Nat → Bool) = fun c => decide (c ∈ g) := by
    funext c
    show g.toArray.contains c = _
    rw [List.contains_toArray]
    simp
  rw [e]
  refine TL.ext_tl ?_
  show (strSub _ _ _).cps.toList = _
  rw [StrLaws.strSub_toList]
  unfold stripLo stripHi stripL
  rw [if_pos rfl, if_pos rfl, S_len]
theorem tw_all {p : Nat → Bool} : ∀ l : List Nat, (∀ c ∈ l, p c = true) → l.takeWhile p = l
  | [], _ => rfl
  | c :: r, h => by
    rw [List.takeWhile_cons, if_pos (h c List.mem_cons_self), tw_all r fun d hd => h d (List.mem_cons_of_mem _ hd)]
theorem drop_tw {p : Nat → Bool} : ∀ l : List Nat, l.drop (l.takeWhile p).length = l.dropWhile p
  | [] => rfl
  | c :: r => by
    rw [List.takeWhile_cons, List.dropWhile_cons]
    by_cases h : p c = true
    · rw [if_pos h, if_pos h, List.length_cons, List.drop_succ_cons, drop_tw r]
    · rw [if_neg h, if_neg h] <;> rfl
theorem tw_len {p : Nat → Bool} : ∀ l : List Nat, (l.takeWhile p).length = l.length → ∀ c ∈ l, p c = true
  | [], _, _, hc => by cases hc
  | d :: r, h, c, hc => by
    rw [List.takeWhile_cons] at h
    by_cases q : p d = true
    · rw [if_pos q, List.length_cons, List.length_cons] at h
      rcases List.mem_cons.mp hc with e | e
      · rw [e]; exact q
      · exact tw_len r (by omega) c e
    · rw [if_neg q] at h
      simp at h
theorem dw_head {p : Nat → Bool} : ∀ (l : List Nat) {c : Nat} {r : List Nat}, l.dropWhile p = c :: r → p c = false
  | [], c, r, h => by cases h
  | d :: s, c, r, h => by
    rw [List.dropWhile_cons] at h
    by_cases q : p d = true
    · rw [if_pos q] at h
      exact dw_head s h
    · rw [if_neg q] at h
      have e : d = c := (List.cons.inj h).1
      rw [← e]
      exact Bool.not_eq_true _ ▸ q
theorem stripL_nil (g m : List Nat) : decide (stripL g m = []) = m.all fun c => decide (c ∈ g) := by
  cases h : (m.all fun c => decide (c ∈ g)) with
  | true =>
    have e := tw_all (p := fun c => decide (c ∈ g)) m (List.all_eq_true.mp h)
    have : stripL g m = [] := by
      unfold stripL
      rw [e, List.drop_length, List.take_nil]
    rw [this]
    rfl
  | false =>
    refine decide_eq_false fun q => ?_
    unfold stripL at q
    have hl := congrArg List.length q
    rw [List.length_take, List.length_drop, List.length_nil] at hl
    have d1 : (m.takeWhile fun c => decide (c ∈ g)).length ≤ m.length := by
      have := congrArg List.length (List.takeWhile_append_dropWhile (p := fun c => decide (c ∈ g)) (l := m))
      rw [List.length_append] at this
      omega
    have e2 := drop_tw (p := fun c => decide (c ∈ g)) m
    have d2 : ((m.drop (m.takeWhile fun c => decide (c ∈ g)).length).reverse.takeWhile fun c => decide (c ∈ g)).length ≤ (m.drop (m.takeWhile fun c => decide (c ∈ g)).length).reverse.length := by
      have := congrArg List.length (List.takeWhile_append_dropWhile (p := fun c => decide (c ∈ g)) (l := (m.drop (m.takeWhile fun c => decide (c ∈ g)).length).reverse))
      rw [List.length_append] at this
      omega
    have d3 : (m.drop (m.takeWhile fun c => decide (c ∈ g)).length).reverse.length = m.length - (m.takeWhile fun c => decide (c ∈ g)).length := by
      rw [List.length_reverse, List.length_drop]
    have d4 : ((m.drop (m.takeWhile fun c => decide (c ∈ g)).length).reverse.takeWhile fun c => decide (c ∈ g)).length = (m.drop (m.takeWhile fun c => decide (c ∈ g)).length).reverse.length := by omega
    have all := tw_len _ d4
    rw [e2] at all
    cases hd : m.dropWhile fun c => decide (c ∈ g) with
    | nil =>
      rw [hd] at e2
      have hz := congrArg List.length e2
      rw [List.length_drop, List.length_nil] at hz
      have full := tw_len m (p := fun c => decide (c ∈ g)) (by omega)
      rw [List.all_eq_true.mpr full] at h
      cases h
    | cons c r =>
      have n := dw_head m hd
      have y := all c (by rw [hd, List.mem_reverse]; exact List.mem_cons_self)
      rw [n] at y
      cases y
def rStripT : V → List V → Hp → VK → Prop := fun x xs H Q => ∃ (m g : List Nat), x = .str (S m) ∧ xs = [.str (S g)] ∧ m.length ≤ 100000 ∧ Q (.str (S (stripL g m))) H
theorem mt_stripT {X : Cx} : MtR X "str.strip" rStripT := fun pins s σ H x xs v us Q I rx rxs h => by
  obtain ⟨m, g, rfl, rfl, hm, q⟩ := h
  exact mt_stripChars pins s σ H _ _ v us Q I rx rxs ⟨S m, S g, rfl, rfl, by rw [S_len]; exact sz_of hm, by rw [strip_S]; exact q⟩
theorem ev_stripT {σ : L2.St} {H : Hp} {ta tb : TE} {m g : List Nat} (ha : Ev ta σ H (.str (S m))) (hb : Ev tb σ H (.str (S g))) (hm : m.length ≤ 100000) : Ev (tM1 rStripT ta tb) σ H (.str (S (stripL g m))) := fun H1 e Q q =>
  ha H1 e _ fun H2 e2 => ⟨⟨_, rfl⟩, hb H2 (e.trans e2) _ fun H3 e3 => ⟨m, g, rfl, rfl, hm, q H3 (e2.trans e3)⟩⟩
/-! ## answers -/
inductive Ans where
  | heavy (i : Int) | light (i : Int) | nothing | opn (l r : List Int) (n : Int)
def OpnAt (K : PySem.W.Frag) (H : Hp) (v : V) (pl pr : Addr) (l r : List Int) (n : Int) : Prop :=
  ∃ p dx, v = .ref p ∧ H p = some (.ins (He.ga K "Open") dx [("left", .ref pl), ("right", .ref pr), ("many", .int n)]) ∧ H pl = some (.lst (l.map V.int)) ∧ H pr = some (.lst (r.map V.int))
def AnsAt (K : PySem.W.Frag) (H : Hp) (v : V) : Ans → Prop
  | .heavy i => ∃ p dx, v = .ref p ∧ H p = some (.ins (He.ga K "Heavy") dx [("coin", .int i)])
  | .light i => ∃ p dx, v = .ref p ∧ H p = some (.ins (He.ga K "Light") dx [("coin", .int i)])
  | .nothing => ∃ p dx, v = .ref p ∧ H p = some (.ins (He.ga K "Nothing") dx [])
  | .opn l r n => ∃ pl pr, OpnAt K H v pl pr l r n
theorem OpnAt.mono {K : PySem.W.Frag} {H H1 : Hp} {v : V} {pl pr : Addr} {l r : List Int} {n : Int} (e : Ex H H1) (h : OpnAt K H v pl pr l r n) : OpnAt K H1 v pl pr l r n := by
  obtain ⟨p, dx, h0, h1, h2, h3⟩ := h
  exact ⟨p, dx, h0, e _ _ h1, e _ _ h2, e _ _ h3⟩
theorem AnsAt.mono {K : PySem.W.Frag} {H H1 : Hp} {v : V} {a : Ans} (e : Ex H H1) (h : AnsAt K H v a) : AnsAt K H1 v a := by
  cases a with
  | heavy i => obtain ⟨p, dx, h0, h1⟩ := h; exact ⟨p, dx, h0, e _ _ h1⟩
  | light i => obtain ⟨p, dx, h0, h1⟩ := h; exact ⟨p, dx, h0, e _ _ h1⟩
  | nothing => obtain ⟨p, dx, h0, h1⟩ := h; exact ⟨p, dx, h0, e _ _ h1⟩
  | opn l r n => obtain ⟨pl, pr, h1⟩ := h; exact ⟨pl, pr, h1.mono e⟩
def oneB (m : List Nat) (i : Int) (c : Nat) : Bool := (decide (0 ≤ i) && decide (i < (m.length : Nat))) && (decide (m.getD i.toNat 0 = c) && decide (casesN m = 1))
def outs : List (List Nat) := [tLeft, tRight, tEven]
def openB (m : List Nat) (l r : List Int) (n : Int) : Bool :=
  !(decide (casesN m < 2) || (!decide (n = (wf (casesN m) : Nat)) || !weighB (m.length : Nat) l r)) && outs.all fun o => decide (manyN m l r o = 0) || decide ((wf (manyN m l r o) : Int) < n)
def showsB (m : List Nat) : Ans → Bool
  | .heavy i => oneB m i 104
  | .light i => oneB m i 108
  | .nothing => m.all fun c => decide (c ∈ [103])
  | .opn l r n => openB m l r n
end Od

namespace Od
/-! ## what is told, and that it is right: plain -/
def idx (c : Nat) (m : List Nat) : List Int := ((List.range m.length).filter fun i => decide (m.getD i 0 = c)).map fun i : Nat => (i : Int)
def eitherL (co : List Int) (b : Int) (out : Nat) : List Int × List Int :=
  let many := (2 * co.length + 2 - out) / 2
  let half := (many + 1) / 2
  (co.take half, if ((co.drop half).take (many - half)).length < (co.take half).length then (co.drop half).take (many - half) ++ [b] else (co.drop half).take (many - half))
def tiltedL (h l : List Int) (b : Int) (out : Nat) : List Int × List Int :=
  let due := (h.length + l.length + 1 - out) / 2
  let first := min due (h.length / 2)
  let second := min (due - first) (l.length / 2)
  if first + second < due then (h.take 1, [b]) else (srt (h.take first ++ l.take second), srt ((h.drop first).take first ++ (l.drop second).take second))
def pairL (m : List Nat) : List Int × List Int :=
  if idx 104 m ++ idx 108 m = [] then eitherL (idx 101 m) (m.length : Nat) (3 ^ (wf (casesN m) - 1)) else tiltedL (idx 104 m) (idx 108 m) (m.length : Nat) (3 ^ (wf (casesN m) - 1))
def toldA (m : List Nat) : Ans :=
  if 1 < casesN m then .opn (pairL m).1 (pairL m).2 (wf (casesN m) : Nat)
  else match idx 104 m with
    | i :: _ => .heavy i
    | [] => match idx 108 m with
      | i :: _ => .light i
      | [] => .nothing
/-! ### counting over a range -/
def cnt (n : Nat) (p : Nat → Bool) : Nat := (List.range n).countP p
theorem cnt_mono {n : Nat} {p q : Nat → Bool} (h : ∀ i, i < n → p i = true → q i = true) : cnt n p ≤ cnt n q :=
  List.countP_mono_left fun i hi => h i (List.mem_range.mp hi)
theorem cnt_congr {n : Nat} {p q : Nat → Bool} (h : ∀ i, i < n → p i = q i) : cnt n p = cnt n q := by
  unfold cnt
  refine List.countP_congr fun i hi => ?_
  rw [h i (List.mem_range.mp hi)]
theorem cnt_succ (n : Nat) (p : Nat → Bool) : cnt (n + 1) p = cnt n p + if p n = true then 1 else 0 := by
  unfold cnt
  rw [List.range_succ, List.countP_append]
  by_cases h : p n = true
  · simp [h]
  · simp [h]
theorem cnt_false {n : Nat} {p : Nat → Bool} (h : ∀ i, i < n → p i = false) : cnt n p = 0 := by
  have := cnt_congr (q := fun _ => false) h
  rw [this]
  simp [cnt]
theorem cnt_or (n : Nat) (p q : Nat → Bool) : cnt n (fun i => p i || q i) ≤ cnt n p + cnt n q := by
  induction n with
  | zero => simp [cnt]
  | succ n ih =>
    rw [cnt_succ, cnt_succ, cnt_succ]
    cases p n <;> cases q n <;> simp <;> omega
theorem cnt_one (n a : Nat) (p : Nat → Bool) (h : p a = true) (ha : a < n) : cnt n (fun i => p i && !decide (i = a)) + 1 = cnt n p := by
  induction n with
  | zero => omega
  | succ n ih =>
    rw [cnt_succ, cnt_succ]
    by_cases e : a = n
    · subst e
      have z : cnt a (fun i => p i && !decide (i = a)) = cnt a p := cnt_congr fun i hi => by
        have : decide (i = a) = false := decide_eq_false (by omega)
        simp [this]
      rw [z]
      simp [h]
    · have ih := ih (by omega)
      have z : decide (n = a) = false := decide_eq_false (by omega)
      simp only [z, Bool.not_false, Bool.and_true]
      omega
theorem cnt_eq1 (n a : Nat) : cnt n (fun i => decide (i = a)) ≤ 1 := by
  induction n with
  | zero => simp [cnt]
  | succ n ih =>
    rw [cnt_succ]
    by_cases e : n = a
    · subst e
      have z : cnt n (fun i => decide (i = n)) = 0 := cnt_false fun i hi => decide_eq_false (by omega)
      rw [z]
      simp
    · rw [if_neg (by simpa using e)]
      omega
def inL (l : List Int) (i : Nat) : Bool := decide ((i : Int) ∈ l)
theorem cnt_len (n : Nat) : ∀ l : List Int, cnt n (inL l) ≤ l.length
  | [] => by rw [cnt_false fun i _ => by simp [inL]]; exact Nat.zero_le _
  | a :: l => by
    have h := cnt_len n l
    have e : cnt n (inL (a :: l)) ≤ cnt n (fun i => decide (i = a.toNat)) + cnt n (inL l) := by
      refine Nat.le_trans (cnt_mono fun i _ q => ?_) (cnt_or n _ _)
      unfold inL at q ⊢
      rw [decide_eq_true_eq, List.mem_cons] at q
      rw [Bool.or_eq_true, decide_eq_true_eq, decide_eq_true_eq]
      rcases q with q | q
      · left; omega
      · right; exact q
    have e1 := cnt_eq1 n a.toNat
    rw [List.length_cons]
    omega
/-- of those that p tells, those that are drawn | not -/
theorem cnt_diff (n : Nat) (p : Nat → Bool) : ∀ D : List Int, D.Nodup → (∀ x ∈ D, 0 ≤ x ∧ x < n ∧ p x.toNat = true) → cnt n (fun i => p i && !inL D i) + D.length = cnt n p
  | [], _, _ => by
    have e : cnt n (fun i => p i && !inL [] i) = cnt n p := cnt_congr fun i _ => by simp [inL]
    rw [e]; rfl
  | a :: D, hn, h => by
    obtain ⟨h1, h2⟩ := List.nodup_cons.mp hn
    have ih := cnt_diff n p D h2 fun x hx => h x (List.mem_cons_of_mem _ hx)
    obtain ⟨a0, a1, a2⟩ := h a List.mem_cons_self
    have one := cnt_one n a.toNat (fun i => p i && !inL D i) (by
      rw [a2, Bool.true_and]
      unfold inL
      rw [Bool.not_eq_true', decide_eq_false_iff_not]
      have : ((a.toNat : Nat) : Int) = a := by omega
      rw [this]
      exact h1) (by omega)
    have e : cnt n (fun i => p i && !inL (a :: D) i) = cnt n (fun i => (p i && !inL D i) && !decide (i = a.toNat)) := cnt_congr fun i _ => by
      have : inL (a :: D) i = (decide (i = a.toNat) || inL D i) := by
        unfold inL
        rw [← Bool.decide_or]
        refine decide_eq_decide.mpr ?_
        rw [List.mem_cons]
        constructor
        · rintro (q | q)
          · left; omega
          · right; exact q
        · rintro (q | q)
          · left; omega
          · right; exact q
      rw [this]
      cases p i <;> cases inL D i <;> cases decide (i = a.toNat) <;> rfl
    rw [e, List.length_cons]
    omega
/-! ### counts of signs -/
theorem beq_dec (a b : Nat) : (a == b) = decide (a = b) := by
  by_cases h : a = b
  · rw [decide_eq_true h, beq_iff_eq]; exact h
  · rw [decide_eq_false h]; simpa using h
theorem sign_cnt (m : List Nat) (c : Nat) : m.count c = cnt m.length (fun i => decide (m.getD i 0 = c)) := by
  have e : m = (List.range m.length).map fun i => m.getD i 0 := by
    refine List.ext_getElem (by simp) fun i h1 h2 => ?_
    simp [List.getD_eq_getElem?_getD, List.getElem?_eq_getElem h1]
  have : m.count c = ((List.range m.length).map fun i => m.getD i 0).count c := by rw [← e]
  rw [this, List.count_eq_countP, List.countP_map]
  refine cnt_congr (n := m.length) fun i _ => ?_
  show (m.getD i 0 == c) = decide (m.getD i 0 = c)
  exact beq_dec _ _
theorem idx_len (m : List Nat) (c : Nat) : (idx c m).length = m.count c := by
  rw [sign_cnt]
  unfold idx cnt
  rw [List.length_map, List.countP_eq_length_filter]
theorem idx_mem {m : List Nat} {c : Nat} {x : Int} (h : x ∈ idx c m) : 0 ≤ x ∧ x < m.length ∧ m.getD x.toNat 0 = c := by
  unfold idx at h
  obtain ⟨i, hi, rfl⟩ := List.mem_map.mp h
  obtain ⟨h1, h2⟩ := List.mem_filter.mp hi
  have := List.mem_range.mp h1
  exact ⟨by omega, by omega, by rw [Int.toNat_natCast]; exact of_decide_eq_true h2⟩
theorem mem_idx {m : List Nat} {c i : Nat} (h : i < m.length) (e : m.getD i 0 = c) : (i : Int) ∈ idx c m :=
  List.mem_map.mpr ⟨i, List.mem_filter.mpr ⟨List.mem_range.mpr h, decide_eq_true e⟩, rfl⟩
theorem idx_lt (m : List Nat) (c : Nat) : (idx c m).Pairwise (· < ·) := by
  unfold idx
  refine List.pairwise_map.mpr ?_
  have h : (List.range m.length).Pairwise (· < ·) := List.pairwise_lt_range
  exact (h.filter _).imp fun q => by omega
theorem lt_nodup {l : List Int} (h : l.Pairwise (· < ·)) : l.Nodup := h.imp fun q => by omega
theorem mem_take_of {α : Type} {l : List α} {k : Nat} {x : α} (h : x ∈ l.take k) : x ∈ l := List.mem_of_mem_take h
theorem mem_drop_of {α : Type} {l : List α} {k : Nat} {x : α} (h : x ∈ l.drop k) : x ∈ l := List.mem_of_mem_drop h
/-! ### sides that are rising -/
theorem rise_lt : ∀ (ns : List Int) (c last : Int), ns.Pairwise (· < ·) → (∀ x ∈ ns, last < x ∧ x ≤ c) → riseB c last ns = true
  | [], _, _, _, _ => rfl
  | x :: r, c, last, hp, h => by
    obtain ⟨h1, h2⟩ := List.pairwise_cons.mp hp
    have hx := h x List.mem_cons_self
    unfold riseB
    rw [decide_eq_true hx.1, decide_eq_true hx.2, rise_lt r c x h2 fun y hy => ⟨h1 y hy, (h y (List.mem_cons_of_mem _ hy)).2⟩] <;> rfl
theorem side_lt {ns : List Int} {c : Int} (hp : ns.Pairwise (· < ·)) (h : ∀ x ∈ ns, 0 ≤ x ∧ x ≤ c) : sideN ns c = true :=
  rise_lt ns c (-1) hp fun x hx => ⟨by have := (h x hx).1; omega, (h x hx).2⟩
theorem lt_side : ∀ (ns : List Int) (c last : Int), riseB c last ns = true → ns.Pairwise (· < ·) ∧ ∀ x ∈ ns, last < x ∧ x ≤ c
  | [], _, _, _ => ⟨List.Pairwise.nil, fun x hx => by cases hx⟩
  | x :: r, c, last, h => by
    unfold riseB at h
    rw [Bool.and_eq_true, Bool.and_eq_true, decide_eq_true_eq, decide_eq_true_eq] at h
    obtain ⟨h1, h2⟩ := lt_side r c x h.2
    refine ⟨List.pairwise_cons.mpr ⟨fun y hy => (h2 y hy).1, h1⟩, fun y hy => ?_⟩
    rcases List.mem_cons.mp hy with e | e
    · rw [e]; exact h.1
    · have := h2 y e
      omega
theorem weigh_mk {c : Int} {l r : List Int} (h1 : sideN l c = true) (h2 : sideN r c = true) (h3 : l.length = r.length) (h4 : ∀ x ∈ l, x ∉ r) : weighB c l r = true := by
  unfold weighB
  have h5 : (l.any fun x => decide (x ∈ r)) = false := by
    rw [List.any_eq_false]
    intro x hx q
    exact h4 x hx (of_decide_eq_true q)
  rw [h1, h2, decide_eq_true h3, h5] <;> rfl
theorem weigh_un {c : Int} {l r : List Int} (h : weighB c l r = true) : sideN l c = true ∧ sideN r c = true ∧ l.length = r.length ∧ ∀ x ∈ l, x ∉ r := by
  unfold weighB at h
  rw [Bool.and_eq_true, Bool.and_eq_true, Bool.and_eq_true, decide_eq_true_eq, Bool.not_eq_true'] at h
  obtain ⟨⟨⟨h1, h2⟩, h3⟩, h4⟩ := h
  refine ⟨h1, h2, h3, fun x hx hr => ?_⟩
  rw [List.any_eq_false] at h4
  exact h4 x hx (decide_eq_true hr)
theorem srt_lt {ns : List Int} (h : ns.Nodup) : (srt ns).Pairwise (· < ·) := by
  have h1 := srt_pair ns
  have h2 : (srt ns).Nodup := (srt_perm ns).nodup_iff.mpr h
  exact (List.pairwise_and_iff.mpr ⟨h1, h2⟩).imp fun ⟨a, b⟩ => by omega
theorem srt_mem {ns : List Int} {x : Int} : x ∈ srt ns ↔ x ∈ ns := (srt_perm ns).mem_iff
theorem srt_len (ns : List Int) : (srt ns).length = ns.length := (srt_perm ns).length_eq
/-! ### how many behind -/
def sg (m : List Nat) (c i : Nat) : Bool := decide (m.getD i 0 = c)
theorem beh_cnt (m : List Nat) (l r : List Int) (o : List Nat) (c : Nat) : (behindL m l r o).count c = cnt m.length (fun i => decide (leftover (m.getD i 0) (sideOf l r o (i : Nat)) o = c)) := by
  unfold behindL
  rw [List.count_eq_countP, List.countP_map]
  refine cnt_congr (n := m.length) fun i _ => ?_
  show (leftover (m.getD i 0) (sideOf l r o (i : Nat)) o == c) = _
  exact beq_dec _ _
/-- dn what goes down, up what goes up -/
theorem many_tilt {m : List Nat} {l r : List Int} {o : List Nat} {dn up : List Int} (ho : o ≠ tEven) (hd : (if o = tRight then r else l) = dn) (hu : (if o = tRight then l else r) = up) :
    manyN m l r o ≤ cnt m.length (fun i => inL dn i && (sg m 101 i || sg m 104 i)) + cnt m.length (fun i => inL up i && (sg m 101 i || sg m 108 i)) := by
  unfold manyN
  rw [decide_eq_false ho, Bool.false_and, if_neg Bool.false_ne_true, beh_cnt, beh_cnt, beh_cnt]
  have lo : ∀ i : Nat, leftover (m.getD i 0) (sideOf l r o (i : Nat)) o = if 0 < sideOf l r o (i : Nat) ∧ (m.getD i 0 = 101 ∨ m.getD i 0 = 104) then 104 else if sideOf l r o (i : Nat) < 0 ∧ (m.getD i 0 = 101 ∨ m.getD i 0 = 108) then 108 else 103 := fun i => by
    unfold leftover
    rw [if_neg ho]
  have sd : ∀ i : Nat, 0 < sideOf l r o (i : Nat) → inL dn i = true := fun i h => by
    unfold sideOf at h
    rw [hu, hd] at h
    unfold inL
    by_cases a : (i : Int) ∈ dn
    · exact decide_eq_true a
    · rw [if_neg a] at h
      split at h <;> omega
  have su : ∀ i : Nat, sideOf l r o (i : Nat) < 0 → inL up i = true := fun i h => by
    unfold sideOf at h
    rw [hu, hd] at h
    unfold inL
    by_cases a : (i : Int) ∈ up
    · exact decide_eq_true a
    · rw [if_neg a] at h
      split at h <;> omega
  have z0 : cnt m.length (fun i => decide (leftover (m.getD i 0) (sideOf l r o (i : Nat)) o = 101)) = 0 := cnt_false fun i _ => by
    rw [lo]
    refine decide_eq_false ?_
    split
    · decide
    · split <;> decide
  have z1 : cnt m.length (fun i => decide (leftover (m.getD i 0) (sideOf l r o (i : Nat)) o = 104)) ≤ cnt m.length (fun i => inL dn i && (sg m 101 i || sg m 104 i)) := cnt_mono fun i _ q => by
    have q := of_decide_eq_true q
    rw [lo] at q
    by_cases a : 0 < sideOf l r o (i : Nat) ∧ (m.getD i 0 = 101 ∨ m.getD i 0 = 104)
    · rw [sd i a.1, Bool.true_and]
      unfold sg
      rcases a.2 with e | e
      · rw [decide_eq_true e] <;> rfl
      · rw [decide_eq_true e, Bool.or_true]
    · rw [if_neg a] at q
      split at q <;> cases q
  have z2 : cnt m.length (fun i => decide (leftover (m.getD i 0) (sideOf l r o (i : Nat)) o = 108)) ≤ cnt m.length (fun i => inL up i && (sg m 101 i || sg m 108 i)) := cnt_mono fun i _ q => by
    have q := of_decide_eq_true q
    rw [lo] at q
    by_cases a : 0 < sideOf l r o (i : Nat) ∧ (m.getD i 0 = 101 ∨ m.getD i 0 = 104)
    · rw [if_pos a] at q
      cases q
    · rw [if_neg a] at q
      by_cases b : sideOf l r o (i : Nat) < 0 ∧ (m.getD i 0 = 101 ∨ m.getD i 0 = 108)
      · rw [su i b.1, Bool.true_and]
        unfold sg
        rcases b.2 with e | e
        · rw [decide_eq_true e] <;> rfl
        · rw [decide_eq_true e, Bool.or_true]
      · rw [if_neg b] at q
        cases q
  omega
theorem side_none {l r : List Int} {o : List Nat} {i : Nat} (ho : o ≠ tRight) : (sideOf l r o (i : Nat) = 0) ↔ (inL l i || inL r i) = false := by
  unfold sideOf inL
  rw [if_neg ho, if_neg ho]
  by_cases a : (i : Int) ∈ r
  · rw [if_pos a, decide_eq_true a, Bool.or_true]
    simp
  · rw [if_neg a, decide_eq_false a, Bool.or_false]
    by_cases b : (i : Int) ∈ l
    · rw [if_pos b, decide_eq_true b]
      simp
    · rw [if_neg b, decide_eq_false b]
      simp
theorem even_at {m : List Nat} {l r : List Int} {i : Nat} : leftover (m.getD i 0) (sideOf l r tEven (i : Nat)) tEven = if (inL l i || inL r i) = true then 103 else m.getD i 0 := by
  unfold leftover
  rw [if_pos rfl]
  by_cases h : sideOf l r tEven (i : Nat) = 0
  · rw [if_pos h, (side_none (by decide)).mp h] <;> rfl
  · have : ¬ (inL l i || inL r i) = false := fun q => h ((side_none (by decide)).mpr q)
    rw [if_neg h, if_pos (by rwa [Bool.not_eq_false] at this)]
theorem even_cnt {m : List Nat} {l r : List Int} {c : Nat} (hc : c ≠ 103) : (behindL m l r tEven).count c = cnt m.length (fun i => sg m c i && !(inL l i || inL r i)) := by
  rw [beh_cnt]
  refine cnt_congr fun i _ => ?_
  rw [even_at]
  unfold sg
  by_cases a : (inL l i || inL r i) = true
  · rw [if_pos a, a, decide_eq_false (fun q => hc q.symm)]
    simp
  · rw [if_neg a]
    have : (inL l i || inL r i) = false := by simpa using a
    rw [this]
    simp
theorem many_even {m : List Nat} {l r : List Int} : manyN m l r tEven = 2 * cnt m.length (fun i => sg m 101 i && !(inL l i || inL r i)) + cnt m.length (fun i => sg m 104 i && !(inL l i || inL r i)) + cnt m.length (fun i => sg m 108 i && !(inL l i || inL r i)) + if tiltB m then 0 else 1 := by
  unfold manyN
  rw [even_cnt (by decide), even_cnt (by decide), even_cnt (by decide), decide_eq_true rfl, Bool.true_and]
  cases tiltB m <;> rfl
end Od

namespace Od
theorem inL_app (l r : List Int) (i : Nat) : inL (l ++ r) i = (inL l i || inL r i) := by
  unfold inL
  rw [← Bool.decide_or]
  exact decide_eq_decide.mpr List.mem_append
theorem inL_of {l r : List Int} {i : Nat} (h : ∀ x : Int, x ∈ l ↔ x ∈ r) : inL l i = inL r i := decide_eq_decide.mpr (h _)
theorem inL_end {l : List Int} {n i : Nat} (h : i < n) : inL (l ++ [(n : Int)]) i = inL l i := by
  rw [inL_app]
  have e : inL [(n : Int)] i = false := decide_eq_false fun q => by
    have := List.mem_singleton.mp q
    omega
  rw [e, Bool.or_false]
theorem cnt_and {n : Nat} {l : List Int} {p : Nat → Bool} : cnt n (fun i => inL l i && p i) ≤ l.length :=
  Nat.le_trans (cnt_mono fun i _ q => (Bool.and_eq_true _ _ ▸ q : _ ∧ _).1) (cnt_len n l)
theorem pow_odd : ∀ k : Nat, 3 ^ k % 2 = 1
  | 0 => rfl
  | k + 1 => by
    rw [Nat.pow_succ]
    have := pow_odd k
    omega
theorem cut3 {α : Type} (l : List α) (a b : Nat) : l.take a ++ (l.drop a).take b = l.take (a + b) := (List.take_add).symm
theorem either_right {m : List Nat} {out : Nat} (h4 : m.count 104 = 0) (h8 : m.count 108 = 0) (ht : tiltB m = false) (hodd : out % 2 = 1) (h1 : out < 2 * m.count 101 + 1) (h2 : 2 * m.count 101 + 1 ≤ 3 * out) :
    let q := eitherL (idx 101 m) (m.length : Nat) out
    weighB (m.length : Nat) q.1 q.2 = true ∧ (∀ o ∈ outs, manyN m q.1 q.2 o ≤ out) ∧ q.1.length ≤ m.length := by
  have hE := idx_len m 101
  have hlt := idx_lt m 101
  have hmem : ∀ x ∈ idx 101 m, 0 ≤ x ∧ x < m.length ∧ m.getD x.toNat 0 = 101 := fun x hx => idx_mem hx
  have hcl : m.count 101 ≤ m.length := List.count_le_length
  unfold eitherL
  dsimp only
  rw [hE]
  generalize hmany : (2 * m.count 101 + 2 - out) / 2 = many
  generalize hhalf : (many + 1) / 2 = half
  generalize idx 101 m = E at *
  have e1 : 2 * many = 2 * m.count 101 + 1 - out := by omega
  have e2 : many ≤ m.count 101 := by omega
  have ll : (E.take half).length = half := by rw [List.length_take]; omega
  have lr : ((E.drop half).take (many - half)).length = many - half := by rw [List.length_take, List.length_drop]; omega
  have hD : E.take half ++ (E.drop half).take (many - half) = E.take many := by
    rw [cut3]
    congr 1
    omega
  have hDlt : (E.take many).Pairwise (· < ·) := hlt.sublist (List.take_sublist _ _)
  have hl1 : (E.take half).Pairwise (· < ·) := hlt.sublist (List.take_sublist _ _)
  have hr1 : ((E.drop half).take (many - half)).Pairwise (· < ·) := hlt.sublist ((List.take_sublist _ _).trans (List.drop_sublist _ _))
  have hdis : ∀ x ∈ E.take half, ∀ y ∈ (E.drop half).take (many - half), x < y := by
    rw [← hD] at hDlt
    exact (List.pairwise_append.mp hDlt).2.2
  have hlm : ∀ x ∈ E.take half, 0 ≤ x ∧ x < m.length := fun x hx => ⟨(hmem x (mem_take_of hx)).1, (hmem x (mem_take_of hx)).2.1⟩
  have hrm : ∀ x ∈ (E.drop half).take (many - half), 0 ≤ x ∧ x < m.length := fun x hx => ⟨(hmem x (mem_drop_of (mem_take_of hx))).1, (hmem x (mem_drop_of (mem_take_of hx))).2.1⟩
  -- the right side, the coin beside in it or not
  have main : ∀ r : List Int, (∀ i, i < m.length → inL r i = inL ((E.drop half).take (many - half)) i) → ∀ o ∈ outs, manyN m (E.take half) r o ≤ out := by
    intro r hr o ho
    have c1 : ∀ p : Nat → Bool, cnt m.length (fun i => inL (E.take half) i && p i) ≤ half := fun p => by
      have := cnt_and (n := m.length) (l := E.take half) (p := p)
      omega
    have c2 : ∀ p : Nat → Bool, cnt m.length (fun i => inL r i && p i) ≤ many - half := fun p => by
      have e : cnt m.length (fun i => inL r i && p i) = cnt m.length (fun i => inL ((E.drop half).take (many - half)) i && p i) := cnt_congr fun i hi => by rw [hr i hi]
      have := cnt_and (n := m.length) (l := (E.drop half).take (many - half)) (p := p)
      omega
    have ho2 : o = tLeft ∨ o = tRight ∨ o = tEven := by simpa [outs] using ho
    rcases ho2 with e | e | e
    · subst e
      have := many_tilt (m := m) (l := E.take half) (r := r) (o := tLeft) (dn := E.take half) (up := r) (by decide) (if_neg (by decide)) (if_neg (by decide))
      have a1 := c1 (fun i => sg m 101 i || sg m 104 i)
      have a2 := c2 (fun i => sg m 101 i || sg m 108 i)
      omega
    · subst e
      have := many_tilt (m := m) (l := E.take half) (r := r) (o := tRight) (dn := r) (up := E.take half) (by decide) (if_pos rfl) (if_pos rfl)
      have a1 := c2 (fun i => sg m 101 i || sg m 104 i)
      have a2 := c1 (fun i => sg m 101 i || sg m 108 i)
      omega
    · subst e
      rw [many_even, ht]
      have z4 : cnt m.length (fun i => sg m 104 i && !(inL (E.take half) i || inL r i)) = 0 := by
        have := cnt_mono (n := m.length) (p := fun i => sg m 104 i && !(inL (E.take half) i || inL r i)) (q := sg m 104) fun i _ q => (Bool.and_eq_true _ _ ▸ q : _ ∧ _).1
        rw [show cnt m.length (sg m 104) = m.count 104 from (sign_cnt m 104).symm] at this
        omega
      have z8 : cnt m.length (fun i => sg m 108 i && !(inL (E.take half) i || inL r i)) = 0 := by
        have := cnt_mono (n := m.length) (p := fun i => sg m 108 i && !(inL (E.take half) i || inL r i)) (q := sg m 108) fun i _ q => (Bool.and_eq_true _ _ ▸ q : _ ∧ _).1
        rw [show cnt m.length (sg m 108) = m.count 108 from (sign_cnt m 108).symm] at this
        omega
      have z1 := cnt_diff m.length (sg m 101) (E.take many) (lt_nodup hDlt) fun x hx => ⟨(hmem x (mem_take_of hx)).1, (hmem x (mem_take_of hx)).2.1, decide_eq_true (hmem x (mem_take_of hx)).2.2⟩
      rw [show cnt m.length (sg m 101) = m.count 101 from (sign_cnt m 101).symm] at z1
      have z2 : cnt m.length (fun i => sg m 101 i && !(inL (E.take half) i || inL r i)) = cnt m.length (fun i => sg m 101 i && !inL (E.take many) i) := cnt_congr fun i hi => by
        rw [hr i hi, ← inL_app, hD]
      have z3 : (E.take many).length = many := by rw [List.length_take]; omega
      rw [z4, z8, z2]
      simp only [Bool.false_eq_true, if_false]
      omega
  by_cases hc : ((E.drop half).take (many - half)).length < (E.take half).length
  · rw [if_pos hc]
    refine ⟨weigh_mk (side_lt hl1 fun x hx => ⟨(hlm x hx).1, Int.le_of_lt (hlm x hx).2⟩) (side_lt ?_ fun x hx => ?_) ?_ fun x hx hx2 => ?_, main _ fun i hi => inL_end hi, by omega⟩
    · exact List.pairwise_append.mpr ⟨hr1, List.pairwise_singleton _ _, fun a ha b hb => by
        rw [List.mem_singleton.mp hb]
        exact (hrm a ha).2⟩
    · rcases List.mem_append.mp hx with q | q
      · exact ⟨(hrm x q).1, Int.le_of_lt (hrm x q).2⟩
      · rw [List.mem_singleton.mp q]; omega
    · rw [List.length_append, List.length_singleton]
      omega
    · rcases List.mem_append.mp hx2 with q | q
      · have := hdis x hx x q; omega
      · have := List.mem_singleton.mp q
        have := (hlm x hx).2
        omega
  · rw [if_neg hc]
    exact ⟨weigh_mk (side_lt hl1 fun x hx => ⟨(hlm x hx).1, Int.le_of_lt (hlm x hx).2⟩) (side_lt hr1 fun x hx => ⟨(hrm x hx).1, Int.le_of_lt (hrm x hx).2⟩) (by omega) fun x hx hx2 => by have := hdis x hx x hx2; omega, main _ fun i _ => rfl, by omega⟩
end Od

namespace Od
theorem cnt_sub {n : Nat} {p : Nat → Bool} {l : List Int} (h : ∀ i, i < n → p i = true → inL l i = true) : cnt n p ≤ l.length := Nat.le_trans (cnt_mono h) (cnt_len n l)
theorem inL_iff {l : List Int} {i : Nat} : inL l i = true ↔ (i : Int) ∈ l := ⟨fun h => of_decide_eq_true h, fun h => decide_eq_true h⟩
theorem sg_or {m : List Nat} {a b i : Nat} (h : (sg m a i || sg m b i) = true) : m.getD i 0 = a ∨ m.getD i 0 = b := by
  rw [Bool.or_eq_true] at h
  rcases h with h | h
  · exact .inl (of_decide_eq_true h)
  · exact .inr (of_decide_eq_true h)
theorem tilted_right {m : List Nat} {out : Nat} (h1 : m.count 101 = 0) (ht : tiltB m = true) (hodd : out % 2 = 1) (g1 : out < m.count 104 + m.count 108) (g2 : m.count 104 + m.count 108 ≤ 3 * out) :
    let q := tiltedL (idx 104 m) (idx 108 m) (m.length : Nat) out
    weighB (m.length : Nat) q.1 q.2 = true ∧ (∀ o ∈ outs, manyN m q.1 q.2 o ≤ out) ∧ q.1.length ≤ m.length := by
  have eH := idx_len m 104
  have eL := idx_len m 108
  have ltH := idx_lt m 104
  have ltL := idx_lt m 108
  have mH : ∀ x ∈ idx 104 m, 0 ≤ x ∧ x < m.length ∧ m.getD x.toNat 0 = 104 := fun x hx => idx_mem hx
  have mL : ∀ x ∈ idx 108 m, 0 ≤ x ∧ x < m.length ∧ m.getD x.toNat 0 = 108 := fun x hx => idx_mem hx
  have cl4 : m.count 104 ≤ m.length := List.count_le_length
  have cl8 : m.count 108 ≤ m.length := List.count_le_length
  have n1 : ∀ i, i < m.length → m.getD i 0 ≠ 101 := fun i hi q => by
    have z := cnt_one m.length i (sg m 101) (decide_eq_true q) hi
    rw [show cnt m.length (sg m 101) = m.count 101 from (sign_cnt m 101).symm] at z
    omega
  have k4 : ∀ i : Nat, (i : Int) ∈ idx 104 m → m.getD i 0 = 104 := fun i h => by
    have := (mH _ h).2.2
    rwa [Int.toNat_natCast] at this
  have k8 : ∀ i : Nat, (i : Int) ∈ idx 108 m → m.getD i 0 = 108 := fun i h => by
    have := (mL _ h).2.2
    rwa [Int.toNat_natCast] at this
  have z101 : ∀ p : Nat → Bool, cnt m.length (fun i => sg m 101 i && p i) = 0 := fun p => cnt_false fun i hi => by
    have : sg m 101 i = false := decide_eq_false (n1 i hi)
    rw [this, Bool.false_and]
  unfold tiltedL
  dsimp only
  rw [eH, eL]
  generalize hdue : (m.count 104 + m.count 108 + 1 - out) / 2 = due
  generalize hf : min due (m.count 104 / 2) = first
  generalize hs : min (due - first) (m.count 108 / 2) = second
  generalize idx 104 m = Hh at *
  generalize idx 108 m = Ll at *
  by_cases hc : first + second < due
  · rw [if_pos hc]
    have o1 : out = 1 := by omega
    have c4 : m.count 104 = 1 := by omega
    have c8 : m.count 108 = 1 := by omega
    have ln : (Hh.take 1).length = 1 := by rw [List.length_take]; omega
    have hm1 : ∀ x ∈ Hh.take 1, 0 ≤ x ∧ x < m.length := fun x hx => ⟨(mH x (mem_take_of hx)).1, (mH x (mem_take_of hx)).2.1⟩
    have zn : ∀ p : Nat → Bool, cnt m.length (fun i => inL [(m.length : Int)] i && p i) = 0 := fun p => cnt_false fun i hi => by
      have : inL [(m.length : Int)] i = false := decide_eq_false fun q => by
        have := List.mem_singleton.mp q
        omega
      rw [this, Bool.false_and]
    have zl : ∀ p : Nat → Bool, cnt m.length (fun i => inL (Hh.take 1) i && p i) ≤ 1 := fun p => by
      have := cnt_and (n := m.length) (l := Hh.take 1) (p := p)
      omega
    refine ⟨weigh_mk (side_lt (ltH.sublist (List.take_sublist _ _)) fun x hx => ⟨(hm1 x hx).1, Int.le_of_lt (hm1 x hx).2⟩) (side_lt (List.pairwise_singleton _ _) fun x hx => ?_) (by rw [ln]; rfl) fun x hx hx2 => ?_, fun o ho => ?_, by show (Hh.take 1).length ≤ _; omega⟩
    · rw [List.mem_singleton.mp hx]; omega
    · have a := List.mem_singleton.mp hx2
      have b := (hm1 x hx).2
      omega
    · show manyN m (Hh.take 1) [(m.length : Int)] o ≤ out
      have ho2 : o = tLeft ∨ o = tRight ∨ o = tEven := by simpa [outs] using ho
      rcases ho2 with e | e | e
      · subst e
        have := many_tilt (m := m) (l := Hh.take 1) (r := [(m.length : Int)]) (o := tLeft) (dn := Hh.take 1) (up := [(m.length : Int)]) (by decide) (if_neg (by decide)) (if_neg (by decide))
        have a1 := zl (fun i => sg m 101 i || sg m 104 i)
        have a2 := zn (fun i => sg m 101 i || sg m 108 i)
        omega
      · subst e
        have := many_tilt (m := m) (l := Hh.take 1) (r := [(m.length : Int)]) (o := tRight) (dn := [(m.length : Int)]) (up := Hh.take 1) (by decide) (if_pos rfl) (if_pos rfl)
        have a1 := zl (fun i => sg m 101 i || sg m 108 i)
        have a2 := zn (fun i => sg m 101 i || sg m 104 i)
        omega
      · subst e
        rw [many_even, z101, ht]
        have a1 : cnt m.length (fun i => sg m 104 i && !(inL (Hh.take 1) i || inL [(m.length : Int)] i)) ≤ cnt m.length (fun i => sg m 104 i && !inL (Hh.take 1) i) := cnt_mono fun i _ q => by
          cases a : inL (Hh.take 1) i <;> cases b : inL [(m.length : Int)] i <;> cases c : sg m 104 i <;> simp_all
        have a2 := cnt_diff m.length (sg m 104) (Hh.take 1) (lt_nodup (ltH.sublist (List.take_sublist _ _))) fun x hx => ⟨(hm1 x hx).1, (hm1 x hx).2, decide_eq_true (mH x (mem_take_of hx)).2.2⟩
        rw [show cnt m.length (sg m 104) = m.count 104 from (sign_cnt m 104).symm] at a2
        have a3 := cnt_mono (n := m.length) (p := fun i => sg m 108 i && !(inL (Hh.take 1) i || inL [(m.length : Int)] i)) (q := sg m 108) fun i _ q => (Bool.and_eq_true _ _ ▸ q : _ ∧ _).1
        rw [show cnt m.length (sg m 108) = m.count 108 from (sign_cnt m 108).symm] at a3
        simp only [if_true]
        omega
  · rw [if_neg hc]
    have b1 : first + second = due := by omega
    have b2 : 2 * first ≤ m.count 104 := by omega
    have b3 : 2 * second ≤ m.count 108 := by omega
    have dH : Hh.take first ++ (Hh.drop first).take first = Hh.take (2 * first) := by
      rw [cut3]; congr 1; omega
    have dL : Ll.take second ++ (Ll.drop second).take second = Ll.take (2 * second) := by
      rw [cut3]; congr 1; omega
    have pH : (Hh.take (2 * first)).Pairwise (· < ·) := ltH.sublist (List.take_sublist _ _)
    have pL : (Ll.take (2 * second)).Pairwise (· < ·) := ltL.sublist (List.take_sublist _ _)
    have xH : ∀ x ∈ Hh.take first, ∀ y ∈ (Hh.drop first).take first, x < y := by
      have z := pH
      rw [← dH] at z
      exact (List.pairwise_append.mp z).2.2
    have xL : ∀ x ∈ Ll.take second, ∀ y ∈ (Ll.drop second).take second, x < y := by
      have z := pL
      rw [← dL] at z
      exact (List.pairwise_append.mp z).2.2
    have HL : ∀ x ∈ Hh, ∀ y ∈ Ll, x ≠ y := fun x hx y hy e => by
      have a := (mH x hx).2.2
      have b := (mL y hy).2.2
      rw [e] at a
      omega
    have h1m : ∀ x ∈ Hh.take first, x ∈ Hh := fun x hx => mem_take_of hx
    have h2m : ∀ x ∈ (Hh.drop first).take first, x ∈ Hh := fun x hx => mem_drop_of (mem_take_of hx)
    have l1m : ∀ x ∈ Ll.take second, x ∈ Ll := fun x hx => mem_take_of hx
    have l2m : ∀ x ∈ (Ll.drop second).take second, x ∈ Ll := fun x hx => mem_drop_of (mem_take_of hx)
    have ln1 : (Hh.take first).length = first := by rw [List.length_take]; omega
    have ln2 : ((Hh.drop first).take first).length = first := by rw [List.length_take, List.length_drop]; omega
    have ln3 : (Ll.take second).length = second := by rw [List.length_take]; omega
    have ln4 : ((Ll.drop second).take second).length = second := by rw [List.length_take, List.length_drop]; omega
    have ndl : (Hh.take first ++ Ll.take second).Nodup := List.nodup_append.mpr ⟨lt_nodup (ltH.sublist (List.take_sublist _ _)), lt_nodup (ltL.sublist (List.take_sublist _ _)), fun x hx y hy => HL x (h1m x hx) y (l1m y hy)⟩
    have ndr : ((Hh.drop first).take first ++ (Ll.drop second).take second).Nodup := List.nodup_append.mpr ⟨lt_nodup (ltH.sublist ((List.take_sublist _ _).trans (List.drop_sublist _ _))), lt_nodup (ltL.sublist ((List.take_sublist _ _).trans (List.drop_sublist _ _))), fun x hx y hy => HL x (h2m x hx) y (l2m y hy)⟩
    generalize Hh.take first = A1 at *
    generalize (Hh.drop first).take first = A2 at *
    generalize Ll.take second = B1 at *
    generalize (Ll.drop second).take second = B2 at *
    have rng : ∀ x, x ∈ Hh ∨ x ∈ Ll → 0 ≤ x ∧ x ≤ (m.length : Int) := fun x hx => by
      rcases hx with q | q
      · have := mH x q; omega
      · have := mL x q; omega
    have meml : ∀ x, x ∈ srt (A1 ++ B1) ↔ x ∈ A1 ∨ x ∈ B1 := fun x => srt_mem.trans List.mem_append
    have memr : ∀ x, x ∈ srt (A2 ++ B2) ↔ x ∈ A2 ∨ x ∈ B2 := fun x => srt_mem.trans List.mem_append
    have p1 : ∀ i, i < m.length → (inL (srt (A1 ++ B1)) i && (sg m 101 i || sg m 104 i)) = true → inL A1 i = true := fun i hi q => by
      rw [Bool.and_eq_true] at q
      rcases (meml _).mp (inL_iff.mp q.1) with a | a
      · exact inL_iff.mpr a
      · have e := k8 i (l1m _ a)
        rcases sg_or q.2 with b | b <;> omega
    have p2 : ∀ i, i < m.length → (inL (srt (A2 ++ B2)) i && (sg m 101 i || sg m 104 i)) = true → inL A2 i = true := fun i hi q => by
      rw [Bool.and_eq_true] at q
      rcases (memr _).mp (inL_iff.mp q.1) with a | a
      · exact inL_iff.mpr a
      · have e := k8 i (l2m _ a)
        rcases sg_or q.2 with b | b <;> omega
    have p3 : ∀ i, i < m.length → (inL (srt (A1 ++ B1)) i && (sg m 101 i || sg m 108 i)) = true → inL B1 i = true := fun i hi q => by
      rw [Bool.and_eq_true] at q
      rcases (meml _).mp (inL_iff.mp q.1) with a | a
      · have e := k4 i (h1m _ a)
        rcases sg_or q.2 with b | b <;> omega
      · exact inL_iff.mpr a
    have p4 : ∀ i, i < m.length → (inL (srt (A2 ++ B2)) i && (sg m 101 i || sg m 108 i)) = true → inL B2 i = true := fun i hi q => by
      rw [Bool.and_eq_true] at q
      rcases (memr _).mp (inL_iff.mp q.1) with a | a
      · have e := k4 i (h2m _ a)
        rcases sg_or q.2 with b | b <;> omega
      · exact inL_iff.mpr a
    refine ⟨weigh_mk (side_lt (srt_lt ndl) fun x hx => rng x ?_) (side_lt (srt_lt ndr) fun x hx => rng x ?_) (by show (srt _).length = (srt _).length; rw [srt_len, srt_len, List.length_append, List.length_append]; omega) fun x hx hx2 => ?_, fun o ho => ?_, by show (srt _).length ≤ _; rw [srt_len, List.length_append]; omega⟩
    · rcases (meml x).mp hx with q | q
      · exact .inl (h1m x q)
      · exact .inr (l1m x q)
    · rcases (memr x).mp hx with q | q
      · exact .inl (h2m x q)
      · exact .inr (l2m x q)
    · rcases (meml x).mp hx with q | q <;> rcases (memr x).mp hx2 with q2 | q2
      · have := xH x q x q2; omega
      · exact HL x (h1m x q) x (l2m x q2) rfl
      · exact HL x (h2m x q2) x (l1m x q) rfl
      · have := xL x q x q2; omega
    · show manyN m (srt (A1 ++ B1)) (srt (A2 ++ B2)) o ≤ out
      have ho2 : o = tLeft ∨ o = tRight ∨ o = tEven := by simpa [outs] using ho
      rcases ho2 with e | e | e
      · subst e
        have := many_tilt (m := m) (l := srt (A1 ++ B1)) (r := srt (A2 ++ B2)) (o := tLeft) (dn := srt (A1 ++ B1)) (up := srt (A2 ++ B2)) (by decide) (if_neg (by decide)) (if_neg (by decide))
        have a1 := cnt_sub p1
        have a2 := cnt_sub p4
        omega
      · subst e
        have := many_tilt (m := m) (l := srt (A1 ++ B1)) (r := srt (A2 ++ B2)) (o := tRight) (dn := srt (A2 ++ B2)) (up := srt (A1 ++ B1)) (by decide) (if_pos rfl) (if_pos rfl)
        have a1 := cnt_sub p2
        have a2 := cnt_sub p3
        omega
      · subst e
        rw [many_even, z101, ht]
        have a1 : cnt m.length (fun i => sg m 104 i && !(inL (srt (A1 ++ B1)) i || inL (srt (A2 ++ B2)) i)) ≤ cnt m.length (fun i => sg m 104 i && !inL (Hh.take (2 * first)) i) := cnt_mono fun i hi q => by
          rw [Bool.and_eq_true, Bool.not_eq_true', Bool.or_eq_false_iff] at q
          rw [Bool.and_eq_true, Bool.not_eq_true']
          refine ⟨q.1, ?_⟩
          rw [← dH, inL_app, Bool.or_eq_false_iff]
          refine ⟨decide_eq_false fun a => ?_, decide_eq_false fun a => ?_⟩
          · have := inL_iff.mpr ((meml _).mpr (.inl a)); rw [q.2.1] at this; cases this
          · have := inL_iff.mpr ((memr _).mpr (.inl a)); rw [q.2.2] at this; cases this
        have a2 : cnt m.length (fun i => sg m 108 i && !(inL (srt (A1 ++ B1)) i || inL (srt (A2 ++ B2)) i)) ≤ cnt m.length (fun i => sg m 108 i && !inL (Ll.take (2 * second)) i) := cnt_mono fun i hi q => by
          rw [Bool.and_eq_true, Bool.not_eq_true', Bool.or_eq_false_iff] at q
          rw [Bool.and_eq_true, Bool.not_eq_true']
          refine ⟨q.1, ?_⟩
          rw [← dL, inL_app, Bool.or_eq_false_iff]
          refine ⟨decide_eq_false fun a => ?_, decide_eq_false fun a => ?_⟩
          · have := inL_iff.mpr ((meml _).mpr (.inr a)); rw [q.2.1] at this; cases this
          · have := inL_iff.mpr ((memr _).mpr (.inr a)); rw [q.2.2] at this; cases this
        have a3 := cnt_diff m.length (sg m 104) (Hh.take (2 * first)) (lt_nodup pH) fun x hx => ⟨(mH x (mem_take_of hx)).1, (mH x (mem_take_of hx)).2.1, decide_eq_true (mH x (mem_take_of hx)).2.2⟩
        have a4 := cnt_diff m.length (sg m 108) (Ll.take (2 * second)) (lt_nodup pL) fun x hx => ⟨(mL x (mem_take_of hx)).1, (mL x (mem_take_of hx)).2.1, decide_eq_true (mL x (mem_take_of hx)).2.2⟩
        rw [show cnt m.length (sg m 104) = m.count 104 from (sign_cnt m 104).symm] at a3
        rw [show cnt m.length (sg m 108) = m.count 108 from (sign_cnt m 108).symm] at a4
        have a5 : (Hh.take (2 * first)).length = 2 * first := by rw [List.length_take]; omega
        have a6 : (Ll.take (2 * second)).length = 2 * second := by rw [List.length_take]; omega
        simp only [if_true]
        omega
/-! ### what is told is right -/
theorem tilt_cnt {m : List Nat} : tiltB m = false ↔ m.count 104 = 0 ∧ m.count 108 = 0 := by
  unfold tiltB
  rw [Bool.or_eq_false_iff, decide_eq_false_iff_not, decide_eq_false_iff_not, ← List.count_eq_zero, ← List.count_eq_zero]
theorem marks_tilt {m : List Nat} (hm : marksB m = true) (ht : tiltB m = true) : m.count 101 = 0 := by
  unfold marksB at hm
  unfold tiltB at ht
  rw [ht, Bool.and_true, Bool.and_eq_true, Bool.not_eq_true', decide_eq_false_iff_not] at hm
  exact List.count_eq_zero.mpr hm.2
theorem told_right {m : List Nat} (hm : marksB m = true) (hc : 1 < casesN m) :
    weighB (m.length : Nat) (pairL m).1 (pairL m).2 = true ∧ (∀ o ∈ outs, manyN m (pairL m).1 (pairL m).2 o ≤ 3 ^ (wf (casesN m) - 1)) ∧ (pairL m).1.length ≤ m.length := by
  have w1 : 0 < wf (casesN m) := by
    have := wf_le 0 (casesN m)
    omega
  have w2 : casesN m ≤ 3 * 3 ^ (wf (casesN m) - 1) := by
    have := (wf_le (wf (casesN m)) (casesN m)).mpr (Nat.le_refl _)
    have e : wf (casesN m) = wf (casesN m) - 1 + 1 := by omega
    rw [e, Nat.pow_succ] at this
    omega
  have w3 : 3 ^ (wf (casesN m) - 1) < casesN m := (wf_gt _ _).mpr (by omega)
  have odd := pow_odd (wf (casesN m) - 1)
  unfold pairL
  generalize 3 ^ (wf (casesN m) - 1) = out at *
  have e4 := idx_len m 104
  have e8 := idx_len m 108
  cases ht : tiltB m with
  | false =>
    obtain ⟨c4, c8⟩ := tilt_cnt.mp ht
    have z4 : idx 104 m = [] := List.length_eq_zero_iff.mp (by omega)
    have z8 : idx 108 m = [] := List.length_eq_zero_iff.mp (by omega)
    have ec : casesN m = 2 * m.count 101 + 1 := by
      unfold casesN
      rw [ht, c4, c8]
      rfl
    rw [if_pos (by rw [z4, z8] <;> rfl)]
    exact either_right c4 c8 ht odd (by omega) (by omega)
  | true =>
    have c1 := marks_tilt hm ht
    have ec : casesN m = m.count 104 + m.count 108 := by
      unfold casesN
      rw [ht, c1]
      simp
    rw [if_neg fun q => by
      have := congrArg List.length q
      rw [List.length_append, List.length_nil] at this
      omega]
    exact tilted_right c1 ht odd (by omega) (by omega)
end Od

namespace Od
/-! ## one odd coin, or none, by weighing after weighing: plain -/
def oddIn (m : List Nat) (odd : Int) (hv : Bool) : Bool := if odd < 0 then !tiltB m else decide (m.getD odd.toNat 0 = 101) || decide (m.getD odd.toNat 0 = if hv then 104 else 108)
def outc (l r : List Int) (odd : Int) (hv : Bool) : List Nat := if odd ∈ l then (if hv then tLeft else tRight) else if odd ∈ r then (if hv then tRight else tLeft) else tEven
theorem beh_len (m : List Nat) (l r : List Int) (o : List Nat) : (behindL m l r o).length = m.length := by
  unfold behindL
  rw [List.length_map, List.length_range]
theorem beh_get {m : List Nat} {l r : List Int} {o : List Nat} {i : Nat} (h : i < m.length) : (behindL m l r o).getD i 0 = leftover (m.getD i 0) (sideOf l r o (i : Nat)) o := by
  unfold behindL
  rw [List.getD_eq_getElem?_getD, List.getElem?_map, List.getElem?_range h]
  rfl
theorem get_mem {m : List Nat} {i : Nat} (h : i < m.length) : m.getD i 0 ∈ m := by
  rw [List.getD_eq_getElem?_getD, List.getElem?_eq_getElem h]
  exact List.getElem_mem h
theorem beh_mem {m : List Nat} {l r : List Int} {o : List Nat} {c : Nat} (h : c ∈ behindL m l r o) : ∃ d ∈ m, ∃ z, c = leftover d z o := by
  unfold behindL at h
  obtain ⟨i, hi, rfl⟩ := List.mem_map.mp h
  exact ⟨_, get_mem (List.mem_range.mp hi), _, rfl⟩
theorem left_even {d : Nat} {z : Int} : leftover d z tEven = d ∨ leftover d z tEven = 103 := by
  unfold leftover
  rw [if_pos rfl]
  split
  · exact .inl rfl
  · exact .inr rfl
theorem left_side {d : Nat} {z : Int} {o : List Nat} (ho : o ≠ tEven) : leftover d z o = 104 ∨ leftover d z o = 108 ∨ leftover d z o = 103 := by
  unfold leftover
  rw [if_neg ho]
  split
  · exact .inl rfl
  · split
    · exact .inr (.inl rfl)
    · exact .inr (.inr rfl)
theorem marks_un {m : List Nat} (h : marksB m = true) : (∀ c ∈ m, c = 101 ∨ c = 104 ∨ c = 108 ∨ c = 103) ∧ (101 ∈ m → ¬ 104 ∈ m ∧ ¬ 108 ∈ m) := by
  unfold marksB at h
  rw [Bool.and_eq_true, List.all_eq_true, Bool.not_eq_true'] at h
  refine ⟨fun c hc => by simpa using of_decide_eq_true (h.1 c hc), fun e => ?_⟩
  have q := h.2
  rw [decide_eq_true e, Bool.true_and, Bool.or_eq_false_iff, decide_eq_false_iff_not, decide_eq_false_iff_not] at q
  exact q
theorem marks_mk {m : List Nat} (h1 : ∀ c ∈ m, c = 101 ∨ c = 104 ∨ c = 108 ∨ c = 103) (h2 : 101 ∈ m → ¬ 104 ∈ m ∧ ¬ 108 ∈ m) : marksB m = true := by
  unfold marksB
  rw [Bool.and_eq_true, List.all_eq_true, Bool.not_eq_true']
  refine ⟨fun c hc => decide_eq_true (by simpa using h1 c hc), ?_⟩
  by_cases e : 101 ∈ m
  · obtain ⟨a, b⟩ := h2 e
    rw [decide_eq_false a, decide_eq_false b]
    simp
  · rw [decide_eq_false e] <;> rfl
theorem beh_marks {m : List Nat} {l r : List Int} {o : List Nat} (hm : marksB m = true) : marksB (behindL m l r o) = true := by
  obtain ⟨h1, h2⟩ := marks_un hm
  by_cases ho : o = tEven
  · subst ho
    have back : ∀ c ∈ behindL m l r tEven, c ≠ 103 → c ∈ m := fun c hc n => by
      obtain ⟨d, hd, z, rfl⟩ := beh_mem hc
      rcases left_even (d := d) (z := z) with e | e
      · rw [e]; exact hd
      · exact absurd e n
    refine marks_mk (fun c hc => ?_) fun e => ?_
    · by_cases n : c = 103
      · exact .inr (.inr (.inr n))
      · exact h1 c (back c hc n)
    · obtain ⟨a, b⟩ := h2 (back _ e (by decide))
      exact ⟨fun q => a (back _ q (by decide)), fun q => b (back _ q (by decide))⟩
  · have no : ∀ c ∈ behindL m l r o, c = 104 ∨ c = 108 ∨ c = 103 := fun c hc => by
      obtain ⟨d, hd, z, rfl⟩ := beh_mem hc
      exact left_side ho
    refine marks_mk (fun c hc => .inr (no c hc)) fun e => ?_
    rcases no _ e with q | q | q <;> cases q
theorem beh_cases {m : List Nat} {l r : List Int} {o : List Nat} (hm : marksB m = true) : casesN (behindL m l r o) ≤ max 1 (manyN m l r o) := by
  unfold casesN manyN
  cases ht : tiltB (behindL m l r o) with
  | true =>
    simp only [if_true]
    omega
  | false =>
    obtain ⟨c4, c8⟩ := tilt_cnt.mp ht
    by_cases ho : o = tEven
    · cases hm2 : tiltB m with
      | false =>
        rw [decide_eq_true ho]
        simp only [Bool.not_false, Bool.and_true, if_true, Bool.false_eq_true, if_false]
        omega
      | true =>
        have c1 := List.count_eq_zero.mp (marks_tilt hm hm2)
        have d1 : (behindL m l r o).count 101 = 0 := List.count_eq_zero.mpr fun q => by
          obtain ⟨d, hd, z, e⟩ := beh_mem q
          subst ho
          rcases left_even (d := d) (z := z) with a | a
          · rw [a] at e; rw [← e] at hd; exact c1 hd
          · rw [a] at e; cases e
        rw [c4, c8, d1]
        simp only [Bool.false_eq_true, if_false]
        omega
    · have d1 : (behindL m l r o).count 101 = 0 := List.count_eq_zero.mpr fun q => by
        obtain ⟨d, hd, z, e⟩ := beh_mem q
        rcases left_side (d := d) (z := z) ho with a | a | a <;> (rw [a] at e; cases e)
      rw [c4, c8, d1]
      simp only [Bool.false_eq_true, if_false]
      omega
theorem pos_many {m : List Nat} {l r : List Int} {o : List Nat} {c : Nat} (h : c ∈ behindL m l r o) (hc : c = 101 ∨ c = 104 ∨ c = 108) : 1 ≤ manyN m l r o := by
  have := List.count_pos_iff.mpr h
  unfold manyN
  rcases hc with e | e | e <;> (subst e; omega)
theorem side_lr {l r : List Int} {o : List Nat} (ho : o ≠ tRight) (i : Int) : sideOf l r o i = if i ∈ r then -1 else if i ∈ l then 1 else 0 := by
  unfold sideOf
  rw [if_neg ho, if_neg ho]
theorem side_rl {l r : List Int} (i : Int) : sideOf l r tRight i = if i ∈ l then -1 else if i ∈ r then 1 else 0 := rfl
theorem led_step {m : List Nat} {l r : List Int} {odd : Int} {hv : Bool} (hw : weighB (m.length : Nat) l r = true) (h1 : -1 ≤ odd) (h2 : odd < m.length) (hi : oddIn m odd hv = true) :
    outc l r odd hv ∈ outs ∧ oddIn (behindL m l r (outc l r odd hv)) odd hv = true ∧ 1 ≤ manyN m l r (outc l r odd hv) := by
  obtain ⟨s1, s2, s3, s4⟩ := weigh_un hw
  have q1 : ∀ x ∈ l, 0 ≤ x := fun x hx => by have := (lt_side l _ _ s1).2 x hx; omega
  have q2 : ∀ x ∈ r, 0 ≤ x := fun x hx => by have := (lt_side r _ _ s2).2 x hx; omega
  have mem : outc l r odd hv ∈ outs := by
    unfold outc
    split
    · cases hv <;> decide
    · split
      · cases hv <;> decide
      · decide
  refine ⟨mem, ?_⟩
  by_cases neg : odd < 0
  · have n1 : odd ∉ l := fun q => by have := q1 _ q; omega
    have n2 : odd ∉ r := fun q => by have := q2 _ q; omega
    have eo : outc l r odd hv = tEven := by
      unfold outc
      rw [if_neg n1, if_neg n2]
    rw [eo]
    unfold oddIn at hi ⊢
    rw [if_pos neg] at hi ⊢
    rw [Bool.not_eq_true'] at hi
    obtain ⟨a, b⟩ := tilt_cnt.mp hi
    have back : ∀ c ∈ behindL m l r tEven, c ≠ 103 → c ∈ m := fun c hc n => by
      obtain ⟨d, hd, z, rfl⟩ := beh_mem hc
      rcases left_even (d := d) (z := z) with e | e
      · rw [e]; exact hd
      · exact absurd e n
    refine ⟨?_, ?_⟩
    · rw [Bool.not_eq_true']
      exact tilt_cnt.mpr ⟨List.count_eq_zero.mpr fun q => List.count_eq_zero.mp a (back _ q (by decide)), List.count_eq_zero.mpr fun q => List.count_eq_zero.mp b (back _ q (by decide))⟩
    · unfold manyN
      rw [hi]
      simp
  · have hi2 : m.getD odd.toNat 0 = 101 ∨ m.getD odd.toNat 0 = if hv then 104 else 108 := by
      unfold oddIn at hi
      rw [if_neg neg, Bool.or_eq_true, decide_eq_true_eq, decide_eq_true_eq] at hi
      exact hi
    have hk : odd.toNat < m.length := by omega
    have ek : ((odd.toNat : Nat) : Int) = odd := by omega
    have goal : leftover (m.getD odd.toNat 0) (sideOf l r (outc l r odd hv) odd) (outc l r odd hv) = 101 ∨ leftover (m.getD odd.toNat 0) (sideOf l r (outc l r odd hv) odd) (outc l r odd hv) = if hv then 104 else 108 := by
      by_cases a : odd ∈ l
      · have b : odd ∉ r := s4 _ a
        cases hv with
        | true =>
          have eo : outc l r odd true = tLeft := by unfold outc; rw [if_pos a]; rfl
          rw [eo]
          have es : sideOf l r tLeft odd = 1 := by rw [side_lr (by decide), if_neg b, if_pos a]
          rw [es]
          unfold leftover
          rw [if_neg (by decide), if_pos ⟨by decide, by simpa using hi2⟩]
          exact .inr rfl
        | false =>
          have eo : outc l r odd false = tRight := by unfold outc; rw [if_pos a]; rfl
          rw [eo]
          have es : sideOf l r tRight odd = -1 := by rw [side_rl, if_pos a]
          rw [es]
          unfold leftover
          rw [if_neg (by decide), if_neg (by simp), if_pos ⟨by decide, by simpa using hi2⟩]
          exact .inr rfl
      · by_cases b : odd ∈ r
        · cases hv with
          | true =>
            have eo : outc l r odd true = tRight := by unfold outc; rw [if_neg a, if_pos b]; rfl
            rw [eo]
            have es : sideOf l r tRight odd = 1 := by rw [side_rl, if_neg a, if_pos b]
            rw [es]
            unfold leftover
            rw [if_neg (by decide), if_pos ⟨by decide, by simpa using hi2⟩]
            exact .inr rfl
          | false =>
            have eo : outc l r odd false = tLeft := by unfold outc; rw [if_neg a, if_pos b]; rfl
            rw [eo]
            have es : sideOf l r tLeft odd = -1 := by rw [side_lr (by decide), if_pos b]
            rw [es]
            unfold leftover
            rw [if_neg (by decide), if_neg (by simp), if_pos ⟨by decide, by simpa using hi2⟩]
            exact .inr rfl
        · have eo : outc l r odd hv = tEven := by unfold outc; rw [if_neg a, if_neg b]
          rw [eo]
          have es : sideOf l r tEven odd = 0 := by rw [side_lr (by decide), if_neg b, if_neg a]
          rw [es]
          unfold leftover
          rw [if_pos rfl, if_pos rfl]
          exact hi2
    have got := beh_get (l := l) (r := r) (o := outc l r odd hv) hk
    rw [ek] at got
    rw [← got] at goal
    refine ⟨?_, ?_⟩
    · unfold oddIn
      rw [if_neg neg, Bool.or_eq_true, decide_eq_true_eq, decide_eq_true_eq]
      exact goal
    · refine pos_many (get_mem (by rw [beh_len]; exact hk)) ?_
      rcases goal with e | e
      · exact .inl e
      · cases hv with
        | true => exact .inr (.inl e)
        | false => exact .inr (.inr e)
theorem one_list {l : List Int} {x : Int} (h1 : l.length = 1) (h2 : x ∈ l) : l = [x] := by
  match l, h1 with
  | [y], _ => rw [List.mem_singleton.mp h2]
theorem led_done {m : List Nat} {odd : Int} {hv : Bool} (h1 : -1 ≤ odd) (h2 : odd < m.length) (hi : oddIn m odd hv = true) (hc : casesN m ≤ 1) :
    toldA m = if odd < 0 then .nothing else if hv then .heavy odd else .light odd := by
  unfold toldA
  rw [if_neg (by omega)]
  have e4 := idx_len m 104
  have e8 := idx_len m 108
  by_cases neg : odd < 0
  · rw [if_pos neg]
    unfold oddIn at hi
    rw [if_pos neg, Bool.not_eq_true'] at hi
    obtain ⟨a, b⟩ := tilt_cnt.mp hi
    have z4 : idx 104 m = [] := List.length_eq_zero_iff.mp (by omega)
    have z8 : idx 108 m = [] := List.length_eq_zero_iff.mp (by omega)
    rw [z4, z8]
  · rw [if_neg neg]
    have hk : odd.toNat < m.length := by omega
    have ek : ((odd.toNat : Nat) : Int) = odd := by omega
    have hi2 : m.getD odd.toNat 0 = 101 ∨ m.getD odd.toNat 0 = if hv then 104 else 108 := by
      unfold oddIn at hi
      rw [if_neg neg, Bool.or_eq_true, decide_eq_true_eq, decide_eq_true_eq] at hi
      exact hi
    have gm := get_mem hk
    have hc2 : 2 * m.count 101 + m.count 104 + m.count 108 ≤ 1 := by
      unfold casesN at hc
      omega
    rcases hi2 with e | e
    · rw [e] at gm
      have := List.count_pos_iff.mpr gm
      omega
    · rw [e] at gm
      cases hv with
      | true =>
        have c4 : 0 < m.count 104 := List.count_pos_iff.mpr gm
        have z : idx 104 m = [odd] := one_list (by omega) (by have := mem_idx hk e; rwa [ek] at this)
        rw [z]
        rfl
      | false =>
        have c8 : 0 < m.count 108 := List.count_pos_iff.mpr gm
        have z4 : idx 104 m = [] := List.length_eq_zero_iff.mp (by omega)
        have z : idx 108 m = [odd] := one_list (by omega) (by have := mem_idx hk e; rwa [ek] at this)
        rw [z4, z]
        rfl
/-- the start -/
def allE (n : Nat) : List Nat := List.replicate n 101
theorem allE_no {n c : Nat} (h : c ≠ 101) : c ∉ allE n := fun q => h (List.eq_of_mem_replicate q)
theorem allE_marks (n : Nat) : marksB (allE n) = true := marks_mk (fun c hc => .inl (List.eq_of_mem_replicate hc)) fun _ => ⟨allE_no (by decide), allE_no (by decide)⟩
theorem allE_tilt (n : Nat) : tiltB (allE n) = false := tilt_cnt.mpr ⟨List.count_eq_zero.mpr (allE_no (by decide)), List.count_eq_zero.mpr (allE_no (by decide))⟩
theorem allE_odd {n : Nat} {odd : Int} {hv : Bool} (h1 : -1 ≤ odd) (h2 : odd < n) : oddIn (allE n) odd hv = true := by
  unfold oddIn
  by_cases neg : odd < 0
  · rw [if_pos neg, allE_tilt] <;> rfl
  · rw [if_neg neg, Bool.or_eq_true]
    left
    refine decide_eq_true ?_
    unfold allE
    rw [List.getD_eq_getElem?_getD, List.getElem?_replicate, if_pos (by omega)]
    rfl
end Od

namespace Od
open PySem PySem.Spec PyProof.Rows L2 SX Evl
section
variable {K : PySem.W.Frag} {σ : L2.St} {H : Hp} {D : Ends} {tu tz : TS} {xs : List V}
/-- for i, x in enumerate(list) -/
theorem go_forEL {a : Addr} {tl : TA} {j1 j2 : Nat} (P : Nat → L2.St → Hp → Prop) (h : EvA tl σ H [.ref a]) (hx : SqL K H a xs) (h0 : P 0 σ H) (hl : ∀ i σ' Hk, P i σ' Hk → SqL K Hk a xs)
    (hs : ∀ i x σ' Hk, xs[i]? = some x → P i σ' Hk → Go Hk (tu { D with nx := Up (P (i + 1)), ct := Up (P (i + 1)), bk := tz D } ((σ'.set j1 (some (.int (i : Nat)))).set j2 (some x)))) (hd : ∀ σ' Hk, P xs.length σ' Hk → Go Hk (tz D σ')) :
    Go H (tSeq (tFor (iEnum K tl) (gTup K 2 (gCons (gName j1) (gCons (gName j2) gNil))) tu) tz D σ) := fun H0 e0 => h H0 e0 _ fun H1 e => ⟨a, xs, rfl, ex_l (e0.trans e) hx,
      for_it (D := { D with nx := tz D }) walk_enum (fun i => Up (P i)) ⟨H, h0, e0.trans e⟩ (fun i σ' H' _ ⟨Hk, p, ek⟩ => ex_l ek (hl i σ' Hk p)) (fun i x σ' H' H'' hi ⟨Hk, p, ek⟩ yy => by
        obtain ⟨T, u, v, ev, hT, eH, e1, e2⟩ := yy
        have e1 := Option.some.inj e1
        subst ev eH e1
        exact ⟨T, _, rfl, st_of upd_same, rfl, _, _, rfl, _, _, rfl, rfl, hs i _ σ' Hk e2 p _ (ek.trans (Ex.new hT))⟩) (fun σ' H' ⟨Hk, p, ek⟩ => hd σ' Hk p H' ek)⟩
end
/-! ## a def's body, apart from its object -/
def BodyOk (P : Program) (w : World) (K : PySem.W.Frag) (mg : Str → Option Value) (base : Heap) (k : Nat) (x : Str) (st : Stmt) (f : Addr) (N : List Str) (sp : Sp) : Prop :=
  ∀ (cdv : Value) (A : Around) (outer : List Env) (s : Shared) (H : Hp) (vs : List V) (Q : VK) (E : XK), Room k (A.deeper (envOfC x (defScope st) s.heap.objs.size f cdv)) → sp vs H Q E →
    ∃ t, PSs (cxOf CX0 P w K mg base N x (defScope st) f cdv A outer s H E).nox (defBody st) t ∧ Go H (t { nx := fun _ H' => Q .non H', rt := Q } (start N vs))
theorem BodyOk.fn {P : Program} {w : World} {K : PySem.W.Frag} {mg : Str → Option Value} {base : Heap} {x : Str} {st : Stmt} {f : Addr} {fd : FuncData} {N ps : List Str} {k : Nat} {sp : Sp} (F : FunD K x x (defArgs st) (defBody st) (defScope st) [] [] f fd) (S : FnScope N ps (defScope st))
    (len : ∀ vs H Q E, sp vs H Q E → vs.length = ps.length) (b : BodyOk P w K mg base k x st f N sp) : FnOk P w K mg base CX0 (k + 1) f fd ps sp :=
  F.ok S len fun cdv A outer s H vs Q E hr hsp => by
    obtain ⟨t, h, q⟩ := b cdv A outer s H vs Q E hr hsp
    exact ⟨t, h.nox, q.here⟩
/-! ## is None -/
def rNoneI : R2 := fun v z H R => z = .non ∧ R (.bl (decide (v = .non))) H
def rNoneN : R2 := fun v z H R => z = .non ∧ R (.bl (!decide (v = .non))) H
theorem op_noneI {X : Cx} : OpR X (compareOp .Is) rNoneI := L2.op_isN
theorem op_noneN {X : Cx} : OpR X (compareOp .IsNot) rNoneN := L2.op_notN
theorem ev_noneI {σ : L2.St} {H : Hp} {ta tb : TE} {x : V} (ha : Ev ta σ H x) (hb : Ev tb σ H .non) : Ev (tOp rNoneI ta tb) σ H (.bl (decide (x = .non))) := ev_op ha hb fun H1 _ _ q => ⟨rfl, q H1 (Ex.refl H1)⟩
theorem ev_noneN {σ : L2.St} {H : Hp} {ta tb : TE} {x : V} (ha : Ev ta σ H x) (hb : Ev tb σ H .non) : Ev (tOp rNoneN ta tb) σ H (.bl (!decide (x = .non))) := ev_op ha hb fun H1 _ _ q => ⟨rfl, q H1 (Ex.refl H1)⟩
/-! ## the draws -/
def primes : List Int := [1000003, 1000033, 1000037, 1000039, 1000081, 1000099, 1000117, 1000121, 1000133, 1000151, 1000159, 1000171, 1000183, 1000187, 1000193, 1000199]
def drawI (c : Int) (k : Nat) (many : Int) : Int := (c * 48271 + (k : Int) * 69621) % primes.getD (k % 16) 1 % many
theorem draw_0 {c : Int} {k : Nat} {many : Int} (h : 0 < many) : 0 ≤ drawI c k many := Int.emod_nonneg _ (by omega)
theorem draw_lt {c : Int} {k : Nat} {many : Int} (h : 0 < many) : drawI c k many < many := Int.emod_lt_of_pos _ h
theorem primes_pos : ∀ i, i < 16 → 0 < primes.getD i 1 := by decide
theorem primes_at : ∀ i, i < 16 → (primes.map V.int)[i]? = some (.int (primes.getD i 1)) := by
  intro i hi
  rw [List.getElem?_map, List.getElem?_eq_getElem (by exact hi)]
  rw [List.getD_eq_getElem?_getD, List.getElem?_eq_getElem (by exact hi)]
  rfl
end Od

namespace Od
open PySem PySem.Spec PyProof.Rows L2 SX Evl
/-! ## set(list of ints) -/
abbrev noSet (w : World) : Obj := { cls := .type "set", dict := none, data := .set #[] 0 (.fresh 0 0 (!w.params.followText "set-order")) }
section
variable {P : Program} {w : World} {A : Around} {E : Value → Shared → Prop} {s : Shared}
theorem set_of_ints {l : Addr} {its : Array Value} (ns : List Int) {Q : Value → Shared → Prop} (hh : A.handled = none) (hl : s.heap.IsList l its) (hit : IntsAre its.toList ns) (hb : ns.length + 1 < scanBound)
    (h : ∀ (h1 : Heap) (tk c : Nat), SetR w h1 s.heap.objs.size (fun j => decide (j ∈ ns)) c → c ≤ ns.length → (∀ b o, s.heap.get? b = some o → h1.get? b = some o) → Q (.ref s.heap.objs.size) { s with heap := h1, toks := tk }) :
    wpAny (model P w) A (call (.type "set") [.ref l]) Q E s := by
  have size_is : its.size = ns.length := by rw [← Array.length_toList]; exact IntsAre.length hit
  obtain ⟨c0, tl0, mro0⟩ := F.called_set.mro
  have m1 := F.called_set.made
  have m2 := F.called_set.sub
  refine wpAny_call (codeAny_of_tree (show wpAny _ _ (callAny (.type "set") _) _ _ _ from ?_))
  refine wpAny_pure (And.intro (Code.quiet_builtin _ (by decide +kernel)) (codeAny_builtin F.entry_type_call ?_))
  rw [Around.under_plain (weight_type_call_type "set" [Value.ref l] []) rfl]
  have m3 := F.called_set.notType
  have m4 := F.called_set.canCreate
  have m5 := F.typeCall_set_1 (.ref l)
  repeat (any_goals (first | assumption | wp_step))
  refine codeAny_mono (code_set_led1 (.ref l) (E := E) (Q₁ := fun v s1 => v = .ref s.heap.objs.size ∧ s1 = { s with heap := s.heap.push (noSet w) }) (And.intro rfl rfl)) fun r s1 hr => ?_
  match r, hr with
  | .error e, hr => exact hr
  | .ok (.ret v), hr =>
    obtain ⟨rfl, rfl⟩ := hr
    have at0 : (s.heap.push (noSet w)).get? s.heap.objs.size = some (noSet w) := Heap.get?_push_size _ rfl
    have ty0 : Shared.TypeIs { s with heap := s.heap.push (noSet w) } (.ref s.heap.objs.size) "set" := ⟨_, at0, rfl⟩
    have m6 := F.called_set.init.lookup
    have m7 := F.called_set.init.bind (.ref s.heap.objs.size)
    repeat (any_goals (first | assumption | wp_step))
    refine codeAny_mono (codeAny_call_builtin (R := wants (fun r s2 => r = .none ∧ ∃ h1 tk c, s2 = { s with heap := h1, toks := tk } ∧ SetR w h1 s.heap.objs.size (fun j => decide (j ∈ ns)) c ∧ c ≤ ns.length ∧
      ∀ b o, s.heap.get? b = some o → h1.get? b = some o) E) F.called_set.init.plain F.entry_set_init (check_set_init_1 ty0 ?_)) fun r2 s2 hr2 => ?_
    · obtain ⟨⟨oc, od, odt, os⟩, hol, hcl, nl, hdl⟩ := hl
      simp only at hcl hdl
      subst hcl hdl
      have n1 := F.sub_list_set
      have n2 := F.sub_list_frozenset
      have n3 : (Value.type "list" == Value.type "dict") = false := by decide
      have old := Heap.get?_push_of_some (noSet w) hol
      have hl1 : (s.heap.push (noSet w)).IsList l its := ⟨_, old, rfl, nl, rfl⟩
      unfold Builtin.«set.__init__» noKeywords Builtin.Frozenset.updateFrom
      generalize hPI : pyIter = PI
      wp_walk
      subst hPI
      refine wpAny_pyIter_list hl1 (wpAny_bind (wpAny_runValue ?_))
      have lt0 : l < s.heap.objs.size := Heap.lt_size hol
      have quiet3 : A.in1.in1.in1.handled = none := by simp [hh]
      have sz1 : (s.heap.push (noSet w)).objs.size = s.heap.objs.size + 1 := Heap.size_push ..
      have apart : l ≠ (s.heap.push (noSet w)).objs.size := fun z => Nat.ne_of_lt (Nat.lt_succ_of_lt lt0) (z.trans sz1)
      have out0 : s.heap.objs.size ∉ [(s.heap.push (noSet w)).objs.size, l] := by
        intro z
        rcases List.mem_cons.mp z with z | z
        · exact Nat.ne_of_lt (Nat.lt_succ_self _) (z.trans sz1)
        · exact Nat.ne_of_gt lt0 (List.mem_singleton.mp z)
      have vals : ∀ (i : Nat) (v : Value), its[i]? = some v → ∃ k t, ns[i]? = some k ∧ v = .int k t := by
        intro i v hv
        have hi : i < ns.length := by rw [← size_is]; exact (Array.getElem?_eq_some_iff.mp hv).1
        obtain ⟨t, e⟩ := PyProof.Rows.IntsAre.int_at hit i v (Array.getElem?_toList.trans hv)
        exact ⟨ns[i], t, List.getElem?_eq_getElem hi, by rw [e, List.getD_eq_getElem?_getD, List.getElem?_eq_getElem hi] <;> rfl⟩
      refine set_update_ints ((Walks.list quiet3 _ l apart its).toS) s.heap.objs.size out0 ns size_is hb vals (its.size - 0) 0 _ (by omega) (Nat.zero_le _) ⟨⟨_, Heap.get?_push_size _ rfl, rfl, rfl⟩, (hl1.push _)⟩
        ⟨0, Nat.le_refl 0, setR_new_at (Heap.get?_push_of_some _ at0)⟩ fun s3 c3 mv hc3 hS3 => ?_
      obtain ⟨h3, g3, d3, t3, o3⟩ := s3
      have q1 : g3 = s.gens := mv.gens
      have q2 : d3 = s.drawn := mv.drawn
      have q3 : o3 = s.os := mv.os
      subst q1 q2 q3
      refine wpAny_pure (show wpAny _ _ (ret Value.none) _ _ _ from wpAny_pure ⟨rfl, h3, t3, c3, rfl, hS3, by rw [size_is] at hc3; exact hc3, fun b o e => ?_⟩)
      have hb0 : b < s.heap.objs.size := Heap.lt_size e
      refine mv.heap b o (fun z => ?_) (Heap.get?_push_of_some _ (Heap.get?_push_of_some _ e))
      rcases List.mem_cons.mp z with z | z
      · exact Nat.ne_of_lt hb0 z
      · exact Nat.ne_of_lt (Nat.lt_succ_of_lt hb0) ((List.mem_singleton.mp z).trans sz1)
    · match r2, hr2 with
      | .error e, hr2 => exact hr2
      | .ok (.ret r), hr2 =>
        obtain ⟨rfl, h1, tk, c, rfl, a1, a2, a3⟩ := hr2
        repeat (any_goals (first | assumption | wp_step))
        exact h _ _ _ a1 a2 a3
end
def rSetI (K : PySem.W.Frag) (w : World) : List V → Hp → VK → Prop := fun vs H Q => ∃ (p : Addr) (ns : List Int), vs = [.ref p] ∧ SqL K H p (ns.map V.int) ∧ ns.length ≤ 1000 ∧ ∀ (a : Addr) (c : Nat), H a = none → c ≤ ns.length → Q (.ref a) (upd H a (SetO w a (fun j => decide (j ∈ ns)) c))
/-- sorted(set), any number -/
def rSortedS (w : World) : List V → Hp → VK → Prop := fun vs H Q => ∃ (a : Addr) (T : Int → Bool) (n : Nat), vs = [.ref a] ∧ H a = some (SetO w a T n) ∧ n ≤ 1000 ∧
  ∀ (ns : List Int) (p : Addr), ns.Pairwise (· < ·) → (∀ k : Int, k ∈ ns ↔ T k = true) → H p = none → Q (.ref p) (upd H p (.lst (ns.map V.int)))
section
variable {X : Cx}
theorem call_setI (hc : X.calm = true) : CallR X (.type "set") (rSetI X.K X.w) := by
  intro pins s σ H vs us Q I r h
  obtain ⟨p, ns, rfl, hp, hl, q⟩ := h
  obtain ⟨its, rv, pl, hz⟩ := I.list hp
  rw [Vals.ref1 r]
  refine set_of_ints ns (I.ok.hd hc) pl.isList (ints_of_vals rv) (by unfold scanBound; omega) fun h1 tk c R hcn k => ?_
  refine ⟨.ref _, upd H s.heap.objs.size (SetO X.w s.heap.objs.size (fun j => decide (j ∈ ns)) c), I.laid (t' := tk) k (Nat.le_refl _) (setO_new R), rfl, q _ c (I.hok.fresh (Nat.le_refl _)) hcn⟩
end
end Od

namespace Od
open PySem PySem.Spec PyProof.Rows L2 SX Evl
/-! ## sorted(set), of any number -/
section
variable {P : Program} {w : World} {A : Around} {E : Value → Shared → Prop} {s : Shared} {a : Addr}
theorem sorted_of_set {T : Int → Bool} {n : Nat} {Q : Value → Shared → Prop} (R : SetR w s.heap a T n) (quiet : A.handled = none) (few : n ≤ 1000)
    (go : ∀ s2 p (ys : List Value) (c : Nat) (ns : List Int), (∀ b o, s.heap.get? b = some o → s2.heap.get? b = some o) → s2.gens = s.gens → s2.os = s.os → s.heap.objs.size ≤ p → s2.heap.get? p = some (seqObj "list" ys.toArray c) →
      IntsAre ys ns → ns.Pairwise (· < ·) → (∀ k, k ∈ ns ↔ T k = true) → ns.length = n → Q (.ref p) s2) :
    wpAny (model P w) A (call (.builtin "sorted") [.ref a]) Q E s := by
  obtain ⟨ob, els, ep, tb, at0, exact0, data0, good, nodup0, mem0, fits0, tfits, size0, ris0, led0⟩ := R
  refine Calls.call_function_entry kind_sorted plain_sorted entry_sorted (args_sorted1 _) (show wpAny _ _ (Builtin.«sorted» _) _ _ _ from ?_)
  unfold Builtin.«sorted»
  refine wpAny_bind (m := checkCount "sorted" 1 1 _) (wpAny_pure (wpAny_bind (collect_set (A := A.in1) quiet (And.intro at0 ⟨exact0.1, data0⟩ |> fun z => ⟨ob, z⟩) tfits fits0 ris0 led0 fun s1 vs keep1 grow1 gens1 os1 perm1 => ?_)))
  have many : vs.length = n := by
    have z := perm1.length_eq
    rw [List.length_map, Array.length_toList] at z
    exact z.trans size0
  have small : vs.length ≤ sizeLine := by
    rw [many, sizeLine_eq]
    omega
  have ints1 : IntsAre vs (vs.map Builtin.Re.reRawOf) := L2.ints_of vs fun v hv => by
    obtain ⟨el, hel, q⟩ := List.mem_map.mp (perm1.mem_iff.mp hv)
    obtain ⟨k, tk, h1, _⟩ := good el hel
    exact ⟨k, tk, q.symm.trans h1⟩
  have keys : (vs.map Builtin.Re.reRawOf).Perm (els.toList.map keyOf) := by
    have q := perm1.map Builtin.Re.reRawOf
    rwa [List.map_map] at q
  refine wpAny_bind (wpAny_newList ?_ small)
  have new1 : (s1.heap.push (seqObj "list" vs.toArray 0)).get? s1.heap.objs.size = some (seqObj "list" vs.toArray 0) := Heap.get?_push_size _ rfl
  refine wpAny_bind (wpAny_holding (wpAny_call_entry PyProof.Rows.slot_list_sort ⟨_, new1, rfl⟩ PyProof.Rows.entry_list_sort
    (SrtO.list_sort_ord SrtO.swo_int new1 small (fun two => SrtO.ints_sortable ints1 two) fun ys h1 h2 => (show ∃ v, _ from ⟨_, rfl, ?_⟩)) (PyProof.Rows.args_list_sort _)))
  obtain ⟨c, hc⟩ := PyProof.Rows.sortedHeap_at (vs := vs) (out := ys.toArray) new1
  obtain ⟨k1, k2, k3⟩ := SrtO.ints_out ints1 h1 h2
  have pn : (ys.map SrtO.iv).Perm (els.toList.map keyOf) := k2.trans keys
  refine wpAny_pure ⟨_, rfl, go _ s1.heap.objs.size ys c _ (fun b u e => ?_) gens1 os1 grow1 hc k1 (lt_of_le_nodup _ k3 (pn.nodup_iff.mpr nodup0)) (fun k => pn.mem_iff.trans (mem0 k).symm) ?_⟩
  · have q := keep1 b u e
    have lt1 := Heap.lt_size q
    exact (sortedHeap_old (Nat.ne_of_lt lt1) (by rw [PyProof.Rows.size_push']; exact Nat.lt_succ_of_lt lt1)).trans (Heap.get?_push_of_some _ q)
  · have z := pn.length_eq
    rw [List.length_map (f := keyOf), Array.length_toList] at z
    exact z.trans size0
end
section
variable {X : Cx}
theorem cr_sortedS (hc : X.calm = true) : CallR X (.builtin "sorted") (rSortedS X.w) := by
  intro pins s σ H vs us Q I r h
  obtain ⟨a, T, n, rfl, ha, few, q⟩ := h
  rw [Vals.ref1 r]
  refine sorted_of_set (setO_get I ha) (I.ok.hd hc) few fun s2 p ys c ns keep gens os hp at1 ints1 lt1 mem1 len1 => ?_
  have fresh : H p = none := I.hok.fresh hp
  have small : (ns.map V.int).length ≤ sizeLine := by
    rw [List.length_map, len1, sizeLine_eq]
    omega
  obtain ⟨h2, g2, d2, t2, o2⟩ := s2
  have e1 : g2 = s.gens := gens
  have e2 : o2 = s.os := os
  subst e1 e2
  exact ⟨.ref p, upd H p (.lst (ns.map V.int)), I.call (ch := []) (Un.laid keep hp fresh) (I.hok.laid keep hp ⟨small, ys, c, vals_of_ints ints1, at1⟩) I.bare (fun _ z => nomatch z), rfl, q ns p lt1 mem1 fresh⟩
/-! ## list.count of bools -/
def rCntB (K : PySem.W.Frag) : V → List V → Hp → VK → Prop := fun x xs H Q => ∃ (p : Addr) (bs : List Bool) (k : Bool), x = .ref p ∧ xs = [.bl k] ∧ SqL K H p (bs.map V.bl) ∧ Q (.int (bs.count k : Nat)) H
theorem vals_bools : ∀ (bs : List Bool) (us : List Value), Vals (bs.map V.bl) us → us = bs.map Value.bool
  | [], _, .nil => rfl
  | b :: bs, _, .cons r rr => by
    cases r
    rw [vals_bools bs _ rr] <;> rfl
theorem reads_bools (h : Heap) : ∀ bs : List Bool, ReadsAll h (bs.map Value.bool) (bs.map PyData.bool) []
  | [] => .nil
  | b :: bs => .cons (as := []) (.bool b) (reads_bools h bs)
theorem bools_has : ∀ bs : List Bool, (bs.map PyData.bool).all Shape.bool.has = true
  | [] => rfl
  | b :: bs => by
    rw [List.map_cons, List.all_cons, bools_has bs]
    rfl
theorem count_bools (k : Bool) : ∀ bs : List Bool, countIn (.bool k) (bs.map PyData.bool) = (bs.count k : Nat)
  | [] => rfl
  | b :: bs => by
    rw [List.map_cons, countIn, count_bools k bs, List.count_cons]
    cases b <;> cases k <;> simp [same] <;> omega
theorem mt_countB : MtR X "list.count" (rCntB X.K) := by
  intro pins s σ H x xs v us Q I rx rxs h
  obtain ⟨p, bs, k, rfl, rfl, hs, q⟩ := h
  cases rx
  obtain ⟨u, rfl, ru⟩ := rxs.one
  cases ru
  obtain ⟨its, rv, pl, _⟩ := I.list hs
  have e := vals_bools bs its rv
  subst e
  refine count_list_bools (hp := s.heap) pl.isList (reads_bools _ bs) (bools_has bs) ?_
  rw [count_bools]
  exact ⟨.int (bs.count k : Nat), H, I.tok _, ⟨_, rfl⟩, q⟩
end
/-! ## what these evaluate to -/
section
variable {K : PySem.W.Frag} {w : World} {σ : L2.St} {H H' : Hp} {ta tb tc te tx : TE} {p : Addr} {ns : List Int}
def dedup (ns : List Int) : List Int := (srt ns).eraseDups
/-- sorted(set(xs)) -/
theorem el_sortedSet (ha : Ev ta σ H (.ref p)) (hx : SqL K H p (ns.map V.int)) (hn : ns.length ≤ 1000) (ms : List Int) (hm : ∀ zs : List Int, zs.Pairwise (· < ·) → (∀ k, k ∈ zs ↔ k ∈ ns) → zs = ms) :
    EvL (tCB (rSortedS w) (tCons (tCB (rSetI K w) (tCons ta tNil)) tNil)) σ H (ms.map V.int) := fun H1 e Q k =>
  ha H1 e _ fun H2 e2 => ⟨p, ns, rfl, ex_l (e.trans e2) hx, hn, fun a c hf hc => ⟨a, _, c, rfl, upd_same, by omega, fun zs q lt1 mem1 hq => by
    have ez := hm zs lt1 fun k => (mem1 k).trans (by rw [decide_eq_true_eq])
    subst ez
    have x1 : Ex H2 (upd H2 a (SetO w a (fun j => decide (j ∈ ns)) c)) := Ex.new hf
    exact k q _ (fresh_back (e2.trans x1) hq) ((e2.trans x1).trans (Ex.new hq)) upd_same⟩⟩
theorem ev_countB {bs : List Bool} {k : Bool} (ha : Ev ta σ H (.ref p)) (hx : SqL K H p (bs.map V.bl)) (hb : Ev tb σ H (.bl k)) : Ev (tBM K "list" (rCntB K) ta (tCons tb tNil)) σ H (.int (bs.count k : Nat)) := fun H1 e Q q =>
  ha H1 e _ fun H2 e2 => ⟨Or.inl ⟨rfl, _, ex_l (e.trans e2) hx⟩, hb H2 (e.trans e2) _ fun H3 e3 => ⟨p, bs, k, rfl, rfl, ex_l ((e.trans e2).trans e3) hx, q H3 (e2.trans e3)⟩⟩
theorem ev_notBl {a b : Bool} (ha : Ev ta σ H (.bl a)) (hb : Ev tb σ H (.bl b)) : Ev (tOp rNotB ta tb) σ H (.bl (!decide (a = b))) := ev_op ha hb fun H1 _ _ q => ⟨a, b, rfl, rfl, q H1 (Ex.refl H1)⟩
theorem ev_isBl {a b : Bool} (ha : Ev ta σ H (.bl a)) (hb : Ev tb σ H (.bl b)) : Ev (tOp rIsB ta tb) σ H (.bl (decide (a = b))) := ev_op ha hb fun H1 _ _ q => ⟨a, b, rfl, rfl, q H1 (Ex.refl H1)⟩
theorem ev_maxN {m : Int} (ha : EvL ta σ H (ns.map V.int)) (hm : m ∈ ns) (hb : ∀ y ∈ ns, y ≤ m) : Ev (tCB (rMax K) (tCons ta tNil)) σ H (.int m) := fun H1 e Q q =>
  ha H1 e _ fun p H2 _ e2 h2 => ⟨p, ns, rfl, sq_of h2, List.length_pos_of_mem hm, fun k hk hk2 => by
    have : k = m := Int.le_antisymm (hb k hk) (hk2 m hm)
    rw [this]
    exact q H2 e2⟩
end
end Od

namespace Od
open PySem PySem.Spec PyProof.Rows L2 SX Evl
open PySem.Builtin PySem.Builtin.Str
section
variable {K : PySem.W.Frag} {σ : L2.St} {H H' : Hp} {ta tb tc te tx : TE} {t u : TT} {x y : V} {i j l : Nat} {D : Ends} {tu tw tz : TS} {xs ys : List V} {ns ms : List Int} {p q : Addr}
/-! ## cuts of lists of ints -/
def cutI (ns : List Int) (lo hi : Option Int) : List Int := (ns.drop (HT.sIx ns.length 0 lo)).take (HT.sIx ns.length ns.length hi - HT.sIx ns.length 0 lo)
theorem cut_ints (ns : List Int) (lo hi : Option Int) : cutV (ns.map V.int) lo hi = (cutI ns lo hi).map V.int := by
  unfold cutV cutI
  rw [List.length_map, List.map_take, List.map_drop]
theorem cutI_len (ns : List Int) (lo hi : Option Int) : (cutI ns lo hi).length ≤ ns.length := by
  unfold cutI
  rw [List.length_take, List.length_drop]
  omega
theorem el_cut {tl th : TO} {lo hi : Option Int} (h : Ev te σ H (.ref p)) (h1 : EvO tl σ H lo) (h2 : EvO th σ H hi) (hs : SqL K H p (ns.map V.int)) : EvL (tSl (rSlL K) te tl th) σ H ((cutI ns lo hi).map V.int) := by
  rw [← cut_ints]
  exact el_sl h h1 h2 hs
theorem el_revL (h : Ev te σ H (.ref p)) (hs : SqL K H p (ns.map V.int)) : EvL (tRevL K te) σ H (ns.reverse.map V.int) := fun H1 e Q q =>
  h H1 e _ fun H2 e2 => ⟨p, ns.map V.int, rfl, ex_l (e.trans e2) hs, fun a ha => q a _ (fresh_back e2 ha) (e2.trans (Ex.new ha)) (by rw [upd_same, List.map_reverse])⟩
/-- both bounds within a text -/
theorem ev_slTxt {tl th : TO} {m : List Nat} {a b : Int} (h : Ev te σ H (.str (S m))) (h1 : EvO tl σ H (some a)) (h2 : EvO th σ H (some b)) (ha : 0 ≤ a) (hab : a ≤ b) (hb : b ≤ m.length) (hm : m.length ≤ 100000) : Ev (tSl C8.rSlX te tl th) σ H (.str (S ((m.drop a.toNat).take (b - a).toNat))) := fun H1 e Q q =>
  h H1 e _ fun H2 e2 => h1 H2 (e.trans e2) _ fun H3 e3 => h2 H3 ((e.trans e2).trans e3) _ fun H4 e4 => ⟨S m, rfl, by rw [S_len]; exact sz_of hm, by
    have z := beq_iff_eq.mp (PyProof.Rows.slice_closes (x := S m) (i := a) (j := b) ⟨ha, hab, hb⟩)
    have z2 : Txt.slice (S m) (some a) (some b) = S ((m.drop a.toNat).take (b - a).toNat) := z.trans (TL.ext_tl rfl)
    rw [z2]
    exact q H4 ((e2.trans e3).trans e4)⟩
/-! ## assignments -/
theorem go_par3 {tr : TA} {v w z : V} (h : EvA tr σ H [v, w, z]) (k : Go H (tz D (((σ.set i (some v)).set j (some w)).set l (some z)))) : Go H (tSeq (tPar3 i j l tr) tz D σ) := fun H1 e => h H1 e _ fun H2 e2 => ⟨v, w, z, rfl, k H2 (e.trans e2)⟩
theorem go_par3LL {v : V} (h1 : EvL ta σ H xs) (h2 : EvL tb σ H ys) (h3 : Ev tc σ H v) (k : ∀ p q, H p = none → H q = none → p ≠ q → Go (upd (upd H p (.lst xs)) q (.lst ys)) (tz D (((σ.set i (some (.ref p))).set j (some (.ref q))).set l (some v)))) :
    Go H (tSeq (tPar3 i j l (tCons ta (tCons tb (tCons tc tNil)))) tz D σ) := fun H1 e => h1 H1 e _ fun p H2 hp e2 hp2 => h2 H2 (e.trans e2) _ fun q H3 hq e3 hq3 => h3 H3 ((e.trans e2).trans e3) _ fun H4 e4 => ⟨.ref p, .ref q, v, rfl,
      k p q (fresh_back e hp) (fresh_back (e.trans e2) hq) (ne_of_none hp2 hq) H4 (ex_upd (ex_upd (((e.trans e2).trans e3).trans e4) (e4 _ _ (e3 p _ hp2))) (e4 _ _ hq3))⟩
/-- a list of two new lists -/
theorem go_asgLL (h1 : EvL ta σ H xs) (h2 : EvL tb σ H ys) (k : ∀ p q l, H p = none → H q = none → H l = none → p ≠ q → p ≠ l → q ≠ l → Go (upd (upd (upd H p (.lst xs)) q (.lst ys)) l (.lst [.ref p, .ref q])) (tz D (σ.set i (some (.ref l))))) :
    Go H (tSeq (tAsg (tLst (tCons ta (tCons tb tNil))) (gName i)) tz D σ) := fun H1 e => h1 H1 e _ fun p H2 hp e2 hp2 => h2 H2 (e.trans e2) _ fun q H3 hq e3 hq3 => ⟨sz_of (by simp), fun l hl => by
      have hp3 := e3 p _ hp2
      exact k p q l (fresh_back e hp) (fresh_back (e.trans e2) hq) (fresh_back ((e.trans e2).trans e3) hl) (ne_of_none hp2 hq) (ne_of_none hp3 hl) (ne_of_none hq3 hl) _ (ex_upd2 (ex_upd (ex_upd ((e.trans e2).trans e3) hp3) hq3))⟩
theorem go_clear {l : Addr} (hl : H l = some (.lst xs)) (ha : Ev ta σ H (.ref l)) (k : Go (upd H l (.lst [])) (tz D σ)) : Go H (tSeq (tDrop (tBM0 K "list" rClear ta)) tz D σ) := fun H0 e0 => ha H0 e0 _ fun H1 e1 =>
  ⟨Or.inl ⟨rfl, xs, sq_of (e1 l _ (e0 l _ hl))⟩, l, xs, rfl, rfl, e1 l _ (e0 l _ hl), k _ (ex_upd2 (e0.trans e1))⟩
end
end Od

namespace Od
open PySem PySem.Spec PyProof.Rows L2 SX Evl
/-! ## enumerate(tuple) -/
abbrev tupIt (l : Addr) : Obj := { cls := .type "tuple_iterator", data := .fields #[.ref l, .int 0 0] }
abbrev enumOf (it : Addr) : Obj := { cls := .type "enumerate", data := .fields #[.none, .bool false, .ref it, rawInt 0, .none, .none] }
theorem enum_new_tup (l : Addr) (items : Array Value) (n : Nat) (dct : Option Addr) (sl : Array (Option Value)) :
    Meets (Builtin.«enumerate.__new__» ⟨[.type "enumerate", .ref l], []⟩) (fun _ R s => s.heap.get? l = some { cls := .type "tuple", dict := dct, data := .seq items n, slots := sl } ∧
      R (.ok (.ret (.ref (s.heap.push (tupIt l)).objs.size))) { s with heap := (s.heap.push (tupIt l)).push (enumOf s.heap.objs.size) }) :=
  .of_wp fun prog w A R s hh => by
    obtain ⟨hp, g, d, tk, os⟩ := s
    obtain ⟨hl, h⟩ := hh
    have hT : Heap.IsTuple hp l items := ⟨_, hl, rfl, n, rfl⟩
    have sub0 := sub_enumerate
    wp_walk
    refine wpAny_stack_any fun st => wpAny_pure ?_
    split
    · rename_i c _ _ _ _ _
      cases (c == Value.type "enumerate")
      · wp_walk using wpAny_loadPart' hl, wpAny_pyIter_tuple hT
        exact ⟨_, rfl, h⟩
      · wp_walk using wpAny_loadPart' hl, wpAny_pyIter_tuple hT
        exact ⟨_, rfl, h⟩
    · wp_walk using wpAny_loadPart' hl, wpAny_pyIter_tuple hT
      exact ⟨_, rfl, h⟩
section
variable {prog : Program} {w : World} {A : Around} {E : Value → Shared → Prop} {s : Shared}
theorem call_enum_tup {l : Addr} {items : Array Value} {Q : Value → Shared → Prop} (hT : s.heap.IsTuple l items)
    (h : ∀ h', IsEnum h' (s.heap.objs.size + 1) s.heap.objs.size 0 .none → h'.IsTupleIter s.heap.objs.size l 0 → h'.objs.size = s.heap.objs.size + 2 → (∀ b o, s.heap.get? b = some o → h'.get? b = some o) → Q (.ref (s.heap.objs.size + 1)) { s with heap := h' }) :
    wpAny (model prog w) A (call (.type "enumerate") [.ref l]) Q E s := by
  obtain ⟨⟨c, dct, dt, sl⟩, hl, hc, n, hd⟩ := hT
  simp only at hc hd
  subst hc hd
  refine callType_new F.called_enumerate (by decide) (F.typeCall_enumerate_1 _) (F.newCall_enumerate_1 _) (fun obj => F.args_object_init_2 obj _) F.entry_enumerate_new (enum_new_tup l items n dct sl) ⟨hl, ?_⟩
  have z1 : (s.heap.push (tupIt l)).objs.size = s.heap.objs.size + 1 := Heap.size_push ..
  show _ ∧ _
  rw [z1]
  have at1 : ((s.heap.push (tupIt l)).push (enumOf s.heap.objs.size)).get? (s.heap.objs.size + 1) = some (enumOf s.heap.objs.size) := by
    have q := Heap.get?_push_size (s.heap.push (tupIt l)) (o := enumOf s.heap.objs.size) rfl
    rwa [z1] at q
  exact ⟨⟨_, at1, rfl⟩, h _ at1 ⟨_, Heap.get?_push_of_some _ (Heap.get?_push_size _ rfl), rfl, rfl⟩ (by rw [Heap.size_push, z1]) fun b o x => Heap.get?_push_of_some _ (Heap.get?_push_of_some _ x)⟩
end
/-- the items of a tuple, each in a new pair -/
def ItT (K : PySem.W.Frag) (a : Addr) (xs : List V) : It :=
  ⟨fun i H => SqT K H a xs ∧ i < xs.length, fun i H v H' => ∃ T x, v = .ref T ∧ H T = none ∧ H' = upd H T (.tup [.int (i : Nat), x]) ∧ xs[i]? = some x, fun i H => SqT K H a xs ∧ i = xs.length⟩
theorem turn_enumT {P : Program} {w : World} {K : PySem.W.Frag} {elts : List Expr} {kk : Nat} {tpos : Pos} (a e it : Addr) (xs : List V) :
    Turn P w K (.Tuple elts kk tpos) (ItT K a xs) [e, it] e (fun i h => (∃ old, IsEnum h e it ((i : Nat) : Int) old) ∧ h.IsTupleIter it a i ∧ e ≠ it ∧ a ≠ it ∧ a ≠ e) where
  mem := by simp
  obj := fun i h st b hb => by
    obtain ⟨⟨old, he⟩, ⟨o, ho, hc, hd⟩, _⟩ := st
    have e' : b = e ∨ b = it := by simpa using hb
    rcases e' with z | z
    · rw [z]; exact ⟨_, he, fun v q => nomatch q⟩
    · rw [z]; exact ⟨o, ho, fun v q => by rw [hd] at q; cases q⟩
  keep := fun i h h' st k => let ⟨⟨old, he⟩, hi, hne⟩ := st; ⟨⟨old, k e (by simp) _ he⟩, hi.at fun o q => k it (by simp) o q, hne⟩
  item := by
    intro X hP hw hK hc i pins s σ H E I hf st hg
    subst hP hw hK
    obtain ⟨⟨old, he⟩, hit, hne, hai, hae⟩ := st
    obtain ⟨hq, hi⟩ := hg
    obtain ⟨its, rv, pl, hz⟩ := I.tuple hq
    have hlen := rv.length
    have lt_e : e < s.heap.objs.size := Heap.lt_size he
    have lt_i : it < s.heap.objs.size := by obtain ⟨_, q, _⟩ := hit; exact Heap.lt_size q
    have D := Draws.tuple (prog := X.prog) (w := X.w) (A := X.A.in1) (I.ok.hd hc) it a hai its.toArray
    refine wpAny_pyNext_enum_itemD D he ⟨hit, pl⟩ (by rw [List.size_toArray]; omega) hne (by simp; exact ⟨hne, Ne.symm hae⟩) fun y h' tk hP ho hit' hT hsz hk => ?_
    obtain ⟨x, hx⟩ : ∃ x, xs[i]? = some x := ⟨xs[i], List.getElem?_eq_getElem hi⟩
    obtain ⟨u, hu, ru⟩ := rv.get hx
    have eu : y = u := by
      have z : its[i]? = some y := by simpa using hP
      rw [z] at hu
      exact Option.some.inj hu
    subst eu
    refine ⟨_, rfl, wpAny_letOwnedTupleGo_enum (s := { s with heap := h', toks := tk + 1 }) ho fun h'' he' sb => ?_⟩
    have at2 : h''.get? s.heap.objs.size = some { cls := .type "tuple", data := .seq #[.int i tk, y] } := (sb.2 _ (Nat.ne_of_gt lt_e)).trans hT
    have new : ObjOk X.prog X.w (upd H s.heap.objs.size (.tup [.int (i : Nat), x])) h'' s.heap.objs.size (.tup [.int (i : Nat), x]) :=
      ⟨by show 2 ≤ sizeLine; decide, [.int i tk, y], .cons ⟨_, rfl⟩ (.cons ru .nil), ⟨_, at2, rfl, _, rfl⟩⟩
    have I1 : Inv X pins σ (upd H s.heap.objs.size (.tup [.int (i : Nat), x])) { s with heap := h'', toks := tk + 1 } :=
      I.turnedNew (ch := [e, it]) (fun b ob hb q => (sb.2 b (fun z => hb (by simp [z]))).trans (hk b ob (fun z => hb (by simp [z])) (fun z => hb (by simp [z])) q)) hf (Nat.le_refl _) new
    refine ⟨.ref s.heap.objs.size, _, I1, rfl, ⟨_, x, rfl, I.hok.fresh (Nat.le_refl _), rfl, hx⟩, ⟨⟨y, ?_⟩, ?_, hne, hai, hae⟩, fun b hb => ?_⟩
    · have e1 : ((i + 1 : Nat) : Int) = (i : Int) + 1 := by omega
      rw [e1]; exact he'
    · obtain ⟨o, ho2, r⟩ := hit'.1
      exact ⟨o, (sb.2 it (Ne.symm hne)).trans ho2, r⟩
    · have hb' : b < s.heap.objs.size := by
        have e' : b = e ∨ b = it := by simpa using hb
        rcases e' with z | z
        · rw [z]; exact lt_e
        · rw [z]; exact lt_i
      rw [upd_ne (Nat.ne_of_lt hb')]
      exact (hf b hb).1
  done := by
    intro X hP hw hK hc i pins s σ H E I hf st hg
    subst hP hw hK
    obtain ⟨⟨old, he⟩, hit, hne, hai, hae⟩ := st
    obtain ⟨hq, hi⟩ := hg
    obtain ⟨its, rv, pl, hz⟩ := I.tuple hq
    have hlen := rv.length
    obtain ⟨f0, f1, f2, f3, f4, f5⟩ := hf it (by simp)
    have D := Draws.tuple (prog := X.prog) (w := X.w) (A := X.A.in1) (I.ok.hd hc) it a hai its.toArray
    have ei : i = its.toArray.size := by rw [List.size_toArray]; omega
    rw [ei] at hit
    exact wpAny_pyNext_enum_endD D he ⟨hit, pl⟩ fun h' eb => ⟨rfl, I.turned (t' := s.toks) (fun b o hb q => eb b o hb q) f0 f1 f3 f4 f5⟩
  self := fun A i s Q E st h => let ⟨⟨_, he⟩, _⟩ := st; wpAny_pyIter_enum he h
section
variable {X : Cx}
def iEnumT (K : PySem.W.Frag) (ta : TA) : TI := fun σ H R => ta σ H fun vs H1 => ∃ a xs, vs = [.ref a] ∧ SqT K H1 a xs ∧ R (ItT K a xs) H1
theorem pi_enumT {e : Expr} {ta : TA} {p pos tpos : Pos} {elts : List Expr} {kk : Nat} (hg : Gl X "enumerate") (hm : X.mg "enumerate" = none) (ha : PA X [e] ta) (hs : starEach [e] X.env = [(false, eval e X.env)] := by rfl) :
    PI X (.Tuple elts kk tpos) (.Call (.Name "enumerate" p) [e] [] pos) (iEnumT X.K ta) := by
  refine ⟨fun pins s σ H R I h => ?_⟩
  refine Call_ (ld_blt I hg hm boot_enumerate (PyProof.Rows.callWith_type1 (thn (ha.run pos pins s σ H _ I h) fun us s1 ⟨vs, H1, I1, r1, q1⟩ => ?_) hs rfl))
  obtain ⟨a, xs, ex, hq, q⟩ := q1
  subst ex
  cases r1 with
  | cons r rr =>
    cases rr
    cases r
    obtain ⟨its, rv, pl, hz⟩ := I1.tuple hq
    have lt_a : a < s1.heap.objs.size := by obtain ⟨_, z, _⟩ := pl; exact Heap.lt_size z
    refine call_enum_tup pl fun h' he hit hsz hk => wpAny_pyIter_enum he ?_
    have I2 : Inv X pins σ H1 { s1 with heap := h' } := I1.kept (t' := s1.toks) hk
    refine ⟨s1.heap.objs.size + 1, [s1.heap.objs.size + 1, s1.heap.objs.size], _, _, H1, rfl, I2, turn_enumT (P := X.prog) (w := X.w) (K := X.K) (elts := elts) (kk := kk) (tpos := tpos) a (s1.heap.objs.size + 1) s1.heap.objs.size xs, ⟨⟨.none, he⟩, hit, Nat.succ_ne_self _, Nat.ne_of_lt lt_a, Nat.ne_of_lt (Nat.lt_succ_of_lt lt_a)⟩, fun b hb => ?_, q⟩
    have e' : b = s1.heap.objs.size + 1 ∨ b = s1.heap.objs.size := by simpa using hb
    have hle : s1.heap.objs.size ≤ b := by
      rcases e' with z | z
      · rw [z]; exact Nat.le_succ _
      · rw [z]; exact Nat.le_refl _
    exact I1.fpOk hle (I1.hok.fresh hle)
end
section
variable {K : PySem.W.Frag} {σ : L2.St} {H : Hp} {D : Ends} {tu tz : TS} {xs : List V}
theorem walk_enumT {a : Addr} : Walk (ItT K a xs) xs.length (fun H => SqT K H a xs) (YPair (fun i => some (.int (i : Nat))) (fun i => xs[i]?)) :=
  ⟨fun i H hi hq => ⟨hq, hi⟩, fun H hq => ⟨hq, rfl⟩, fun i H x H' hi hq ⟨T, y, e1, e2, e3, e4⟩ => ⟨T, .int (i : Nat), y, e1, e2, e3, rfl, e4⟩⟩
/-- for i, x in enumerate(the tuple just written) -/
theorem go_forET {te : TE} {j1 j2 : Nat} (P : Addr → Nat → L2.St → Hp → Prop) (h : EvU te σ H xs) (h0 : ∀ p, H p = none → P p 0 σ (upd H p (.tup xs))) (hl : ∀ p i σ' Hk, P p i σ' Hk → Hk p = some (.tup xs))
    (hs : ∀ p i x σ' Hk, xs[i]? = some x → P p i σ' Hk → Go Hk (tu { D with nx := Up (P p (i + 1)), ct := Up (P p (i + 1)), bk := tz D } ((σ'.set j1 (some (.int (i : Nat)))).set j2 (some x)))) (hd : ∀ p σ' Hk, P p xs.length σ' Hk → Go Hk (tz D σ')) :
    Go H (tSeq (tFor (iEnumT K (tCons te tNil)) (gTup K 2 (gCons (gName j1) (gCons (gName j2) gNil))) tu) tz D σ) := fun H0 e0 => h H0 e0 _ fun p H1 hp e hp1 => ⟨p, xs, rfl, st_of hp1,
      for_it (D := { D with nx := tz D }) walk_enumT (fun i => Up (P p i)) ⟨_, h0 p (fresh_back e0 hp), ex_upd (e0.trans e) hp1⟩ (fun i σ' H' _ ⟨Hk, q, ek⟩ => ex_t ek (st_of (hl p i σ' Hk q))) (fun i x σ' H' H'' hi ⟨Hk, q, ek⟩ yy => by
        obtain ⟨T, u, v, ev, hT, eH, e1, e2⟩ := yy
        have e1 := Option.some.inj e1
        subst ev eH e1
        exact ⟨T, _, rfl, st_of upd_same, rfl, _, _, rfl, _, _, rfl, rfl, hs p i _ σ' Hk e2 q _ (ek.trans (Ex.new hT))⟩) (fun σ' H' ⟨Hk, q, ek⟩ => hd p σ' Hk q H' ek)⟩
end
end Od

namespace Od
open PySem PySem.Spec PyProof.Rows L2 SX Evl
/-! ## defs that may raise: the exception's context is None -/
abbrev CXn (P : Program) (w : World) : CXT := L2N.CX P w
def S1x (R : V → Hp → VK → XK → Prop) : Sp := fun vs H Q E => ∃ a, vs = [a] ∧ R a H Q E
def S2x (R : V → V → Hp → VK → XK → Prop) : Sp := fun vs H Q E => ∃ a b, vs = [a, b] ∧ R a b H Q E
def S3x (R : V → V → V → Hp → VK → XK → Prop) : Sp := fun vs H Q E => ∃ a b c, vs = [a, b, c] ∧ R a b c H Q E
def S4x (R : V → V → V → V → Hp → VK → XK → Prop) : Sp := fun vs H Q E => ∃ a b c d, vs = [a, b, c, d] ∧ R a b c d H Q E
def S5x (R : V → V → V → V → V → Hp → VK → XK → Prop) : Sp := fun vs H Q E => ∃ a b c d e, vs = [a, b, c, d, e] ∧ R a b c d e H Q E
theorem lenx1 {R : V → Hp → VK → XK → Prop} (vs : List V) (H : Hp) (Q : VK) (E : XK) (h : S1x R vs H Q E) : vs.length = 1 := by
  obtain ⟨a, rfl, _⟩ := h
  rfl
theorem lenx2 {R : V → V → Hp → VK → XK → Prop} (vs : List V) (H : Hp) (Q : VK) (E : XK) (h : S2x R vs H Q E) : vs.length = 2 := by
  obtain ⟨a, b, rfl, _⟩ := h
  rfl
theorem lenx3 {R : V → V → V → Hp → VK → XK → Prop} (vs : List V) (H : Hp) (Q : VK) (E : XK) (h : S3x R vs H Q E) : vs.length = 3 := by
  obtain ⟨a, b, c, rfl, _⟩ := h
  rfl
theorem lenx4 {R : V → V → V → V → Hp → VK → XK → Prop} (vs : List V) (H : Hp) (Q : VK) (E : XK) (h : S4x R vs H Q E) : vs.length = 4 := by
  obtain ⟨a, b, c, d, rfl, _⟩ := h
  rfl
theorem lenx5 {R : V → V → V → V → V → Hp → VK → XK → Prop} (vs : List V) (H : Hp) (Q : VK) (E : XK) (h : S5x R vs H Q E) : vs.length = 5 := by
  obtain ⟨a, b, c, d, e, rfl, _⟩ := h
  rfl
/-- ends in a value, or raises a class -/
inductive Res where
  | val (z : V) | exc (C : Addr)
def ends (r : Res) (H : Hp) (Q : VK) (E : XK) : Prop := match r with
  | .val z => Go H (Q z)
  | .exc C => Go H (E (.ref C) none)
theorem ends.mono {r : Res} {H H1 : Hp} {Q : VK} {E : XK} (h : ends r H Q E) (e : Ex H H1) : ends r H1 Q E := by
  cases r with
  | val z => exact Go.mono (p := Q z) h e
  | exc C => exact Go.mono (p := E (.ref C) none) h e
/-- so it ends, called -/
def SpE (sp : Sp) (vs : List V) (H : Hp) (r : Res) : Prop := ∀ H1, Ex H H1 → ∀ Q E, ends r H1 Q E → sp vs H1 Q E
theorem SpE.mono {sp : Sp} {vs : List V} {H H1 : Hp} {r : Res} (h : SpE sp vs H r) (e : Ex H H1) : SpE sp vs H1 r := fun H2 e2 => h H2 (e.trans e2)
theorem calx_mk {P : Program} {w : World} {K : PySem.W.Frag} {mg : Str → Option Value} {base : Heap} {x : Str} {st : Stmt} {f : Addr} {N ps : List Str} {k : Nat} {sp : Sp} (F : ∃ fd, FunD K x x (defArgs st) (defBody st) (defScope st) [] [] f fd) (g : mg x = some (.ref f)) (S : FnScope N ps (defScope st))
    (b : ∀ (kV doc pm : Value) (an : Option Addr) (cdv ct : Value) (us : List Value), us.length = ps.length → bindArgs (PySem.W.fnOf x x (defArgs st) (defBody st) (defScope st) .none kV doc pm an cdv ct) ⟨us, []⟩ = pure (ps.zip us))
    (len : ∀ vs H Q E, sp vs H Q E → vs.length = ps.length)
    (body : ∀ (cdv : Value) (A : Around) (outer : List Env) (s : Shared) (H : Hp) (vs : List V) (Q : VK) (E : XK), Room k (A.deeper (envOfC x (defScope st) s.heap.objs.size f cdv)) → sp vs H Q E →
      ∃ t, PSs (cxOf (CXn P w) P w K mg base N x (defScope st) f cdv A outer s H E) (defBody st) t ∧ Go H (t { nx := fun _ H' => Q .non H', rt := Q } (start N vs))) : Cal (CXn P w) P w K mg base (k + 1) x sp := by
  obtain ⟨fd, F⟩ := F
  refine ⟨f, fd, ps, F.ok S len (fun cdv A outer s H vs Q E hr hsp => ?_), g, F.kp, F.bindsN b⟩
  obtain ⟨t, h, q⟩ := body cdv A outer s H vs Q E hr hsp
  exact ⟨t, h, q.here⟩
section
variable {X : Cx} {k j : Nat} {C : Addr} {x m : Str} {sp : Sp} {p pos apos : Pos} {e o : Expr} {es : List Expr} {ta : TE} {t : TA}
theorem pe_kx {W : WX} (c : Cal (CXn X.prog X.w) X.prog X.w X.K X.mg X.base k x sp) (hr : Room j X.A) (hk : k ≤ j) (hg : Gl X x) (tk : L2N.Takes X W) (ha : PA X (e :: es) t)
    (hdb : (x == ("__debug__" : Str)) = false := by decide) (he : starEach (e :: es) X.env = (false, eval e X.env) :: starEach es X.env := by rfl) (hpl : (backTo pos (starEach es X.env)).any (·.1) = false := by rfl) :
    PE X (.Call (.Name x p) (e :: es) [] pos) (tCallS sp (WE W) t) := by
  obtain ⟨f, fd, ps, F, hm, kp, b⟩ := c.ex
  exact pe_callS F (hr.mono hk) hg hm kp b (fun σ => L2N.passAt tk σ) ha hdb he hpl
end
section
variable {K : PySem.W.Frag} {σ : L2.St} {H H' : Hp} {ta : TA} {vs : List V} {sp : Sp} {E : L2.St → XK} {D : Ends} {tz : TS} {i : Nat} {z : V}
/-- a call that does not raise here -/
theorem ev_callX (h : EvA ta σ H vs) (hs : SpE sp vs H (.val z)) : Ev (tCallS sp E ta) σ H z := fun H1 e Q q => h H1 e _ fun H2 e2 => hs H2 (e.trans e2) Q (E σ) fun H3 e3 => q H3 (e2.trans e3)
theorem go_retX {r : Res} (h : EvA ta σ H vs) (hs : SpE sp vs H r) (k : ends r H D.rt (E σ)) : Go H (tSeq (tRet (tCallS sp E ta)) tz D σ) := fun H1 e => h H1 e _ fun H2 e2 => hs H2 (e.trans e2) _ _ (k.mono (e.trans e2))
theorem go_dropX {r : Res} (h : EvA ta σ H vs) (hs : SpE sp vs H r) (k : ends r H (fun _ H2 => tz D σ H2) (E σ)) : Go H (tSeq (tDrop (tCallS sp E ta)) tz D σ) := fun H1 e => h H1 e _ fun H2 e2 => hs H2 (e.trans e2) _ _ (k.mono (e.trans e2))
theorem go_asgX {r : Res} (h : EvA ta σ H vs) (hs : SpE sp vs H r) (k : ends r H (fun v H2 => tz D (σ.set i (some v)) H2) (E σ)) : Go H (tSeq (tAsg (tCallS sp E ta) (gName i)) tz D σ) := fun H1 e => h H1 e _ fun H2 e2 => hs H2 (e.trans e2) _ _ (k.mono (e.trans e2))
theorem go_raise {W : WX} {C : Addr} (k : Go H (fun H1 => W (.ref C) none σ H1)) : Go H (tSeq (fun (_ : Ends) (σ : L2.St) (H : Hp) => (fun (_ : L2.St) (H : Hp) (Q : XK) => Q (.ref C) none H) σ H fun cls d H' => W cls d σ H') tz D σ) := k
end
/-! ## within an except suite -/
theorem hot_of {X : Cx} {a : Addr} {oe : Obj} {pn : List (Addr × Obj)} {cls : Value} {d : Option Addr} (hz : L2N.Zn cls d oe) (hf : ∃ vs, oe.data = .fields vs) : L2H.HotC (X.suite a ((a, oe) :: pn)) := by
  obtain ⟨vs, hv⟩ := hf
  exact ⟨(a, oe), ⟨rfl, vs, hv, hz.2.2 vs hv⟩, List.mem_cons_self⟩
/-- isinstance(e, c), e the exception that the suite holds, of whatever class -/
def rIsX (K : PySem.W.Frag) (a : Addr) (cls : Value) (d : Option Addr) : List V → Hp → VK → Prop := fun xs H Q => ∃ D, cls = .ref D ∧ d = none ∧ ExcC K D ∧ rIsE K D a xs H Q
theorem call_isX {X : Cx} {a : Addr} {oe : Obj} {pn : List (Addr × Obj)} {cls : Value} {d : Option Addr} (K : PySem.W.Frag) (hz : L2N.Zn cls d oe) (hf : ∃ vs, oe.data = .fields vs) (hK : X.K = K := by rfl) : CallR (X.suite a ((a, oe) :: pn)) (.builtin "isinstance") (rIsX K a cls d) := by
  subst hK
  intro pins s σ H xs us Q I r h
  obtain ⟨D, rfl, rfl, C, q⟩ := h
  exact call_isE C hz.zc hf pins s σ H xs us Q I r q
theorem ev_isX {K : PySem.W.Frag} {σ : L2.St} {H : Hp} {ta tb : TE} {a D : Addr} {c : V} {uu : Value} {bb : Bool} (ha : Ev ta σ H (.ref a)) (hb : Ev tb σ H c) (hc : ClsV c uu) (C : ExcC K D) (hk : PySem.W.kitOne K (.ref D) uu = some bb) :
    Ev (tCB (rIsX K a (.ref D) none) (tCons ta (tCons tb tNil))) σ H (.bl bb) := fun H1 e Q q =>
  ha H1 e _ fun H2 e2 => hb H2 (e.trans e2) _ fun H3 e3 => ⟨D, rfl, rfl, C, c, uu, bb, rfl, fun u r => hc.eq r, hk, q H3 (e2.trans e3)⟩
end Od

namespace Od
open PySem PySem.Spec PyProof.Rows L2 SX Evl HotX
/-! ## any(list of bools) while an exception is handled -/
/-- the handled exception's object, its context None -/
def HotOb (x1 : Addr) (h : Heap) : Prop := ∃ (o : Obj) (vs : Array Value), h.get? x1 = some o ∧ o.data = .fields vs ∧ vs[2]? = some .none
section
variable {prog : Program} {w : World} {A : Around} {E : Value → Shared → Prop} {s : Shared}
theorem list_end_hot {it l x1 : Addr} {i : Nat} {items : Array Value} {Q : Option Value → Shared → Prop} (quiet : A.handled = some (.ref x1)) (hot : HotOb x1 s.heap) (apart : x1 ≠ it) (hit : s.heap.IsListIter it l i) (hl : s.heap.IsList l items) (none1 : items[i]? = none)
    (go : ∀ h', (∀ b o, b ≠ it → s.heap.get? b = some o → h'.get? b = some o) → Q none { s with heap := h' }) : wpAny (model prog w) A (pyNext (.ref it)) Q E s := by
  obtain ⟨o, ho, hc, hd⟩ := id hit
  obtain ⟨ol, hol, _, nl, hdl⟩ := hl
  obtain ⟨o1, vs1, h1, d1, c1⟩ := hot
  have up0 : ∀ b ob, b ≠ it → s.heap.get? b = some ob → ∀ f, (s.heap.update it f).get? b = some ob := fun b ob hb e f => by
    rw [Heap.get?_update_other _ _ (Ne.symm hb)]
    exact e
  unfold pyNext
  refine wpAny_bind (wpAny_attempt (wpAny_callSpecial?_slot (name := Str.ofString "__next__") hit.typeIs slot_listiter_next (wpAny_call_entry slot_listiter_next hit.typeIs entry_listiter_next (show wpAny _ _ (field (.ref it) 0 >>= _) _ _ s from ?_) (args_listiter_next _))))
  refine wpAny_bind (wpAny_field ho hd (x := .ref l) rfl (show wpAny _ _ (if (Value.ref l == Value.none) = true then _ else _) _ _ s from ?_))
  rw [if_neg (by exact Bool.false_ne_true)]
  refine (show wpAny _ _ (field (.ref it) 1 >>= _) _ _ s from wpAny_bind (wpAny_field ho hd (x := .int i 0) rfl ?_))
  refine (show wpAny _ _ (seqItems? (.ref l) >>= _) _ _ s from wpAny_bind (wpAny_seqItems hol hdl ?_))
  simp only [Int.toNat_natCast, none1]
  refine wpAny_bind (wpAny_rule (wpAny_bind (wpAny_setField ho hd (by simp) (show wpAny _ _ (newExc (.type "StopIteration") [] >>= _) _ _ _ from wpAny_bind ?_))))
  simp only [newExc, newTuple]
  refine wpAny_bind (wpAny_newObj_type ?_ (by size_fits))
  refine wpAny_bind (m := firstArgMember _ _) (wpAny_of_eq (a := Value.none) (by first | rfl | (simp only [firstArgMember]; rfl)) (wpAny_newObj_type ?_ (by size_fits)))
  have k1 := up0 _ _ apart h1
  refine raiseNew_hot ⟨quiet, o1, vs1, Heap.get?_push_of_some _ (Heap.get?_push_of_some _ (k1 _)), d1, c1⟩ (Nat.ne_of_lt (Heap.lt_size (Heap.get?_push_of_some _ (k1 _)))) (Heap.get?_push_size _ rfl) rfl (by first | (simp; done) | (simp; omega) | (simp only [Array.size_append]; simp; omega)) ?_
  refine wpAny_bind (wpAny_isInstance (T := "StopIteration") (b := true) ⟨_, Heap.get?_update_self _ (Heap.get?_push_size _ rfl) rfl, rfl⟩ isSubtype_stop ?_)
  refine wpAny_pure (go _ fun b ob hb e => ?_)
  have k2 := up0 _ _ hb e
  rw [Heap.get?_update_other _ _ (Nat.ne_of_gt (Heap.lt_size (Heap.get?_push_of_some _ (k2 _))))]
  exact Heap.get?_push_of_some _ (Heap.get?_push_of_some _ (k2 _))
theorem walks_hot (x1 : Addr) (quiet : A.handled = some (.ref x1)) (I ax : Addr) (hne : ax ≠ I) (apart : x1 ≠ I) (items : Array Value) :
    Walks prog w A I [I, ax, x1] [I] items.size (fun i v => items[i]? = some v) (fun i h => h.IsListIter I ax i ∧ h.IsList ax items ∧ HotOb x1 h) where
  sub := fun b hb => by simp at hb; simp [hb]
  frame := fun _ _ _ st hk => ⟨st.1.at fun o e => hk I (by simp) o e, st.2.1.at fun o e => hk ax (by simp) o e, by
    obtain ⟨o, vs, a, b⟩ := st.2.2
    exact ⟨o, vs, hk x1 (by simp) o a, b⟩⟩
  item := fun i s Q E hi st hQ => by
    refine wpAny_pyNext_list_item st.1 st.2.1 (x := items[i]) (by simp [hi]) fun h' hit' hs' => ?_
    obtain ⟨o, vs, a, b⟩ := st.2.2
    exact hQ _ h' s.toks (by simp [hi]) ⟨hit', st.2.1.extBut hs'.extBut hne, o, vs, hs'.extBut x1 o apart a, b⟩ fun b o hb e => hs'.extBut b o (fun h => hb (by simp [h])) e
  done := fun s Q E st hQ => list_end_hot quiet st.2.2 apart st.1 st.2.1 (by simp) fun h' he' => hQ h' s.toks fun b o hb e => he' b o (fun h => hb (by simp [h])) e
  self := fun _ _ _ _ st hQ => wpAny_pyIter_listiter st.1 hQ
end
theorem cr_anyH {X : Cx} (K : PySem.W.Frag) (hot : L2H.HotC X) (hK : X.K = K := by rfl) : CallR X (.builtin "any") (rAny K) := by
  subst hK
  intro pins s σ H vs us Q I r h
  obtain ⟨a, bs, rfl, hs, q⟩ := h
  obtain ⟨its, rv, hl, _⟩ := I.list hs
  obtain ⟨x1, quiet, o1, v1, at1, f1, c1⟩ := hot.at I
  rw [Vals.ref1 r]
  have hb := rv.bls
  have lt1 : x1 < s.heap.objs.size := Heap.lt_size at1
  refine call_any_walk (iter_any hl.isList fun s₂ e2 st hne => ?_)
  subst e2
  refine ⟨_, _, _, _, _, _, _, rfl, walks_hot (A := X.A.in1) x1 quiet _ a hne (Nat.ne_of_lt lt1) its.toArray, ⟨st.1, st.2, o1, v1, Heap.get?_push_of_some _ at1, f1, c1⟩, truth_bools hb, fun h' tk hk => ?_⟩
  refine ⟨.bl _, H, I.kept fun b o eo => hk b o (fun hmem => ?_) (Heap.get?_push_of_some _ eo), ?_, q⟩
  · exact absurd (List.mem_singleton.mp hmem ▸ Heap.lt_size eo) (Nat.lt_irrefl _)
  · show Value.bool _ = Value.bool _
    rw [← L2.any_range, hb, List.size_toArray, List.length_map]
theorem takesN0 {X : Cx} : L2N.Takes X (fun _ _ _ _ => False) := fun _ _ x => by
  obtain ⟨_, _, _, _, _, _, _, _, _, _, _, _, _, _, _, _, z⟩ := x
  exact z.elim
end Od

namespace Od
open PySem PySem.Spec PyProof.Rows L2 SX Evl
/-! ## a local name that holds a def which may raise -/
def tCallF (i : Nat) (F : Addr → Sp → Prop) (W : WX) (t : TA) : TE := fun σ H Q => ∃ f sp, σ[i]? = some (some (.ref f)) ∧ F f sp ∧ t σ H fun vs H1 => sp vs H1 Q (WE W σ)
structure HeldX (P : Program) (w : World) (K : PySem.W.Frag) (mg : Str → Option Value) (base : Heap) (k : Nat) (f : Addr) (sp : Sp) : Prop where
  ex : ∃ (fd : FuncData) (ps : List Str), FnOk P w K mg base (CXn P w) k f fd ps sp ∧ PySem.W.keepIn K (.ref f) = true ∧ Binds K fd ps []
theorem held_of {P : Program} {w : World} {K : PySem.W.Frag} {mg : Str → Option Value} {base : Heap} {j k : Nat} {x : Str} {f : Addr} {sp : Sp} (c : Cal (CXn P w) P w K mg base j x sp) (g : mg x = some (.ref f)) (h : j ≤ k) : HeldX P w K mg base k f sp := by
  obtain ⟨f', fd, ps, F, hm, kp, b⟩ := c.ex
  rw [g] at hm
  cases hm
  exact ⟨fd, ps, F.mono h, kp, b⟩
section
variable {X : Cx} {k i : Nat} {x : Str} {p pos : Pos} {e : Expr} {es : List Expr} {t : TA}
theorem pe_callF {F : Addr → Sp → Prop} {W : WX} (A : ∀ f sp, F f sp → HeldX X.prog X.w X.K X.mg X.base k f sp) (hr : Room k X.A) (hN : X.N[i]? = some x) (hv : Vis X.env.scope x) (tk : L2N.Takes X W) (ha : PA X (e :: es) t)
    (hdb : (x == ("__debug__" : Str)) = false := by decide) (hcd : (x == ("__classdict__" : Str)) = false := by decide)
    (he : starEach (e :: es) X.env = (false, eval e X.env) :: starEach es X.env := by rfl) (hpl : (backTo pos (starEach es X.env)).any (·.1) = false := by rfl) : PE X (.Call (.Name x p) (e :: es) [] pos) (tCallF i F W t) := by
  refine ⟨fun pins s σ H Q I h => ?_⟩
  obtain ⟨f, sp, hs, hF, ht⟩ := h
  obtain ⟨fd, ps, G, hk, hb⟩ := (A f sp hF).ex
  refine wpAny_Call_Name_kw (thn ((pe_var (pos := p) hN hv hdb hcd).run pins s σ H (fun v H1 => v = .ref f ∧ H1 = H) I ⟨.ref f, hs, rfl, rfl⟩) fun u s1 ⟨v, H1, I1, r1, e1, e2⟩ => ?_)
  subst e1 e2
  cases r1
  exact PySem.W.callWith_K (h₀ := X.base) I.ok.mod.kin hk (thn (ha.run pos pins s1 σ _ _ I1 ht) fun us s2 ⟨vs, H2, I2, r, q⟩ => ⟨I2.kIn, run_fnS G hr hb (L2N.passAt tk σ) I2 r q⟩) he hpl
end
theorem go_dropF {i : Nat} {F : Addr → Sp → Prop} {W : WX} {ta : TA} {vs : List V} {σ : L2.St} {H : Hp} {D : Ends} {tz : TS} {f : Addr} {sp : Sp} {r : Res} (hs : σ[i]? = some (some (.ref f))) (hF : F f sp) (h : EvA ta σ H vs) (hx : SpE sp vs H r) (k : ends r H (fun _ H2 => tz D σ H2) (WE W σ)) :
    Go H (tSeq (tDrop (tCallF i F W ta)) tz D σ) := fun H1 e => ⟨f, sp, hs, hF, h H1 e _ fun H2 e2 => hx H2 (e.trans e2) _ _ (k.mono (e.trans e2))⟩
/-! ## a def called within a suite, which looks at the exception -/
section
variable {CX : CXT} {P : Program} {w : World} {K : PySem.W.Frag} {mg : Str → Option Value} {base : Heap}
theorem run_suite {k : Nat} {f : Addr} {name qual : Str} {params : Arguments} {body : List Stmt} {scope : Scope} {dV kV doc pm cdv ct oc : Value} {an od : Option Addr} {osl : Array (Option Value)} {N ps : List Str} {A : Around} {outer : List Env} {s : Shared} {H : Hp} {args : Args} {us : List Value} {vs : List V} {Q : VK} {E : XK} {p : Addr × Obj}
    (lk : K.lookup f = some ⟨oc, od, .func (PySem.W.fnOf name qual params body scope dV kV doc pm an cdv ct), osl⟩) (hcd : PySem.W.codeIn K cdv qual = true) (S : FnScope N ps scope) (hl : vs.length = ps.length) (hr : L2H.RoomH (k + 1) A) (hpin : L2H.PinOk outer H s p) (e0 : Env0 P w K mg base A outer s H)
    (hb : BindsTo s (PySem.W.fnOf name qual params body scope dV kV doc pm an cdv ct) args (ps.zip us)) (r : Vals vs us) (walk : ∃ t, PSs (L2H.cxH CX P w K mg base N qual scope f cdv A outer s H E p) body t ∧ t { nx := fun _ H' => Q .non H', rt := Q } (L2.start N vs) H) :
    codeAny (model P w) A (.call (.ref f) args) (CR CX outer P w H s Q E) s := by
  have inK : K.In s.heap := e0.mod.kin.keeps fun b o e => (e0.bs b o e).1
  have nolim : s.heap.NoLimit := e0.mod.nolimit.keeps fun b o e => (e0.bs b o e).1
  have kinds : ∀ y ∈ ps.zip us, scope.names.lookup y.1 = some .local ∨ (scope.names.lookup y.1 = some .cell ∧ ((cellsFrom (s.heap.objs.size + 1) scope.names []).lookup y.1).isSome = true) := by
    rintro ⟨n, v⟩ hy
    rcases S.par n (List.of_mem_zip hy).1 with q | q
    · exact Or.inl q
    · exact Or.inr ⟨q, PySem.W.cellsFrom_some _ _ _ (Or.inl q)⟩
  refine codeAny_call_function hr.depth (inK _ _ lk) rfl S.co S.gen rfl (PySem.W.codeRec_of inK hcd) (hb _ _ _ _ (wpAny_newFunctionEnv_cells S.kind kinds fun env he s1 x => ?_))
  subst he
  refine ⟨nolim.keeps x.toInCall.keep, codeAny_func ?_⟩
  obtain ⟨t, ht, hq⟩ := walk
  have I0 : Inv (L2H.cxH CX P w K mg base N qual scope f cdv A outer s H E p) [] (L2.start N vs) H s1 := L2H.inv_startH S hpin e0 hl r x
  refine wpAny_mono (ht.run [] s1 (L2.start N vs) H _ I0 hq) (fun fl s2 hs => ?_) fun e s2 hs => hs
  match fl, hs with
  | .ret u, ⟨v, σ2, H2, J, rv, q⟩ => exact ⟨v, H2, J.os, J.bare, J.base, J.hok, rv, q⟩
  | .next, ⟨σ2, H2, J, q⟩ => exact ⟨V.non, H2, J.os, J.bare, J.base, J.hok, rfl, q⟩
  | .brk, ⟨_, _, _, q⟩ => exact False.elim q
  | .cont, ⟨_, _, _, q⟩ => exact False.elim q
end
/-- isinstance(e, c) in such a def -/
def rIsP (K : PySem.W.Frag) (p : Addr × Obj) : List V → Hp → VK → Prop := fun xs H Q => ∃ (D : Addr) (c : V) (cv : Value) (b : Bool), Zc (.ref D) none p.2 ∧ (∃ vs, p.2.data = .fields vs) ∧ ExcC K D ∧ xs = [.ref p.1, c] ∧ (∀ u, RelV c u → u = cv) ∧ PySem.W.kitOne K (.ref D) cv = some b ∧ Q (.bl b) H
theorem call_isP {X : Cx} {p : Addr × Obj} (K : PySem.W.Frag) (hp : p ∈ X.pn) (hK : X.K = K := by rfl) : CallR X (.builtin "isinstance") (rIsP K p) := by
  subst hK
  intro pins s σ H xs us Q I r h
  obtain ⟨D, c, cv, b, hz, hf, C, rfl, hcv, e, q⟩ := h
  cases r with
  | cons rx rr =>
    cases rr with
    | cons rt rr =>
      cases rr
      cases rx
      have ec := hcv _ rt
      subst ec
      have get1 := (I.pin p (List.mem_append_left _ hp)).1
      obtain ⟨vs, hv⟩ := hf
      have J : PySem.W.InstAt s.heap p.1 p.2 D none := by
        obtain ⟨a, oc, od, oda, osl⟩ := p
        obtain ⟨h1, h2⟩ := hz
        dsimp only at h1 h2 hv
        subst h1 h2 hv
        exact ⟨get1, rfl, rfl, trivial⟩
      exact PySem.W.kia_one (PySem.W.handS_kitx_exc C.hg C.hk C.hs C.hd C.ha C.hn C.ht C.hm) I.kIn J e (fun z => nomatch z) fun tk => ⟨.bl b, H, I.kept (t' := tk) fun _ _ z => z, rfl, q⟩
theorem ev_isP {K : PySem.W.Frag} {σ : L2.St} {H : Hp} {ta tb : TE} {p : Addr × Obj} {D : Addr} {c : V} {uu : Value} {bb : Bool} (hz : Zc (.ref D) none p.2) (hf : ∃ vs, p.2.data = .fields vs) (C : ExcC K D) (ha : Ev ta σ H (.ref p.1)) (hb : Ev tb σ H c) (hc : ClsV c uu) (hk : PySem.W.kitOne K (.ref D) uu = some bb) :
    Ev (tCB (rIsP K p) (tCons ta (tCons tb tNil))) σ H (.bl bb) := fun H1 e Q q =>
  ha H1 e _ fun H2 e2 => hb H2 (e.trans e2) _ fun H3 e3 => ⟨D, c, uu, bb, hz, hf, C, rfl, fun u r => hc.eq r, hk, q H3 (e2.trans e3)⟩
end Od

namespace Od
open PySem PySem.Spec PyProof.Rows L2 SX Evl
/-! ## == of lists of bools -/
def dB (bs : List Bool) : PyData := .list (bs.map PyData.bool)
theorem lay_bools : ∀ bs : List Bool, PyData.canLayAll0 (bs.map PyData.bool) = true
  | [] => by simp [PyData.canLayAll0]
  | n :: r => by
    rw [List.map_cons]
    unfold PyData.canLayAll0
    rw [lay_bools r]
    simp [PyData.canLay0]
theorem depth_bools : ∀ bs : List Bool, PyData.depthAll (bs.map PyData.bool) = 0
  | [] => by simp [PyData.depthAll]
  | n :: r => by
    rw [List.map_cons]
    simp [PyData.depthAll, depth_bools r, PyData.depth]
theorem shaped_bools (bs : List Bool) : SeqAt.shaped (dB bs) = true := by
  unfold SeqAt.shaped dB
  rw [Bool.and_eq_true]
  refine ⟨?_, ?_⟩
  · unfold PyData.canLay0
    exact lay_bools bs
  · simp [PyData.depth, depth_bools bs]
theorem eqv_boolsR : ∀ bs : List Bool, PyData.eqvAll (bs.map PyData.bool) (bs.map PyData.bool) = true
  | [] => by simp [PyData.eqvAll]
  | b :: r => by
    rw [List.map_cons]
    unfold PyData.eqvAll
    rw [eqv_boolsR r]
    unfold PyData.eqv
    cases b <;> rfl
theorem eqv_bools (bs : List Bool) : PyData.eqv (dB bs) (dB bs) = true := by
  unfold dB PyData.eqv
  exact eqv_boolsR bs
theorem dpAll_bools {K : PySem.W.Frag} {H : Hp} : ∀ bs : List Bool, DpAll K H (bs.map V.bl) (bs.map PyData.bool)
  | [] => .nil
  | n :: r => .cons (.bl n) (dpAll_bools r)
theorem dp_bools {K : PySem.W.Frag} {H : Hp} {p : Addr} {bs : List Bool} (h : SqL K H p (bs.map V.bl)) : Dp K H (.ref p) (dB bs) := .lst h (dpAll_bools bs)
section
variable {K : PySem.W.Frag} {σ : L2.St} {H H' : Hp} {ta tb tc te tl : TE} {D : Ends} {tu tz : TS} {tr : TA} {i j n m : Nat} {v : V} {p q : Addr} {xs : List V} {R R1 R2 : V → Hp → Prop}
theorem ev_eqBs {bs : List Bool} (ha : EvL ta σ H (bs.map V.bl)) (hb : Ev tb σ H (.ref q)) (hy : SqL K H q (bs.map V.bl)) : Ev (tOp (rEqD K) ta tb) σ H (.bl true) := ev_opL1 ha (fun H1 e => hb.mono e) fun p H1 hp e => rv_val fun H2 e2 Q k => ⟨dB bs, dB bs, dp_bools (ex_l e2 (sq_of hp)), dp_bools (ex_l (e.trans e2) hy), shaped_bools bs, shaped_bools bs, by rw [eqv_bools]; exact k⟩
theorem ev_neBs {bs : List Bool} (ha : EvL ta σ H (bs.map V.bl)) (hb : Ev tb σ H (.ref q)) (hy : SqL K H q (bs.map V.bl)) : Ev (tOp (rNeD K) ta tb) σ H (.bl false) := ev_opL1 ha (fun H1 e => hb.mono e) fun p H1 hp e => rv_val fun H2 e2 Q k => ⟨dB bs, dB bs, dp_bools (ex_l e2 (sq_of hp)), dp_bools (ex_l (e.trans e2) hy), shaped_bools bs, shaped_bools bs, by rw [eqv_bools]; exact k⟩
/-! ## evaluates to something of which R holds from then on -/
def Mono (R : V → Hp → Prop) : Prop := ∀ v H H1, Ex H H1 → R v H → R v H1
theorem EvR.weak {R2 : V → Hp → Prop} (h : EvR te σ H R) (w : ∀ v H2, Ex H H2 → R v H2 → R2 v H2) : EvR te σ H R2 := fun H1 e Q q => h H1 e Q fun v H2 e2 r => q v H2 e2 (w v H2 (e.trans e2) r)
theorem er_ev (h : Ev te σ H v) (r : ∀ H1, Ex H H1 → R v H1) : EvR te σ H R := fun H1 e Q q => h H1 e _ fun H2 e2 => q v H2 e2 (r H2 (e.trans e2))
theorem er_lst (h : EvL te σ H xs) (r : ∀ p H1, Ex H H1 → H1 p = some (.lst xs) → R (.ref p) H1) : EvR te σ H R := fun H1 e Q q => h H1 e _ fun p H2 hp e2 h2 => q (.ref p) H2 e2 (r p H2 (e.trans e2) h2)
def EvAU (tr : TA) (σ : L2.St) (H : Hp) (n : Nat) (R : V → Hp → Prop) : Prop := ∀ H1, Ex H H1 → ∀ Q : List V → Hp → Prop, (∀ vs H2, Ex H1 H2 → vs.length = n → (∀ x ∈ vs, R x H2) → Q vs H2) → tr σ H1 Q
theorem eau_nil : EvAU tNil σ H 0 R := fun H1 e Q q => q [] H1 (Ex.refl H1) rfl fun x hx => by cases hx
theorem eau_cons (mo : Mono R) (h : EvR ta σ H R) (hr : EvAU tr σ H n R) : EvAU (tCons ta tr) σ H (n + 1) R := fun H1 e Q q =>
  h H1 e _ fun v H2 e2 r => hr H2 (e.trans e2) _ fun vs H3 e3 hl ha => q (v :: vs) H3 (e2.trans e3) (by rw [List.length_cons, hl]) fun x hx => by
    rcases List.mem_cons.mp hx with z | z
    · rw [z]; exact mo _ _ _ e3 r
    · exact ha x z
def ListR (R : V → Hp → Prop) (n : Nat) (v : V) (H : Hp) : Prop := ∃ p vs, v = .ref p ∧ H p = some (.lst vs) ∧ vs.length = n ∧ ∀ x ∈ vs, R x H
theorem listR_mono (mo : Mono R) : Mono (ListR R n) := fun v H H1 e ⟨p, vs, a, b, c, d⟩ => ⟨p, vs, a, e _ _ b, c, fun x hx => mo _ _ _ e (d x hx)⟩
theorem ListR.imp {R2 : V → Hp → Prop} (h : ListR R n v H) (w : ∀ x, R x H → R2 x H) : ListR R2 n v H := by
  obtain ⟨p, vs, a, b, c, d⟩ := h
  exact ⟨p, vs, a, b, c, fun x hx => w x (d x hx)⟩
theorem er_lstU (mo : Mono R) (h : EvAU tr σ H n R) (hn : n ≤ 100000) : EvR (tLst tr) σ H (ListR R n) := fun H1 e Q q =>
  h H1 e _ fun vs H2 e2 hl ha => ⟨sz_of (by omega), fun p hp => q (.ref p) _ (e2.trans (Ex.new hp)) ⟨p, vs, rfl, upd_same, hl, fun x hx => mo _ _ _ (Ex.new hp) (ha x hx)⟩⟩
theorem er_tup2 (m1 : Mono R1) (m2 : Mono R2) (h1 : EvR ta σ H R1) (h2 : EvR tb σ H R2) : EvR (tTup (tCons ta (tCons tb tNil))) σ H (fun v H2 => ∃ p x y, v = .ref p ∧ H2 p = some (.tup [x, y]) ∧ R1 x H2 ∧ R2 y H2) := fun H1 e Q q =>
  h1 H1 e _ fun x H2 e2 r1 => h2 H2 (e.trans e2) _ fun y H3 e3 r2 => ⟨sz_of (by simp), fun p hp => q (.ref p) _ ((e2.trans e3).trans (Ex.new hp)) ⟨p, x, y, rfl, upd_same, m1 _ _ _ (e3.trans (Ex.new hp)) r1, m2 _ _ _ (Ex.new hp) r2⟩⟩
theorem er_catU (mo : Mono R) (h1 : EvR ta σ H (ListR R n)) (h2 : EvR tb σ H (ListR R m)) (hn : n + m ≤ 100000) : EvR (tOp rCat ta tb) σ H (ListR R (n + m)) := fun H1 e Q q =>
  h1 H1 e _ fun x H2 e2 r1 => h2 H2 (e.trans e2) _ fun y H3 e3 r2 => by
    obtain ⟨a, xs, rfl, b1, c1, d1⟩ := listR_mono mo _ _ _ e3 r1
    obtain ⟨b, ys, rfl, b2, c2, d2⟩ := r2
    refine ⟨a, b, xs, ys, rfl, rfl, b1, b2, sz_of (by omega), fun l hl => q (.ref l) _ ((e2.trans e3).trans (Ex.new hl)) ⟨l, xs ++ ys, rfl, upd_same, by rw [List.length_append]; omega, fun x hx => ?_⟩⟩
    rcases List.mem_append.mp hx with z | z
    · exact mo _ _ _ (Ex.new hl) (d1 x z)
    · exact mo _ _ _ (Ex.new hl) (d2 x z)
theorem go_appR {l : Addr} (hl : H l = some (.lst xs)) (ha : Ev ta σ H (.ref l)) (h : EvR te σ H R) (hz : xs.length < 100000) (k : ∀ v H2, Ex H H2 → R v H2 → Go (upd H2 l (.lst (xs ++ [v]))) (tz D σ)) :
    Go H (tSeq (tDrop (tBM K "list" rAppend ta (tCons te tNil))) tz D σ) := fun H0 e0 => ha H0 e0 _ fun H1 e1 =>
  ⟨Or.inl ⟨rfl, xs, sq_of (e1 l _ (e0 l _ hl))⟩, h H1 (e0.trans e1) _ fun v H2 e2 r => ⟨l, xs, v, rfl, rfl, e2 l _ (e1 l _ (e0 l _ hl)), sz_lt hz, k v H2 ((e0.trans e1).trans e2) r _ (Ex.refl _)⟩⟩
/-- a for over such a list; the turns keep the slots' shape, the heap only grows -/
theorem go_forU2 (mo : Mono R) (h : EvR tl σ H (ListR R n)) (P : L2.St → Prop) (h0 : P σ)
    (hs : ∀ x σ' Hk, Ex H Hk → R x Hk → P σ' → ∀ H0, Ex H H0 → Ex H0 Hk → Go Hk (tu { D with nx := Up (fun s2 H2 => P s2 ∧ Ex H0 H2), ct := Up (fun s2 H2 => P s2 ∧ Ex H0 H2), bk := tz D } (σ'.set j (some x)))) (hd : ∀ σ' Hk, Ex H Hk → P σ' → Go Hk (tz D σ')) :
    Go H (tSeq (tFor (iList K tl) (gName j) tu) tz D σ) := fun H1 e1 => h H1 e1 _ fun v H2 e2 r => by
  obtain ⟨a, xs, rfl, b, c, d⟩ := r
  exact ⟨a, rfl, ⟨xs, sq_of b⟩, for_list (D := { D with nx := tz D }) (fun _ => Up (fun s2 H3 => P s2 ∧ Ex H2 H3)) ⟨H2, ⟨h0, Ex.refl H2⟩, Ex.refl H2⟩ (fun i σ' H3 _ ⟨Hk, ⟨_, e3⟩, e4⟩ => sq_of (e4 _ _ (e3 _ _ b)))
    (fun i x σ' H3 hi ⟨Hk, ⟨p3, e3⟩, e4⟩ => hs x σ' Hk ((e1.trans e2).trans e3) (mo _ _ _ e3 (d x (List.mem_of_getElem? hi))) p3 H2 (e1.trans e2) e3 H3 e4)
    (fun σ' H3 ⟨Hk, ⟨p3, e3⟩, e4⟩ => hd σ' Hk ((e1.trans e2).trans e3) p3 H3 e4)⟩
/-- a comprehension over such a list, each step a truth -/
theorem el_mapU {f : V → V} {vs : List Nat} {p : Addr} (h : Ev tl σ H (.ref p)) (hx : SqL K H p xs) (hz : xs.length ≤ 40000) (hw : ∀ x, wipe ((wipe σ vs).set j (some x)) vs = wipe σ vs) (he : ∀ x ∈ xs, Ev te ((wipe σ vs).set j (some x)) H (f x)) : EvL (tLc (iList K tl) (gName j) tYes te vs) σ H (xs.map f) := by
  have hx2 : SqL K H p (xs.map _root_.id) := by rw [List.map_id]; exact hx
  exact el_mapL xs _root_.id f .non h hx2 hz hw he
end
/-! ## str(int) -/
def rStrI2 : List V → Hp → VK → Prop := fun xs H Q => ∃ i : Int, xs = [.int i] ∧ i.natAbs.log2 < 1920 ∧ Q (.str (toString i)) H
theorem call_strI {X : Cx} : CallR X (.type "str") rStrI2 := call_str_int
theorem ev_strI {σ : L2.St} {H : Hp} {ta : TE} {i : Int} (h : Ev ta σ H (.int i)) (hi : i.natAbs.log2 < 1920) : Ev (tCB rStrI2 (tCons ta tNil)) σ H (.str (toString i)) := fun H1 e Q q => h H1 e _ fun H2 e2 => ⟨i, rfl, hi, q H2 e2⟩
/-! ## try, an exception that meets its clause -/
theorem go_tryAs {K : PySem.W.Frag} {H : Hp} {σ : L2.St} {D : Ends} {tz : TS} {tb : WX → TS} {ts : Addr → Value → Option Addr → TS} {c : Value} {i : Nat} {Wo : WX} (h : Go H (tb (wAs K c i ts Wo { D with nx := tz D }) { D with nx := tz D } σ)) : Go H (tSeq (fun D σ H => tb (wAs K c i ts Wo D) D σ H) tz D σ) := h
theorem w_meets {K : PySem.W.Frag} {H : Hp} {σ : L2.St} {D : Ends} {ts : Addr → Value → Option Addr → TS} {cls c : Value} {i : Nat} {Wo : WX} (he : PySem.W.exmOne K cls c = some true)
    (k : ∀ a H1, Ex H H1 → H1 a = none → Go H1 (ts a cls none { nx := fun σ' H' => D.nx (σ'.set i none) H', rt := D.rt, bk := fun σ' H' => D.bk (σ'.set i none) H', ct := fun σ' H' => D.ct (σ'.set i none) H' } (σ.set i (some (.ref a))))) : Go H (wAs K c i ts Wo D cls none σ) := fun H1 e =>
  ⟨true, he, fun _ a ha => (k a H1 e ha).here, fun h => by cases h⟩
end Od

namespace Od
open PySem PySem.Spec PyProof.Rows L2 SX Evl
/-! ## an exception that leaves a comprehension -/
theorem fly_of_call {X : Cx} {pins : List (Addr × Obj)} {σ : L2.St} {H : Hp} {s s' : Shared} {W : WX} {E : XK} (I : L2.Inv X pins σ H s) (hW : ∀ cls d H', E cls d H' → W cls d σ H') {u : Value} (c : L2N.CX X.prog X.w X.stack H s E u s') :
    ∃ a B sI pins σ H cls d, u = .ref a ∧ L2.Inv X pins σ H sI ∧ (∀ b o, sI.heap.get? b = some o → ¬ b ∈ frs X.stack → B.get? b = some o) ∧ sI.heap.UpToSlots s'.heap ∧ HandSPX.FlyingZ B X.stack a (L2N.Zn cls d) s'.heap ∧ H a = none ∧ s'.os = sI.os ∧ AllBare s'.gens ∧ W cls d σ H := by
  obtain ⟨a0, B0, H0, c0, d0, rfl, fl0, _⟩ := id c
  obtain ⟨a, B, sI, pins', σ', H', cls, d, e, I', hB, up, sk, ha, os, ag, hw⟩ := L2N.XE.of_call I hW c
  cases e
  refine ⟨_, B, sI, pins', σ', H', cls, d, rfl, I', hB, up, ?_, ha, os, ag, hw⟩
  obtain ⟨_, _, _, oe, vs, T, oT, ts, e1, _, e2, e3, _, _, e4, e5, e6⟩ := fl0
  rcases sk with ⟨_, _, _, oe', vs', f1, _, f2, f3⟩ | sk | ⟨_, _, _, oe', vs', T', oT', ts', f1, _, f2, f3, _, _, f4, f5, f6⟩
  · rw [f1] at e1; cases e1; rw [f2] at e2; cases e2; rw [f3] at e3; cases e3
  · exact sk
  · rw [f1] at e1; cases e1; rw [f2] at e2; cases e2; rw [f3] at e3; cases e3; rw [f4] at e4; cases e4; rw [f5] at e5; cases e5; rw [f6] at e6
    unfold rawInt at e6
    cases e6
theorem funFrames_at {h base base' : Heap} : ∀ {l : List Env}, h.FunFrames base l → (∀ b, base.get? b = none → base'.get? b = none) → h.FunFrames base' l
  | [], _, _ => trivial
  | env :: r, f, k => ⟨f.1, (by obtain ⟨L, o, a, b, c⟩ := f.2.1; exact ⟨L, o, a, k _ b, c⟩), funFrames_at f.2.2 k⟩
theorem hide_none {B : Heap} {C b : Addr} (h : B.get? b = none) : (B.hide C).get? b = none := by
  cases e : (B.hide C).get? b with
  | none => rfl
  | some o => rw [Heap.of_hide e] at h; cases h
/-- an address yet to come -/
theorem fp_new {X : Cx} {pins : List (Addr × Obj)} {σ : L2.St} {H : Hp} {s : Shared} {C : Addr} (I : L2.Inv X pins σ H s) (h : s.heap.objs.size ≤ C) : FpOk X pins H C := by
  obtain ⟨m, ⟨o, es, ep, e, _⟩, _⟩ := I.loc
  have l1 : X.env.locals < s.heap.objs.size := Heap.lt_size e
  have ab : X.s_0.heap.objs.size ≤ X.env.locals := I.ok.above
  have l2 : X.env.locals < C := Nat.lt_of_lt_of_le l1 h
  refine ⟨HOk.fresh I.hok h, fun z => ?_, fun z => ?_, .inr (Nat.le_trans ab (Nat.le_of_lt l2)), fun x c hc z => ?_, fun p hp z => ?_⟩
  · exact Nat.lt_irrefl _ (z ▸ l2)
  · obtain ⟨_, o, e, _⟩ := Heap.FunFrames.mem I.ok.funs z
    have l3 : C < X.s_0.heap.objs.size := Heap.lt_size e
    exact Nat.lt_irrefl _ (Nat.lt_trans (Nat.lt_of_lt_of_le l3 ab) l2)
  · obtain ⟨v, o, e, _⟩ := I.cell x c hc
    have l3 : c < s.heap.objs.size := Heap.lt_size e
    exact Nat.lt_irrefl _ (Nat.lt_of_lt_of_le (z ▸ l3) h)
  · have l3 : p.1 < s.heap.objs.size := Heap.lt_size (I.pin p hp).1
    exact Nat.lt_irrefl _ (Nat.lt_of_lt_of_le (z ▸ l3) h)
abbrev xeC (X : Cx) (cenv : Env) : Value → Shared → Prop := notedBy (model X.prog X.w) X.A cenv (CompFails (model X.prog X.w) X.A X.xe cenv)
theorem comp_passes {X : Cx} {W : WX} {σ : L2.St} {pins0 : List (Addr × Obj)} {H3 : Hp} {s3 : Shared} {scope : Scope} {cenv : Env} {fp : List Addr} (hst : X.stack = X.env :: X.outer) (hfr : X.env.frame = some X.env.locals) (tk : L2N.Takes X W) (I3 : L2.Inv X pins0 σ H3 s3)
    (f3 : ∀ b ∈ fp, FpOk X pins0 H3 b) (fC : FpOk X pins0 H3 cenv.locals) (hcf : cenv.frame = X.env.frame) (σ' : L2.St) : PassesAt (L2N.CX X.prog X.w) ((X.blk s3 H3 scope cenv fp).wish (xeC X cenv)) σ' (WE W σ) := by
  intro pins H s e s' Ib c
  obtain ⟨a, B, sI, pins', σ1, H', cls, d, rfl, I', hB, up, fl, ha, os, ag, hw⟩ := fly_of_call (W := fun cls d _ H => W cls d σ H) Ib (fun _ _ _ z => z) c
  have IX : L2.Inv X pins0 σ H' sI := I3.call' I'.os I'.base I'.hok I'.bare (fun b hb => by obtain ⟨_, g1, _, g3, g4, g5⟩ := f3 b hb; exact ⟨g3, g1, g4, g5⟩)
  obtain ⟨m, hn, _⟩ := I'.loc
  obtain ⟨st, na, ff, oe, vs, T, oT, ts, e1, z, e2, e3, e4, e5, e6, e7, e8⟩ := fl
  obtain ⟨a0, hv0⟩ : ∃ a0, vs[0]? = some a0 := by
    have h1 : 1 < vs.size := (Array.getElem?_eq_some_iff.mp e3).1
    exact ⟨vs[0], Array.getElem?_eq_getElem (by omega)⟩
  have ffs : s'.heap.FunFrames B (X.env :: X.outer) := hst ▸ ff
  have fD : (B.hide cenv.locals).FlyingD (X.env :: X.outer) a cls a0 Value.none d s'.heap := ⟨fun b o e => st b o (Heap.of_hide e), hide_none na, funFrames_at ffs fun b => hide_none, oe, vs, T, oT, ts, e1, ⟨z.1, hv0, z.2.2 vs e2, z.2.1⟩, e2, e3, hide_none e4, e5, e6, e7, e8⟩
  refine noted_flying (base := B.hide cenv.locals) (outer := X.outer) (I3.ok.frames.trans (congrArg some hst)) hcf hfr (Heap.hide_self _ _) (hn.upToSlots up) fD fun h' hH hk => tk _ _ ?_
  obtain ⟨h1, h2, h3, oe', vs', T', oT', ts', g1, ⟨gc, _, g2c, gd⟩, g2, g3, g4, g5, g6, g7, g8⟩ := hH
  obtain ⟨_, c1, _, c3, c4, c5⟩ := fC
  refine ⟨a, B.hide cenv.locals, { sI with heap := sI.heap.hide cenv.locals }, pins0, σ, H', cls, d, rfl, Inv.turned IX (it := cenv.locals) (fun b o hb e => by rw [Heap.hide_ne _ hb]; exact e) I'.free c1 c3 c4 c5, ?_, ?_, .inr (.inr ⟨h1, h2, hst ▸ h3, oe', vs', T', oT', ts', g1, ⟨gc, gd, fun vs2 e => by rw [g2] at e; cases e; exact g2c⟩, g2, g3, g4, g5, g6, g7, g8⟩), ha, os, ag, hw⟩
  · intro b o e hb
    by_cases hbc : b = cenv.locals
    · subst hbc
      rw [Heap.hide_self] at e
      cases e
    · rw [Heap.hide_ne _ hbc] at e ⊢
      exact hB b o e hb
  · intro b o e nf
    by_cases hbc : b = cenv.locals
    · subst hbc
      rw [Heap.hide_self] at e
      cases e
    · rw [Heap.hide_ne _ hbc] at e
      obtain ⟨sl, e1⟩ := up b o e nf
      obtain ⟨sl2, e2⟩ := hk b _ e1 hbc nf
      exact ⟨sl2, e2⟩
theorem wipe_wipe {σ : L2.St} {vs : List Nat} {i : Nat} {x : V} (h : (wipe σ vs)[i]? = some (some x)) : σ[i]? = some (some x) := (wipe_some h).1
/-- fewer names known, no pins -/
theorem inv_less {X : Cx} {pins : List (Addr × Obj)} {σ σ' : L2.St} {H : Hp} {s : Shared} (I : L2.Inv X pins σ H s) (hl : σ'.length = σ.length) (h : ∀ (i : Nat) (x : V), σ'[i]? = some (some x) → σ[i]? = some (some x)) : L2.Inv X [] σ' H s := by
  obtain ⟨m, hn, hv⟩ := I.loc
  exact ⟨I.ok, I.os, I.bare, I.base, ⟨m, hn, fun i x v a b c => hv i x v a (h i v b) c⟩, I.cell, I.free, I.freeC, fun p hp => I.pin p (by rw [List.append_nil] at hp; exact List.mem_append_left _ hp), I.hok, hl.trans I.len⟩
theorem inv_pins {X : Cx} {pins : List (Addr × Obj)} {σ : L2.St} {H : Hp} {s : Shared} (I : L2.Inv X [] σ H s) (h : ∀ p ∈ pins, s.heap.get? p.1 = some p.2 ∧ H p.1 = none ∧ p.1 ≠ X.env.locals ∧ ¬ p.1 ∈ X.fs ∧ ∀ v, p.2.data ≠ Data.cell v) : L2.Inv X pins σ H s :=
  ⟨I.ok, I.os, I.bare, I.base, I.loc, I.cell, I.free, I.freeC, fun p hp => (List.mem_append.mp hp).elim (fun z => I.pin p (List.mem_append_left _ z)) (h p), I.hok, I.len⟩
theorem of_pinsAt {h : Heap} {b : Addr} {o : Obj} : ∀ {fp : List Addr}, (b, o) ∈ pinsAt fp h → b ∈ fp ∧ h.get? b = some o := by
  intro fp hm
  unfold pinsAt at hm
  obtain ⟨c, hc, e⟩ := List.mem_filterMap.mp hm
  cases hg : h.get? c with
  | none => rw [hg] at e; cases e
  | some o2 =>
    rw [hg] at e
    cases e
    exact ⟨hc, hg⟩
theorem lc_loopX {X : Cx} {s3 s4 : Shared} {σ : L2.St} {H3 : Hp} {Q : VK} {elt tg iter : Expr} {scope sc : Scope} {vs : List Nat} {pos : Pos} {g : TG} {te : TE} {ce : Env} {fp : List Addr} {it D : Addr} {tn : Nat → Heap → Prop} {J : It} {Wn : Nat → Nat → Hp → Prop} {R : Result → Shared → Prop} {m0 : Nat}
    (hc : X.calm = true) (T : Turn X.prog X.w X.K tg J fp it tn) (hg : PG (X.blk s3 H3 sc ce fp) tg g) (he : PE ((X.blk s3 H3 sc ce fp).wish (notedBy (model X.prog X.w) X.A ce fun e s' => R (.error e) s')) elt te)
    (turn : ∀ (i m : Nat) (H : Hp), Wn i m H → J.stop i H ∧ Q (.ref D) H ∨ J.go i H ∧ ∃ Nx : Hp → Prop, (∀ H', Nx H' → ∃ m', m' < m ∧ Wn (i + 1) m' H') ∧ ∀ x H', J.yld i H x H' → g x (wipe σ vs) H' fun σ2 H2 => wipe σ2 vs = wipe σ vs ∧ tYes σ2 H2 fun b H3 => if b = true then te σ2 H3 fun y H4 => ∃ acc, H4 D = some (.lst acc) ∧ acc.length < sizeLine ∧ Nx (upd H4 D (.lst (acc ++ [y]))) else Nx H3)
    (stop : ∀ s1 H', L2.Inv (X.blk s3 H3 sc ce fp) [] (wipe σ vs) H' s1 → Q (.ref D) H' → R (.ok .next) s1)
    (I4 : L2.Inv (X.blk s3 H3 sc ce fp) [] (wipe σ vs) H3 s4) (st4 : tn 0 s4.heap) (nf : ∀ b ∈ fp, H3 b = none) (w0 : Wn 0 m0 H3) :
    codeAny (model X.prog X.w) X.A (Code.compLoop (elt.ListComp [{ target := tg, iter := iter, ifs := [], is_async := 0 }] scope pos) 0 (.ref it) (.ref D) ce) R s4 := by
  refine compLoop_list_any (fun k s' => ∃ i H', Wn i k H' ∧ L2.Inv (X.blk s3 H3 sc ce fp) [] (wipe σ vs) H' s' ∧ tn i s'.heap ∧ ∀ b ∈ fp, H' b = none) ?_ m0 ⟨0, H3, w0, I4, st4, nf⟩
  rintro k s' ⟨i, H', wk, Ib, st, nfk⟩
  have fk : ∀ b ∈ fp, FpOk (X.blk s3 H3 sc ce fp) [] H' b := fun b hb => ⟨nfk b hb, (Ib.ok.exf b hb).1, Ib.ok.exfs b hb, .inl hb, (Ib.ok.exf b hb).2, fun p hp => by cases hp⟩
  rcases turn i k H' wk with ⟨js, hq⟩ | ⟨jg, Nx, hNx, hy⟩
  · refine thn (T.done (X.blk s3 H3 sc ce fp) rfl rfl rfl hc i [] s' (wipe σ vs) H' _ Ib fk st js) fun r s1 h => ?_
    obtain ⟨rfl, I1⟩ := h
    exact stop s1 H' I1 hq
  · refine thn (T.item (X.blk s3 H3 sc ce fp) rfl rfl rfl hc i [] s' (wipe σ vs) H' _ Ib fk st jg) fun r s1 h => ?_
    obtain ⟨u, rfl, hu⟩ := h
    refine thn hu fun _ s2 h => ?_
    obtain ⟨x, H2, I2, rx, yx, st2, nf2⟩ := h
    have I2p : L2.Inv (X.blk s3 H3 sc ce fp) (pinsAt fp s2.heap) (wipe σ vs) H2 s2 := inv_pins I2 fun p hp => by
      obtain ⟨b, o⟩ := p
      obtain ⟨hb, e⟩ := of_pinsAt hp
      obtain ⟨o2, e2, hd⟩ := T.obj (i + 1) s2.heap st2 b hb
      rw [e] at e2
      cases e2
      exact ⟨e, nf2 b hb, (Ib.ok.exf b hb).1, Ib.ok.exfs b hb, hd⟩
    refine wpAny_mono (hg.run _ s2 _ H2 x u _ I2p rx (hy x H2 yx)) (fun _ s5 h => ?_) (fun _ _ h => False.elim h)
    obtain ⟨σ5, H5, I5, hw5, ht5⟩ := h
    refine wpAny_pure ?_
    rw [if_pos rfl]
    have ht : te σ5 H5 fun y H4 => ∃ acc, H4 D = some (.lst acc) ∧ acc.length < sizeLine ∧ Nx (upd H4 D (.lst (acc ++ [y]))) := by
      have z : (if true = true then te σ5 H5 fun y H4 => ∃ acc, H4 D = some (.lst acc) ∧ acc.length < sizeLine ∧ Nx (upd H4 D (.lst (acc ++ [y]))) else Nx H5) := ht5
      rwa [if_pos rfl] at z
    refine thn (he.run _ s5 σ5 H5 _ (I5.wish _) ht) fun v s6 h => ?_
    obtain ⟨y, H6, I6, ry, acc, hD, hl, hn⟩ := h
    refine app_ok (X := (X.blk s3 H3 sc ce fp).wish (notedBy (model X.prog X.w) X.A ce fun e s' => R (.error e) s')) I6 hD hl ry fun s7 I7 => ?_
    obtain ⟨k', hk', wk'⟩ := hNx _ hn
    have I7b : L2.Inv (X.blk s3 H3 sc ce fp) (pinsAt fp s2.heap) σ5 (upd H6 D (.lst (acc ++ [y]))) s7 := I7.wish _
    have pin : ∀ b ∈ fp, ∀ o, s2.heap.get? b = some o → s7.heap.get? b = some o ∧ upd H6 D (.lst (acc ++ [y])) b = none := fun b hb o e => by
      have z := I7b.pin (b, o) (List.mem_append_right _ (mem_pinsAt hb e))
      exact ⟨z.1, z.2.1⟩
    refine ⟨k', hk', i + 1, _, wk', inv_less I7b (by rw [← hw5, wipe_length]) (fun j x e => by rw [← hw5] at e; exact wipe_wipe e), T.keep (i + 1) s2.heap _ st2 fun b hb o e => (pin b hb o e).1, fun b hb => ?_⟩
    obtain ⟨o, e, _⟩ := T.obj (i + 1) s2.heap st2 b hb
    exact (pin b hb o e).2
theorem lc_coreX {X : Cx} {pins : List (Addr × Obj)} {s : Shared} {σ : L2.St} {H : Hp} {Q : VK} {elt tg iter : Expr} {scope : Scope} {own : List (Str × Nat)} {pos pos' : Pos} {wi : TI} {g : TG} {te : TE} {use : Option (Value → Sem Unit)} {Qf : Value → Shared → Prop} {W : WX}
    (hc : X.calm = true) (hN : X.N.Nodup) (hst : X.stack = X.env :: X.outer) (hfr : X.env.frame = some X.env.locals) (tk : L2N.Takes X W) (I : L2.Inv X pins σ H s) (hi : PI X tg iter wi) (ok : BlkOk X.N X.env.scope scope own)
    (hg : ∀ (s : Shared) (H : Hp) (C : Addr) (cl : List (Str × Addr)) (fp : List Addr), PG (X.blk s H scope (compEnvC scope cl C X.env) fp) tg g)
    (he : ∀ (s : Shared) (H : Hp) (C : Addr) (cl : List (Str × Addr)) (fp : List Addr) (xe : Value → Shared → Prop), (∀ σ', PassesAt (L2N.CX X.prog X.w) ((X.blk s H scope (compEnvC scope cl C X.env) fp).wish xe) σ' (WE W σ)) → PE ((X.blk s H scope (compEnvC scope cl C X.env) fp).wish xe) elt te)
    (hs : ∀ x, foldedSetIterable iter X.env x = pure x) (h : tLc wi g tYes te (own.map (·.2)) σ H Q)
    (hR : ∀ (D C : Addr) (s' : Shared) (m : Str → Option Value) (H' : Hp) (cenv : Env), cenv.locals = C → L2.Inv X pins σ H' s' → Q (.ref D) H' → s'.heap.Ns C m → FpOk X pins H' C → compEnds (model X.prog X.w) X.A X.xe use Qf (.ref D) cenv (.ok .next) s') :
    wpAny (model X.prog X.w) X.A (comprehension (elt.ListComp [{ target := tg, iter := iter, ifs := [], is_async := 0 }] scope pos) scope X.env pos' (newList []) false (eval iter X.env) use) Qf X.xe s := by
  have hfree := fun y hy e => (ok.free y hy e).elim (fun k => I.ok.has y.1 (Or.inl k)) fun k => I.ok.has y.1 (Or.inr k)
  refine comprehension_at rfl hs (closure_ok hfree) ok.kind (fun y hy e => by rw [ok.uniq y hy, e]) ?_
  refine thn (hi.run pins s σ H _ I h) fun xv s1 hx => thn hx fun itv s2 h2 => ?_
  obtain ⟨it, fp, tn, J, H2, rfl, I2, T, st2, f2, q⟩ := h2
  refine wpAny_newObj_type ?_
  refine newEnv_comp ?_
  have hDn := HOk.fresh I2.hok (Nat.le_of_eq rfl)
  obtain ⟨Wn, ⟨m0, w0⟩, turn⟩ := q s2.heap.objs.size hDn
  have I3 := Inv.laid (h' := s2.heap.push { cls := .type "list", data := .seq #[] }) (a := s2.heap.objs.size) (o := .lst []) (t' := s2.toks) I2 (fun b o e => Heap.get?_push_of_some _ e) (Nat.le_of_eq rfl) ⟨Nat.zero_le _, [], 0, Paired.nil, Heap.get?_push_size _ rfl⟩
  have sz : ∀ b ∈ fp, b < s2.heap.objs.size := fun b hb => by
    obtain ⟨o, e, _⟩ := T.obj 0 s2.heap st2 b hb
    exact Heap.lt_size e
  have f3 : ∀ b ∈ fp, FpOk X pins (upd H2 s2.heap.objs.size (.lst [])) b ∧ b < (s2.heap.push { cls := .type "list", data := .seq #[] }).objs.size := fun b hb =>
    ⟨⟨by rw [upd_ne (Nat.ne_of_lt (sz b hb))]; exact (f2 b hb).1, (f2 b hb).2⟩, by rw [Heap.size_push]; exact Nat.lt_succ_of_lt (sz b hb)⟩
  have I4 := block_start I3 ok hN f3
  have fC := fp_new I3 (Nat.le_refl _)
  have st4 : tn 0 (pushCells ((s2.heap.push { cls := .type "list", data := .seq #[] }).push { cls := .type "dict", data := .dict #[] }) scope.names) := T.keep 0 s2.heap _ st2 fun b _ o e => pushCells_keeps _ _ _ _ (Heap.get?_push_of_some _ (Heap.get?_push_of_some _ e))
  have loop := lc_loopX (elt := elt) (iter := iter) (scope := scope) (pos := pos) (R := compEnds (model X.prog X.w) X.A X.xe use Qf (.ref s2.heap.objs.size) _) hc T (hg _ _ _ _ _) (he _ _ _ _ _ _ fun σ' => comp_passes hst hfr tk I3 (fun b hb => (f3 b hb).1) (by exact fC) (by rfl) σ') turn (fun s1 H' I1 hq => by
    obtain ⟨m, hn, _⟩ := I1.loc
    refine hR _ _ s1 m H' _ rfl ?_ hq hn ⟨I1.free, fC.2⟩
    exact I3.call' I1.os I1.base I1.hok I1.bare (fun b hb => by obtain ⟨_, g1, _, g3, g4, g5⟩ := (f3 b hb).1; exact ⟨g3, g1, g4, g5⟩)) I4 st4 (fun b hb => (f3 b hb).1.1) w0
  exact codeAny_compStart_list loop (T.self _ _ _ _ _ st4 loop)
end Od

namespace Od
open PySem PySem.Spec PyProof.Rows L2 SX Evl
/-! ## exceptions whose context is None, or an exception whose context is None -/
def Zg (k : Value) (cls : Value) (d : Option Addr) (o : Obj) : Prop := o.cls = cls ∧ o.dict = d ∧ ∀ vs, o.data = .fields vs → vs[2]? = some k
theorem steady_k {k : Value} : PXN.Steady1 fun o => ∀ vs, o.data = .fields vs → vs[2]? = some k := fun o v h vs e => by
  obtain ⟨c, d, dt, sl⟩ := o
  cases dt with
  | fields vs0 =>
    have e2 := Data.fields.inj e
    rw [← e2, Array.getElem?_setIfInBounds_ne (by decide)]
    exact h vs0 rfl
  | _ => cases e
theorem Zg.steady {k cls : Value} {d : Option Addr} : PXN.Steady1 (Zg k cls d) := fun o v h => ⟨PXN.steady_cls o v h.1, PXN.steady_dict o v h.2.1, steady_k o v h.2.2⟩
def CtxP (a : Addr) (k : Value) (ps : List (Addr × Obj)) : Prop := k = .none ∨ ∃ c oc vc, k = .ref c ∧ (c, oc) ∈ ps ∧ oc.data = .fields vc ∧ vc[2]? = some .none ∧ c ≠ a
def CtxB (a : Addr) (k : Value) (B : Heap) (H : Hp) : Prop := k = .none ∨ ∃ c oc vc, k = .ref c ∧ B.get? c = some oc ∧ H c = none ∧ oc.data = .fields vc ∧ vc[2]? = some .none ∧ c ≠ a
def XE2 (X : Cx) (W : WX) (u : Value) (s' : Shared) : Prop := ∃ a B sI pins σ H cls d k, u = .ref a ∧ L2.Inv X pins σ H sI ∧ (∀ b o, sI.heap.get? b = some o → ¬ b ∈ frs X.stack → B.get? b = some o) ∧ sI.heap.UpToSlots s'.heap ∧
  Sky B X.stack a (Zg k cls d) X.env.locals s'.heap ∧ H a = none ∧ s'.os = sI.os ∧ AllBare s'.gens ∧ CtxP a k pins ∧ W cls d σ H
def CX2 (P : Program) (w : World) : CXT := fun outer H s E u s' => ∃ a B H' cls d k, u = .ref a ∧ HandSPX.FlyingZ B outer a (Zg k cls d) s'.heap ∧ HOk P w H' B ∧ UB (frs outer) H H' s.heap B s'.heap ∧ H' a = none ∧ s'.os = s.os ∧ AllBare s'.gens ∧ CtxB a k B H' ∧ E cls d H'
def Takes2 (X : Cx) (W : WX) : Prop := ∀ u s', XE2 X W u s' → X.xe u s'
theorem sky_imp {B : Heap} {l : List Env} {a L : Addr} {Z Z' : Obj → Prop} {h : Heap} (x : Sky B l a Z L h) (w : ∀ o, Z o → Z' o) : Sky B l a Z' L h := by
  rcases x with ⟨h1, h2, h3, oe, vs, e1, z, e2⟩ | ⟨h1, h2, h3, oe, vs, T, oT, ts, e1, z, e2⟩ | ⟨h1, h2, h3, oe, vs, T, oT, ts, e1, z, e2⟩
  · exact .inl ⟨h1, h2, h3, oe, vs, e1, w _ z, e2⟩
  · exact .inr (.inl ⟨h1, h2, h3, oe, vs, T, oT, ts, e1, w _ z, e2⟩)
  · exact .inr (.inr ⟨h1, h2, h3, oe, vs, T, oT, ts, e1, w _ z, e2⟩)
/-- what is raised with no context goes -/
theorem takesN_of2 {X : Cx} {W : WX} (tk : Takes2 X W) : L2N.Takes X W := fun u s' ⟨a, B, sI, pins, σ, H, cls, d, e, I, nb, up, sk, na, os, ag, w⟩ =>
  tk u s' ⟨a, B, sI, pins, σ, H, cls, d, .none, e, I, nb, up, sky_imp sk fun o z => z, na, os, ag, .inl rfl, w⟩
theorem leave2 {X : Cx} {s' : Shared} {W : WX} {E : XK} (hs : X.stack = X.env :: X.outer) (hf : X.env.frame = some X.env.locals) (hex : X.ex = []) {E₁ : Value → Shared → Prop} (hW : ∀ cls d σ H, W cls d σ H → E cls d H) {u : Value} (x : XE2 X W u s') :
    wpAny (model X.prog X.w) X.A (leaving X.env u) (fun _ s'' => CX2 X.prog X.w X.outer X.H_0 X.s_0 E u s'') E₁ s' := by
  obtain ⟨a, B, sI, pins, σ, H, cls, d, k, rfl, I, nb, up, sky, na, os, ag, cp, w⟩ := x
  have hfr : X.A.frames = some (X.env :: X.outer) := I.ok.frames.trans (congrArg some hs)
  have nst : ∀ b o, X.s_0.heap.get? b = some o → ¬ b ∈ X.fs → ¬ b ∈ frs X.stack := fun b o e hb hm => by
    rcases List.mem_cons.mp (I.stkSub b hm) with z | z
    · have h1 := Heap.lt_size e
      exact Nat.lt_irrefl _ (Nat.lt_of_lt_of_le (z ▸ h1) I.ok.above)
    · exact hb z
  have hex' : ∀ b, ¬ b ∈ X.ex := fun b hb => by rw [hex] at hb; cases hb
  have hokB := I.inGround nb
  have fin : ∀ h', HandSPX.FlyingZ B X.outer a (Zg k cls d) h' → s'.heap.UpToSlots h' → CX2 X.prog X.w X.outer X.H_0 X.s_0 E (.ref a) { heap := h', gens := s'.gens, drawn := s'.drawn, toks := s'.toks, os := s'.os } := fun h' fl up' => by
    refine ⟨a, B, H, cls, d, k, rfl, fl, hokB, ⟨fun b o e n hb => nb b o (I.base.keep b o e n hb (hex' b)) (nst b o e hb), fun b o e hb => ?_, fun b o e n => I.base.free b o e n (hex' b), fun b o e hb => ?_, I.base.tups, I.base.frzs, I.base.tbls⟩, na, os.trans I.os, ag, ?_, hW _ _ _ _ w⟩
    · obtain ⟨_, o₀, e₀, hnf⟩ := Heap.FunFrames.mem I.ok.funs hb
      rw [e] at e₀
      cases e₀
      obtain ⟨sl, e1⟩ := I.base.slot b o e (I.ok.frf b hb) hb (hex' b)
      obtain ⟨sl2, e2⟩ := up b _ e1 hnf
      obtain ⟨sl3, e3⟩ := up' b _ e2 hnf
      exact ⟨sl3, e3⟩
    · obtain ⟨o', e1⟩ := I.base.there b o e (hex' b)
      exact ⟨o', nb b o' e1 (nst b o e hb)⟩
    · rcases cp with z | ⟨c, oc, vc, z, hm, hd, h2, hne⟩
      · exact .inl z
      · have p := I.pin (c, oc) (List.mem_append_right _ hm)
        refine .inr ⟨c, oc, vc, z, nb c oc p.1 (fun q => ?_), p.2.1, hd, h2, hne⟩
        rcases List.mem_cons.mp (I.stkSub c q) with y | y
        · exact p.2.2.1 y
        · exact p.2.2.2.1 y
  rw [hs] at sky
  rcases sky with ⟨hB, hn, hl, oe, vs, he, hz, hd, h1⟩ | fl | hd
  · exact PXN.leaving_firstZ Zg.steady hfr hl hf he hB hn hd h1 hz fin
  · exact PXN.leaves_onZ Zg.steady hfr hf fl fin
  · exact HandSPX.leaves_heldZ hf hd fin
theorem takes2_of {X : Cx} {E : XK} (hs : X.stack = X.env :: X.outer) (hf : X.env.frame = some X.env.locals) (hex : X.ex = []) {E₁ : Value → Shared → Prop} (hx : X.xe = fun e s' => wpAny (model X.prog X.w) X.A (leaving X.env e) (fun _ s'' => CX2 X.prog X.w X.outer X.H_0 X.s_0 E e s'') E₁ s') : Takes2 X fun cls d _ H => E cls d H := fun u s' x => by
  rw [hx]
  exact leave2 (W := fun cls d _ H => E cls d H) hs hf hex (fun _ _ _ _ z => z) x
theorem nfr_of {h B : Heap} {l : List Env} {c : Addr} {o : Obj} (ff : h.FunFrames B l) (e : B.get? c = some o) : ¬ c ∈ frs l := fun hm => by
  obtain ⟨z, _⟩ := Heap.FunFrames.mem ff hm
  rw [e] at z
  cases z
theorem of_call2 {X : Cx} {pins : List (Addr × Obj)} {σ : L2.St} {H : Hp} {s s' : Shared} {W : WX} {E : XK} (I : L2.Inv X pins σ H s) (hW : ∀ cls d H', E cls d H' → W cls d σ H') {u : Value} (c : CX2 X.prog X.w X.stack H s E u s') : XE2 X W u s' := by
  obtain ⟨a, B, H', cls, d, k, rfl, fl, hok, ub, na, os, ag, cb, hE⟩ := c
  obtain ⟨G, g1, g2⟩ := restrict s'.heap fun b => (B.get? b).isSome || decide (b ∈ frs X.stack)
  have st := fl.1
  have gB : ∀ b o, B.get? b = some o → G.get? b = some o := fun b o e => by
    rw [g1 b (by rw [e] <;> rfl)]
    exact st b o e
  have gF : ∀ b, b ∈ frs X.stack → G.get? b = s'.heap.get? b := fun b hb => g1 b (by rw [decide_eq_true hb, Bool.or_true])
  have og : ∀ b o, G.get? b = some o → s'.heap.get? b = some o ∧ ((B.get? b).isSome = true ∨ b ∈ frs X.stack) := fun b o e => by
    cases q : (B.get? b).isSome || decide (b ∈ frs X.stack) with
    | false => rw [g2 b q] at e; cases e
    | true =>
      rw [g1 b q] at e
      exact ⟨e, (Bool.or_eq_true _ _ ▸ q).imp _root_.id of_decide_eq_true⟩
  have IG : L2.Inv X pins σ H' { heap := G, gens := s'.gens, drawn := s'.drawn, toks := s'.toks, os := s.os } := Inv.call (ch := []) I
    ⟨fun b o e n hb _ => gB b o (ub.keep b o e n hb), fun b o e n hb _ => by
      obtain ⟨sl, q⟩ := ub.slot b o e hb
      exact ⟨sl, by rw [gF b hb]; exact q⟩, fun b o e n _ => ub.free b o e n, fun b o e _ => by
      by_cases hb : b ∈ frs X.stack
      · obtain ⟨sl, q⟩ := ub.slot b o e hb
        exact ⟨_, by rw [gF b hb]; exact q⟩
      · obtain ⟨o', q⟩ := ub.there b o e hb
        exact ⟨o', gB b o' q⟩, ub.tups, ub.frzs, ub.tbls⟩ (HOk.kept hok gB) ag fun b hb => by cases hb
  have nb : ∀ b o, G.get? b = some o → ¬ b ∈ frs X.stack → B.get? b = some o := fun b o e hb => by
    obtain ⟨e', h⟩ := og b o e
    rcases h with h | h
    · obtain ⟨o', q⟩ := Option.isSome_iff_exists.mp h
      have z := st b o' q
      rw [e'] at z
      cases z
      exact q
    · exact absurd h hb
  rcases cb with z | ⟨c, oc, vc, z, hc, hcn, hd, h2, hne⟩
  · exact ⟨a, B, _, pins, σ, H', cls, d, k, rfl, IG, nb, Heap.UpToSlots.of_keeps fun b o e => (og b o e).1, .inr (.inl fl), na, os, ag, .inl z, hW _ _ _ hE⟩
  · have nf := nfr_of fl.2.2.1 hc
    have IP : L2.Inv X [(c, oc)] σ H' { heap := G, gens := s'.gens, drawn := s'.drawn, toks := s'.toks, os := s.os } := inv_pins (inv_less IG rfl fun _ _ e => e) fun p hp => by
      obtain rfl : p = (c, oc) := List.mem_singleton.mp hp
      obtain ⟨m, ⟨ol, es, ep, el, dl, _⟩, _⟩ := IG.loc
      refine ⟨gB c oc hc, hcn, fun q => ?_, fun q => ?_, fun v q => ?_⟩
      · have x := gB c oc hc
        have el2 : G.get? X.env.locals = some ol := el
        rw [← q, x] at el2
        cases el2
        rw [hd] at dl
        cases dl
      · rcases I.ok.stk with y | ⟨y, _⟩
        · exact nf (by rw [y]; exact q)
        · refine nf ?_
          rw [y]
          obtain ⟨en, he, hq⟩ := List.mem_filterMap.mp q
          exact List.mem_filterMap.mpr ⟨en, List.mem_cons_of_mem _ he, hq⟩
      · have q2 : oc.data = Data.cell v := q
        rw [hd] at q2
        cases q2
    exact ⟨a, B, _, [(c, oc)], σ, H', cls, d, k, rfl, IP, nb, Heap.UpToSlots.of_keeps fun b o e => (og b o e).1, .inr (.inl fl), na, os, ag, .inr ⟨c, oc, vc, z, List.mem_singleton.mpr rfl, hd, h2, hne⟩, hW _ _ _ hE⟩
theorem passAt2 {X : Cx} {W : WX} (tk : Takes2 X W) (σ : L2.St) : PassesAt (CX2 X.prog X.w) X σ (WE W σ) := fun pins H s e s' I c => tk e s' (of_call2 I (fun _ _ _ z => z) c)
/-! ## a raise in an except suite -/
theorem inv_unsuite {X : Cx} {a : Addr} {pn pins : List (Addr × Obj)} {σ : L2.St} {H : Hp} {s : Shared} (I : L2.Inv (L2H.suiteX X a pn) pins σ H s) (ok : X.Ok) (hpn : X.pn = []) : L2.Inv X (pn ++ pins) σ H s :=
  ⟨ok, I.os, I.bare, I.base, I.loc, I.cell, I.free, I.freeC, fun p hp => I.pin p (by rw [hpn, List.nil_append] at hp; exact hp), I.hok, I.len⟩
theorem raise2_ok {X : Cx} {a1 : Addr} {oe1 : Obj} {pn pins : List (Addr × Obj)} {W : WX} {σ : L2.St} {H' : Hp} {sI s1 : Shared} {a : Addr} {oe : Obj} {vs v1 : Array Value} {cls : Value} {d : Option Addr} (ok : X.Ok) (hpn : X.pn = []) (tk : Takes2 X W) (J : L2.Inv (L2H.suiteX X a1 ((a1, oe1) :: pn)) pins σ H' sI)
    (k : ∀ b o, sI.heap.get? b = some o → s1.heap.get? b = some o) (hne : sI.heap.get? a = none) (ha : s1.heap.get? a = some oe) (hz : L2N.Zn cls d oe) (hd : oe.data = .fields vs) (h1 : vs[1]? = some .none) (na : H' a = none) (os : s1.os = sI.os) (ag : AllBare s1.gens) (e1 : oe1.data = .fields v1) (c1 : v1[2]? = some .none) (q : W cls d σ H') :
    X.xe (.ref a) { s1 with heap := s1.heap.update a (Obj.mapFields fun x => x.setIfInBounds 2 (.ref a1)) } := by
  have P1 : sI.heap.get? a1 = some oe1 := (J.pin (a1, oe1) (List.mem_append_left _ List.mem_cons_self)).1
  have nap : a1 ≠ a := fun z => by rw [z, hne] at P1; cases P1
  have hi : 2 < vs.size := (Array.getElem?_eq_some_iff.mp (hz.2.2 vs hd)).1
  have IX := inv_unsuite J ok hpn
  have keep : ∀ b u, sI.heap.get? b = some u → (s1.heap.update a (Obj.mapFields fun x => x.setIfInBounds 2 (.ref a1))).get? b = some u := fun b u z => by
    have nab : a ≠ b := fun y => by rw [← y, hne] at z; cases z
    rw [Heap.get?_update_other _ _ nab]
    exact k b u z
  have hself := Heap.get?_update_self (f := Obj.mapFields fun x => x.setIfInBounds 2 (.ref a1)) (h := s1.heap) ha (Obj.isFreed_of_fields (Obj.data_mapFields hd _))
  refine tk _ _ ⟨a, PySem.W.hideAll sI.heap (frs X.stack), sI, _, σ, H', cls, d, .ref a1, rfl, IX, fun b o e hb => PySem.W.hideAll_get (frs X.stack) e hb, Heap.UpToSlots.of_keeps keep, .inl ⟨fun b o e => keep b o (PySem.W.of_hideAll (frs X.stack) e), ?_, Heap.FunFrames.of_keeps (fun b o e _ => ⟨o, keep b o e, rfl⟩) (funFrames_none (Inv.stack IX) fun b hb => PySem.W.hideAll_none (frs X.stack) hb), _, _, hself, ⟨(Obj.cls_mapFields oe _).trans hz.1, (HandSPX.dict_mapFields oe _).trans hz.2.1, fun vs2 e => ?_⟩, Obj.data_mapFields hd _, ?_⟩, na, os, ag, .inr ⟨a1, oe1, v1, rfl, List.mem_append_left _ List.mem_cons_self, e1, c1, nap⟩, q⟩
  · cases e : (PySem.W.hideAll sI.heap (frs X.stack)).get? a with
    | none => rfl
    | some o => have z := PySem.W.of_hideAll (frs X.stack) e; rw [hne] at z; cases z
  · have e2 := (Obj.data_mapFields hd fun x => x.setIfInBounds 2 (.ref a1)).symm.trans e
    have e3 := Data.fields.inj e2
    rw [← e3]
    simp [hi]
  · rw [Array.getElem?_setIfInBounds_ne (by decide)]
    exact h1
theorem ps_raise2 {X : Cx} {a1 : Addr} {oe1 : Obj} {pn : List (Addr × Obj)} {cls1 : Value} {d1 : Option Addr} {W : WX} {e : Expr} {t : L2.St → Hp → XK → Prop} {pos : Pos} (ok : X.Ok) (hpn : X.pn = []) (hz1 : L2N.Zn cls1 d1 oe1) (hf1 : ∃ vs, oe1.data = .fields vs) (tk : Takes2 X W)
    (he : L2N.PMk (L2H.suiteX X a1 ((a1, oe1) :: pn)) e t) : PS (L2H.suiteX X a1 ((a1, oe1) :: pn)) (.Raise (some e) none pos) (fun _ σ H => t σ H fun cls d H' => W cls d σ H') := by
  refine ⟨fun pins s σ H D I h => ?_⟩
  obtain ⟨v1, e1⟩ := hf1
  have c1 := hz1.2.2 v1 e1
  refine (show wpAny _ _ (standAt pos >>= _) _ _ s from wpAny_bind (wpAny_standAt (HotX.raise_made_hot (x1 := a1) (wpAny_bind (wpAny_mono (he pins s σ H (fun cls d H' => W cls d σ H') I h) (fun u s1 hu => wpAny_bind (wpAny_standAt (wpAny_pure ?_))) fun _ _ z => z)))))
  obtain ⟨a, oe, vs, sI, H', cls, d, rfl, J, k, hne, ha, hz, hd, h1, na, os, ag, r, q⟩ := hu
  obtain ⟨r1, r2⟩ := r (model X.prog X.w) s1.heap (PySem.W.Frag.In.keeps (Inv.kIn J) k)
  have P1 : sI.heap.get? a1 = some oe1 := (J.pin (a1, oe1) (List.mem_append_left _ List.mem_cons_self)).1
  have nap : a1 ≠ a := fun z => by rw [z, hne] at P1; cases P1
  exact ⟨a, oe, vs, cls, rfl, ha, hz.1, hd, h1, (Array.getElem?_eq_some_iff.mp (hz.2.2 vs hd)).1, nap, ⟨rfl, oe1, v1, k a1 oe1 P1, e1, c1⟩, r1, r2, raise2_ok (X := X) ok hpn tk J k hne ha hz hd h1 na os ag e1 c1 q⟩
/-- try: body, except C: raise D(..); what the body raises is a C -/
theorem ps_try_raise2 {X : Cx} {x : Str} {c : Value} {body : List Stmt} {e : Expr} {np pos pos' rpos : Pos} {tb : WX → TS} {t : L2.St → Hp → XK → Prop} {W : WX} (hs : X.stack = X.env :: X.outer) (hf : X.env.frame = some X.env.locals) (hpn : X.pn = []) (hc : Names X x c) (hpa : ∀ hd : Option Value, PassesOwnAt (model X.prog X.w) (X.A.mark hd) X.A X.env X.xe) (tk : Takes2 X W)
    (hb : ∀ (W' : WX) (pn : List (Addr × Obj)) (xe : Value → Shared → Prop), L2N.Takes (X.tr pn xe) W' → PSs (X.tr pn xe) body (tb W')) (he : ∀ (a : Addr) (pn : List (Addr × Obj)), L2N.PMk (L2H.suiteX X a pn) e t) :
    PS X (.Try body [.ExceptHandler (some (.Name x np)) none [.Raise (some e) none rpos] pos'] [] [] pos) (fun D σ H => tb (wOnly X.K c (fun _ _ _ => tSeq (fun _ σ H => t σ H fun cls d H' => W cls d σ H') tNext) (fun _ _ _ _ => False) D) D σ H) :=
  ⟨fun pins s σ H D I h => (L2H.ps_try_onlyX hs hf hc hpa (Wout := fun _ _ _ _ => False) (fun _ _ z => by
      obtain ⟨_, _, _, _, _, _, _, _, _, _, _, _, _, _, _, _, z⟩ := z
      exact z.elim) (fun W' pn xe t1 _ _ => hb W' pn xe t1) (fun a oe cls d pn hz hfl _ _ => pss_cons (ps_raise2 I.ok hpn hz hfl tk (he a _)) pss_nil)).run pins s σ H D I h⟩
/-! ## try: body, except C as e: suite; what the body raises is a C -/
def wHit (K : PySem.W.Frag) (c : Value) (i : Nat) (ts : Addr → Value → Option Addr → TS) (D : Ends) : WX := fun cls d σ H => PySem.W.exmOne K cls c = some true ∧ ∀ a, H a = none →
  ts a cls d { nx := fun σ' H' => D.nx (σ'.set i none) H', rt := D.rt, bk := fun σ' H' => D.bk (σ'.set i none) H', ct := fun σ' H' => D.ct (σ'.set i none) H' } (σ.set i (some (.ref a))) H
theorem inv_drop {X : Cx} {p1 p2 : List (Addr × Obj)} {σ : L2.St} {H : Hp} {s : Shared} (I : L2.Inv X (p1 ++ p2) σ H s) : L2.Inv X p1 σ H s :=
  ⟨I.ok, I.os, I.bare, I.base, I.loc, I.cell, I.free, I.freeC, fun p hp => I.pin p (by rw [← List.append_assoc]; exact List.mem_append_left _ hp), I.hok, I.len⟩
theorem ctxP_sub {a : Addr} {k : Value} {p1 p2 : List (Addr × Obj)} (h : CtxP a k p1) (w : ∀ p ∈ p1, p ∈ p2) : CtxP a k p2 := by
  rcases h with z | ⟨c, oc, vc, z, hm, r⟩
  · exact .inl z
  · exact .inr ⟨c, oc, vc, z, w _ hm, r⟩
theorem ps_try_as2 {X : Cx} {x n : Str} {c : Value} {i : Nat} {body suite : List Stmt} {b₀ : Stmt} {np pos pos' : Pos} {tb : WX → TS} {ts : Addr → Value → Option Addr → TS} (hs : X.stack = X.env :: X.outer) (hf : X.env.frame = some X.env.locals) (hN : X.N.Nodup) (hi : X.N[i]? = some n) (hln : X.env.kindOf n = some .local) (hc : Names X x c)
    (hb : ∀ (W : WX) (pn : List (Addr × Obj)) (xe : Value → Shared → Prop), Takes2 (X.tr pn xe) W → PSs (X.tr pn xe) body (tb W))
    (hsu : ∀ (a : Addr) (oe : Obj) (cls : Value) (d : Option Addr) (pn : List (Addr × Obj)) (k : Value), Zg k cls d oe → (∃ vs, oe.data = .fields vs) → CtxP a k pn → PSs (X.suite a ((a, oe) :: pn)) (b₀ :: suite) (ts a cls d)) :
    PS X (.Try body [.ExceptHandler (some (.Name x np)) (some n) (b₀ :: suite) pos'] [] [] pos) (fun D σ H => tb (wHit X.K c i ts D) D σ H) := by
  refine ⟨fun pins s σ H D I h => ?_⟩
  have ok := I.ok
  have hfr : X.A.frames = some (X.env :: X.outer) := ok.frames.trans (congrArg some hs)
  refine wpAny_Try_except (wpAny_mono ((hb (wHit X.K c i ts D) (X.pn ++ pins) (fun e s₁ => wpAny (model X.prog X.w) X.A (noteFrame e X.env) (fun _ s₂ => wpAny (model X.prog X.w) X.A (setFlight e .none) (fun _ s₃ => wpAny (model X.prog X.w) X.A (handleBy e X.env [.ExceptHandler (some (.Name x np)) (some n) (b₀ :: suite) pos']) (SP X pins D) X.xe s₃) X.xe s₂) X.xe s₁) ?_).run [] s σ H D (Inv.toTry I _) h) (fun f s1 hsp => ?_) (fun _ _ he => he))
  · rintro u s' ⟨a, B, sI, pins', σ', H', cls, d, k, rfl, J', nb, up, sky, na, os, ag, cp, hb1, hyes⟩
    have JP : L2.Inv X (pins ++ pins') σ' H' sI := ⟨ok, J'.os, J'.bare, J'.base, J'.loc, J'.cell, J'.free, J'.freeC, fun p hp => J'.pin p (by rw [← List.append_assoc] at hp; exact hp), J'.hok, J'.len⟩
    have sky' : Sky B (X.env :: X.outer) a (Zg k cls d) X.env.locals s'.heap := hs ▸ sky
    refine L2N.Sky.land Zg.steady hfr hf sky' fun h3 fl3 up3 => ?_
    have J3 := Inv.landed (s' := { heap := h3, gens := s'.gens, drawn := s'.drawn, toks := s'.toks, os := s'.os }) JP nb fl3.1 (up.trans up3) os ag
    obtain ⟨oe3, vs3, he3, hz3, hd3⟩ := HandSPX.FlyingZ.there fl3
    have nfr : ¬ a ∈ frs (X.env :: X.outer) := fun hm => by
      obtain ⟨_, o', e', hnf⟩ := Heap.FunFrames.mem fl3.2.2.1 hm
      rw [he3] at e'
      cases e'
      exact hnf vs3 hd3
    have nL : a ≠ X.env.locals := fun z => nfr (List.mem_filterMap.mpr ⟨X.env, List.mem_cons_self, by rw [hf, z]⟩)
    have nF : ¬ a ∈ X.fs := fun hm => nfr (by
      obtain ⟨en, he, q⟩ := List.mem_filterMap.mp hm
      exact List.mem_filterMap.mpr ⟨en, List.mem_cons_of_mem _ he, q⟩)
    have S3 := Inv.suite J3 he3 hd3 na nL nF
    have LT : PySem.W.Looks (model X.prog X.w) h3 (typeOf (.ref a)) cls := fun A Q E s k q => wpAny_typeOf_ref (k a oe3 he3) (by rw [hz3.1]; exact q)
    have LM := PySem.W.exm_one (Inv.kIn J3) LT hb1
    refine wpAny_handleBy_cons (codeAny_handlers_test ?_) (fun q => by cases q)
    have fin : codeAny (model X.prog X.w) (X.A.mark (some (.ref a))) (Code.handlers (.ref a) [.ExceptHandler none (some n) (b₀ :: suite) pos'] X.env) (fun r s₂ =>
        match r with
        | .ok f => wpAny (model X.prog X.w) X.A (do bindName X.env n .none; unbindBehindTheSuite X.env n pos') (fun _ s₃ => SP X pins D f s₃) X.xe s₂
        | .error x => cameBackBy (model X.prog X.w) X.A X.env X.xe x s₂) { heap := h3, gens := s'.gens, drawn := s'.drawn, toks := s'.toks, os := s'.os } := by
      refine codeAny_handlers_suite_as (HandSPX.lands_againZ fl3 fun h4 fl4 up4 => ?_)
      have J4 := Inv.landed (s' := { heap := h4, gens := s'.gens, drawn := s'.drawn, toks := s'.toks, os := s'.os }) JP nb fl4.1 ((up.trans up3).trans up4) os ag
      obtain ⟨oe4, vs4, he4, hz4, hd4⟩ := HandSPX.FlyingZ.there fl4
      have S4 := Inv.suite J4 he4 hd4 na nL nF
      refine store_ok (X := X.suite a ((a, oe4) :: (X.pn ++ (pins ++ pins')))) (v := .ref a) S4 hN hi (Or.inl hln) rfl (fun s5 S5 => wpAny_mono ((hsu a oe4 cls d (X.pn ++ (pins ++ pins')) k hz4 ⟨vs4, hd4⟩ (ctxP_sub cp fun p hp => List.mem_append_right _ (List.mem_append_right _ hp))).run [] s5 _ H' _ S5 (hyes a na)) (fun f s6 hsp => ?_) (fun _ _ z => False.elim z)) (Or.inr hln)
      have end_ : ∀ {σ6 : L2.St} {H6 : Hp} {Q : Unit → Shared → Prop}, L2.Inv (X.suite a ((a, oe4) :: (X.pn ++ (pins ++ pins')))) [] σ6 H6 s6 → (∀ s7, L2.Inv X pins (σ6.set i none) H6 s7 → Q () s7) → wpAny (model X.prog X.w) X.A (do bindName X.env n .none; unbindBehindTheSuite X.env n pos') Q X.xe s6 := fun S6 hq => gone_ok (inv_drop (Inv.unsuite S6 ok)) hN hi hln hq
      match f, hsp with
      | .next, ⟨σ6, H6, S6, q6⟩ => exact end_ S6 fun s7 J7 => ⟨_, H6, J7, q6⟩
      | .brk, ⟨σ6, H6, S6, q6⟩ => exact end_ S6 fun s7 J7 => ⟨_, H6, J7, q6⟩
      | .cont, ⟨σ6, H6, S6, q6⟩ => exact end_ S6 fun s7 J7 => ⟨_, H6, J7, q6⟩
      | .ret u, ⟨v6, σ6, H6, S6, r6, q6⟩ => exact end_ S6 fun s7 J7 => ⟨v6, _, H6, J7, r6, q6⟩
    obtain ⟨hg, hdbg, hm | ⟨hm, hv, hnn⟩⟩ := hc
    · exact ld_glob S3 hg hm (PySem.W.Looks.here LM (by rw [if_pos rfl]; exact fin)) hdbg
    · exact ld_blt S3 hg hm hv (PySem.W.Looks.here LM (by rw [if_pos rfl]; exact fin)) hnn hdbg
  · match f, hsp with
    | .next, ⟨σ', H', J', q⟩ => exact wpAny_execs_nil ⟨σ', H', Inv.ofTry J' ok, q⟩
    | .brk, ⟨σ', H', J', q⟩ => exact ⟨σ', H', Inv.ofTry J' ok, q⟩
    | .cont, ⟨σ', H', J', q⟩ => exact ⟨σ', H', Inv.ofTry J' ok, q⟩
    | .ret u, ⟨v, σ', H', J', r, q⟩ => exact ⟨v, σ', H', Inv.ofTry J' ok, r, q⟩
end Od

namespace Od
open PySem PySem.Spec PyProof.Rows L2 SX Evl HotX
/-! ## any(list of bools) while an exception is handled whose context is None or such an exception -/
section
variable {prog : Program} {w : World} {A : Around} {E : Value → Shared → Prop} {s : Shared}
theorem unchained2 {x1 c a : Addr} {o1 oc : Obj} {vs1 vc : Array Value} {Q : Value → Shared → Prop} (h1 : s.heap.get? x1 = some o1) (d1 : o1.data = .fields vs1) (c1 : vs1[2]? = some (.ref c)) (h2 : s.heap.get? c = some oc) (d2 : oc.data = .fields vc) (c2 : vc[2]? = some .none) (na : c ≠ a) (nx : c ≠ x1) (q : Q .none s) :
    wpAny (model prog w) A (holding [.ref a] (runValue (Code.builtin "proto.unchain" { pos := [.ref a, .ref x1, .ref x1, .bool false] }))) Q E s := by
  have e0 : ∀ {z : Addr}, c ≠ z → ((Value.ref c == Value.ref z) = true) = False := fun h => by
    simp only [beq_iff_eq, eq_iff_iff, iff_false]
    intro y
    cases y
    exact h rfl
  refine wpAny_holding (wpAny_runValue (codeAny_builtin HotX.entry_unchain ?_))
  refine (show wpAny _ _ (field (.ref x1) 2 >>= _) _ _ s from wpAny_bind (wpAny_field h1 d1 c1 ?_))
  rw [if_neg (by exact Bool.false_ne_true), if_neg (by rw [e0 na]; exact not_false), if_neg (by rw [e0 nx]; exact not_false)]
  refine (show wpAny _ _ (pure (Value.ref x1) >>= _) _ _ s from wpAny_bind (wpAny_pure (wpAny_pure ⟨by kernel_rfl, ?_⟩)))
  refine codeAny_builtin HotX.entry_unchain ?_
  refine (show wpAny _ _ (field (.ref c) 2 >>= _) _ _ s from wpAny_bind (wpAny_field h2 d2 c2 ?_))
  rw [if_pos (show (Value.none == Value.none) = true from rfl)]
  exact wpAny_pure q
def HotOb2 (x1 : Addr) (cs : List Addr) (h : Heap) : Prop := ∃ (o : Obj) (vs : Array Value) (k : Value), h.get? x1 = some o ∧ o.data = .fields vs ∧ vs[2]? = some k ∧ (k = .none ∨ ∃ c oc vc, c ∈ cs ∧ k = .ref c ∧ h.get? c = some oc ∧ oc.data = .fields vc ∧ vc[2]? = some .none ∧ c ≠ x1)
theorem HotOb2.keep {x1 : Addr} {cs : List Addr} {h h' : Heap} (x : HotOb2 x1 cs h) (k : ∀ b o, b = x1 ∨ b ∈ cs → h.get? b = some o → h'.get? b = some o) : HotOb2 x1 cs h' := by
  obtain ⟨o, vs, kv, e1, e2, e3, e4⟩ := x
  refine ⟨o, vs, kv, k x1 o (.inl rfl) e1, e2, e3, ?_⟩
  rcases e4 with z | ⟨c, oc, vc, hc, z, f1, f2⟩
  · exact .inl z
  · exact .inr ⟨c, oc, vc, hc, z, k c oc (.inr hc) f1, f2⟩
theorem raiseNew_hot2 {α : Type} {a x1 : Addr} {cs : List Addr} {oe : Obj} {vs : Array Value} {Q : α → Shared → Prop} (quiet : A.handled = some (.ref x1)) (hot : HotOb2 x1 cs s.heap) (hne : x1 ≠ a) (hcs : ∀ c ∈ cs, c ≠ a) (ha : s.heap.get? a = some oe) (da : oe.data = .fields vs) (hi : 2 < vs.size)
    (hE : E (.ref a) { s with heap := s.heap.update a (Obj.mapFields fun x => x.setIfInBounds 2 (.ref x1)) }) : wpAny (model prog w) A (raiseNew (.ref a)) Q E s := by
  obtain ⟨o1, vs1, k, e1, e2, e3, e4⟩ := hot
  rcases e4 with rfl | ⟨c, oc, vc, hc, rfl, f1, f2, f3, f4⟩
  · exact raiseNew_hot ⟨quiet, o1, vs1, e1, e2, e3⟩ hne ha da hi hE
  · refine (show wpAny _ _ (PySem.handled >>= _) _ _ s from wpAny_bind (wpAny_handled ?_))
    rw [quiet]
    refine (show wpAny _ _ (if (Value.ref x1 != Value.ref a) = true then _ else _) _ _ s from ?_)
    rw [if_pos (ref_bne hne)]
    exact wpAny_bind (unchained2 e1 e2 e3 f1 f2 f3 (hcs c hc) f4 (wpAny_bind (chained ha da hi (wpAny_throw hE))))
theorem list_end_hot2 {it l x1 : Addr} {cs : List Addr} {i : Nat} {items : Array Value} {Q : Option Value → Shared → Prop} (quiet : A.handled = some (.ref x1)) (hot : HotOb2 x1 cs s.heap) (apart : x1 ≠ it) (apc : ∀ c ∈ cs, c ≠ it) (csl : ∀ c ∈ cs, c < s.heap.objs.size) (hit : s.heap.IsListIter it l i) (hl : s.heap.IsList l items) (none1 : items[i]? = none)
    (go : ∀ h', (∀ b o, b ≠ it → s.heap.get? b = some o → h'.get? b = some o) → Q none { s with heap := h' }) : wpAny (model prog w) A (pyNext (.ref it)) Q E s := by
  obtain ⟨o, ho, hc, hd⟩ := id hit
  obtain ⟨ol, hol, _, nl, hdl⟩ := hl
  have lt1 : x1 < s.heap.objs.size := by
    obtain ⟨_, _, _, e, _⟩ := hot
    exact Heap.lt_size e
  have up0 : ∀ b ob, b ≠ it → s.heap.get? b = some ob → ∀ f, (s.heap.update it f).get? b = some ob := fun b ob hb e f => by
    rw [Heap.get?_update_other _ _ (Ne.symm hb)]
    exact e
  unfold pyNext
  refine wpAny_bind (wpAny_attempt (wpAny_callSpecial?_slot (name := Str.ofString "__next__") hit.typeIs slot_listiter_next (wpAny_call_entry slot_listiter_next hit.typeIs entry_listiter_next (show wpAny _ _ (field (.ref it) 0 >>= _) _ _ s from ?_) (args_listiter_next _))))
  refine wpAny_bind (wpAny_field ho hd (x := .ref l) rfl (show wpAny _ _ (if (Value.ref l == Value.none) = true then _ else _) _ _ s from ?_))
  rw [if_neg (by exact Bool.false_ne_true)]
  refine (show wpAny _ _ (field (.ref it) 1 >>= _) _ _ s from wpAny_bind (wpAny_field ho hd (x := .int i 0) rfl ?_))
  refine (show wpAny _ _ (seqItems? (.ref l) >>= _) _ _ s from wpAny_bind (wpAny_seqItems hol hdl ?_))
  simp only [Int.toNat_natCast, none1]
  refine wpAny_bind (wpAny_rule (wpAny_bind (wpAny_setField ho hd (by simp) (show wpAny _ _ (newExc (.type "StopIteration") [] >>= _) _ _ _ from wpAny_bind ?_))))
  simp only [newExc, newTuple]
  refine wpAny_bind (wpAny_newObj_type ?_ (by size_fits))
  refine wpAny_bind (m := firstArgMember _ _) (wpAny_of_eq (a := Value.none) (by first | rfl | (simp only [firstArgMember]; rfl)) (wpAny_newObj_type ?_ (by size_fits)))
  have k1 : ∀ b ob, b = x1 ∨ b ∈ cs → s.heap.get? b = some ob → ∀ f, (s.heap.update it f).get? b = some ob := fun b ob hb e f => up0 b ob (hb.elim (fun z => by rw [z]; exact apart) (apc b)) e f
  have lsz : ∀ {b : Addr} {f : Obj → Obj} {o1 o2 : Obj}, b < s.heap.objs.size → b < ((s.heap.update it f).push o1).objs.size := fun h => by
    rw [Heap.size_push, Heap.size_update]
    exact Nat.lt_succ_of_lt h
  refine raiseNew_hot2 (cs := cs) quiet (hot.keep fun b o hb e => Heap.get?_push_of_some _ (Heap.get?_push_of_some _ (k1 b o hb e _))) (Nat.ne_of_lt (lsz (o2 := default) lt1)) (fun c hc => Nat.ne_of_lt (lsz (o2 := default) (csl c hc))) (Heap.get?_push_size _ rfl) rfl (by first | (simp; done) | (simp; omega) | (simp only [Array.size_append]; simp; omega)) ?_
  refine wpAny_bind (wpAny_isInstance (T := "StopIteration") (b := true) ⟨_, Heap.get?_update_self _ (Heap.get?_push_size _ rfl) rfl, rfl⟩ isSubtype_stop ?_)
  refine wpAny_pure (go _ fun b ob hb e => ?_)
  have k2 := up0 _ _ hb e
  rw [Heap.get?_update_other _ _ (Nat.ne_of_gt (Heap.lt_size (Heap.get?_push_of_some _ (k2 _))))]
  exact Heap.get?_push_of_some _ (Heap.get?_push_of_some _ (k2 _))
theorem walks_hot2 (x1 : Addr) (cs : List Addr) (quiet : A.handled = some (.ref x1)) (I ax : Addr) (hne : ax ≠ I) (apart : x1 ≠ I) (apc : ∀ c ∈ cs, c ≠ I) (items : Array Value) (n0 : Nat) (hcn : ∀ c ∈ cs, c < n0) :
    Walks prog w A I (I :: ax :: x1 :: cs) [I] items.size (fun i v => items[i]? = some v) (fun i h => h.IsListIter I ax i ∧ h.IsList ax items ∧ HotOb2 x1 cs h ∧ ∀ c ∈ cs, ∃ o, h.get? c = some o) where
  sub := fun b hb => by simp at hb; simp [hb]
  frame := fun _ _ _ st hk => ⟨st.1.at fun o e => hk I (by simp) o e, st.2.1.at fun o e => hk ax (by simp) o e, st.2.2.1.keep fun b o hb e => hk b (by rcases hb with z | z <;> simp [z]) o e, fun c hc => by
    obtain ⟨o, e⟩ := st.2.2.2 c hc
    exact ⟨o, hk c (by simp [hc]) o e⟩⟩
  item := fun i s Q E hi st hQ => by
    refine wpAny_pyNext_list_item st.1 st.2.1 (x := items[i]) (by simp [hi]) fun h' hit' hs' => ?_
    exact hQ _ h' s.toks (by simp [hi]) ⟨hit', st.2.1.extBut hs'.extBut hne, st.2.2.1.keep fun b o hb e => hs'.extBut b o (fun z => hb.elim (fun y => apart (y.symm.trans z)) fun y => apc b y z) e, fun c hc => by
      obtain ⟨o, e⟩ := st.2.2.2 c hc
      exact ⟨o, hs'.extBut c o (apc c hc) e⟩⟩ fun b o hb e => hs'.extBut b o (fun h => hb (by simp [h])) e
  done := fun s Q E st hQ => list_end_hot2 quiet st.2.2.1 apart apc (fun c hc => by
    obtain ⟨o, e⟩ := st.2.2.2 c hc
    exact Heap.lt_size e) st.1 st.2.1 (by simp) fun h' he' => hQ h' s.toks fun b o hb e => he' b o (fun h => hb (by simp [h])) e
  self := fun _ _ _ _ st hQ => wpAny_pyIter_listiter st.1 hQ
end
/-- the handled exception stands pinned, its context too -/
def HotC2 (X : Cx) : Prop := ∃ p vs k, p ∈ X.pn ∧ X.A.handled = some (.ref p.1) ∧ p.2.data = .fields vs ∧ vs[2]? = some k ∧ CtxP p.1 k X.pn
theorem hotC2_of {X : Cx} {a : Addr} {oe : Obj} {pn : List (Addr × Obj)} {cls : Value} {d : Option Addr} {k : Value} (hz : Zg k cls d oe) (hf : ∃ vs, oe.data = .fields vs) (cp : CtxP a k pn) : HotC2 (X.suite a ((a, oe) :: pn)) := by
  obtain ⟨vs, hv⟩ := hf
  exact ⟨(a, oe), vs, k, List.mem_cons_self, rfl, hv, hz.2.2 vs hv, ctxP_sub cp fun p hp => List.mem_cons_of_mem _ hp⟩
theorem cr_anyH2 {X : Cx} (K : PySem.W.Frag) (hot : HotC2 X) (hK : X.K = K := by rfl) : CallR X (.builtin "any") (rAny K) := by
  subst hK
  intro pins s σ H vs us Q I r h
  obtain ⟨a, bs, rfl, hs, q⟩ := h
  obtain ⟨its, rv, hl, _⟩ := I.list hs
  obtain ⟨⟨x1, o1⟩, v1, k, hp, quiet, f1, c1, cp⟩ := hot
  have at1 := (I.pin (x1, o1) (List.mem_append_left _ hp)).1
  obtain ⟨cs, hcs, hk⟩ : ∃ cs : List Addr, (∀ c ∈ cs, ∃ o, s.heap.get? c = some o) ∧ HotOb2 x1 cs s.heap := by
    rcases cp with z | ⟨c, oc, vc, z, hm, e2, e3, e4⟩
    · exact ⟨[], (fun c hc => by cases hc), o1, v1, k, at1, f1, c1, .inl z⟩
    · have p2 := (I.pin (c, oc) (List.mem_append_left _ hm)).1
      exact ⟨[c], (fun c' hc => by rw [List.mem_singleton.mp hc]; exact ⟨oc, p2⟩), o1, v1, k, at1, f1, c1, .inr ⟨c, oc, vc, List.mem_singleton.mpr rfl, z, p2, e2, e3, e4⟩⟩
  rw [Vals.ref1 r]
  have hb := rv.bls
  have lt1 : x1 < s.heap.objs.size := Heap.lt_size at1
  have ltc : ∀ c ∈ cs, c < s.heap.objs.size := fun c hc => by
    obtain ⟨o, e⟩ := hcs c hc
    exact Heap.lt_size e
  refine call_any_walk (iter_any hl.isList fun s₂ e2 st hne => ?_)
  subst e2
  refine ⟨_, _, _, _, _, _, _, rfl, walks_hot2 (A := X.A.in1) x1 cs quiet _ a hne (Nat.ne_of_lt lt1) (fun c hc => Nat.ne_of_lt (ltc c hc)) its.toArray _ ltc, ⟨st.1, st.2, hk.keep fun b o _ e => Heap.get?_push_of_some _ e, fun c hc => by
    obtain ⟨o, e⟩ := hcs c hc
    exact ⟨o, Heap.get?_push_of_some _ e⟩⟩, truth_bools hb, fun h' tk hk => ?_⟩
  refine ⟨.bl _, H, I.kept fun b o eo => hk b o (fun hmem => ?_) (Heap.get?_push_of_some _ eo), ?_, q⟩
  · exact absurd (List.mem_singleton.mp hmem ▸ Heap.lt_size eo) (Nat.lt_irrefl _)
  · show Value.bool _ = Value.bool _
    rw [← L2.any_range, hb, List.size_toArray, List.length_map]
end Od

namespace Od
open PySem PySem.Spec PyProof.Rows L2 SX Evl
/-! ## defs whose exceptions may have a context -/
theorem cal2_mk {P : Program} {w : World} {K : PySem.W.Frag} {mg : Str → Option Value} {base : Heap} {x : Str} {st : Stmt} {f : Addr} {N ps : List Str} {k : Nat} {sp : Sp} (F : ∃ fd, FunD K x x (defArgs st) (defBody st) (defScope st) [] [] f fd) (g : mg x = some (.ref f)) (Sc : FnScope N ps (defScope st))
    (b : ∀ (kV doc pm : Value) (an : Option Addr) (cdv ct : Value) (us : List Value), us.length = ps.length → bindArgs (PySem.W.fnOf x x (defArgs st) (defBody st) (defScope st) .none kV doc pm an cdv ct) ⟨us, []⟩ = pure (ps.zip us))
    (len : ∀ vs H Q E, sp vs H Q E → vs.length = ps.length)
    (body : ∀ (cdv : Value) (A : Around) (outer : List Env) (s : Shared) (H : Hp) (vs : List V) (Q : VK) (E : XK), Room k (A.deeper (envOfC x (defScope st) s.heap.objs.size f cdv)) → sp vs H Q E →
      ∃ t, PSs (cxOf (CX2 P w) P w K mg base N x (defScope st) f cdv A outer s H E) (defBody st) t ∧ Go H (t { nx := fun _ H' => Q .non H', rt := Q } (start N vs))) : Cal (CX2 P w) P w K mg base (k + 1) x sp := by
  obtain ⟨fd, F⟩ := F
  refine ⟨f, fd, ps, F.ok Sc len (fun cdv A outer s H vs Q E hr hsp => ?_), g, F.kp, F.bindsN b⟩
  obtain ⟨t, h, q⟩ := body cdv A outer s H vs Q E hr hsp
  exact ⟨t, h, q.here⟩
section
variable {X : Cx} {k j : Nat} {x : Str} {sp : Sp} {p pos : Pos} {e : Expr} {es : List Expr} {t : TA}
theorem pe_kxp {E : L2.St → XK} (c : Cal (CXn X.prog X.w) X.prog X.w X.K X.mg X.base k x sp) (hr : Room j X.A) (hk : k ≤ j) (hg : Gl X x) (hp : ∀ σ, PassesAt (L2N.CX X.prog X.w) X σ (E σ)) (ha : PA X (e :: es) t)
    (hdb : (x == ("__debug__" : Str)) = false := by decide) (he : starEach (e :: es) X.env = (false, eval e X.env) :: starEach es X.env := by rfl) (hpl : (backTo pos (starEach es X.env)).any (·.1) = false := by rfl) :
    PE X (.Call (.Name x p) (e :: es) [] pos) (tCallS sp E t) := by
  obtain ⟨f, fd, ps, F, hm, kp, b⟩ := c.ex
  exact pe_callS F (hr.mono hk) hg hm kp b hp ha hdb he hpl
theorem pe_k2p {E : L2.St → XK} (c : Cal (CX2 X.prog X.w) X.prog X.w X.K X.mg X.base k x sp) (hr : Room j X.A) (hk : k ≤ j) (hg : Gl X x) (hp : ∀ σ, PassesAt (CX2 X.prog X.w) X σ (E σ)) (ha : PA X (e :: es) t)
    (hdb : (x == ("__debug__" : Str)) = false := by decide) (he : starEach (e :: es) X.env = (false, eval e X.env) :: starEach es X.env := by rfl) (hpl : (backTo pos (starEach es X.env)).any (·.1) = false := by rfl) :
    PE X (.Call (.Name x p) (e :: es) [] pos) (tCallS sp E t) := by
  obtain ⟨f, fd, ps, F, hm, kp, b⟩ := c.ex
  exact pe_callS F (hr.mono hk) hg hm kp b hp ha hdb he hpl
end
abbrev noE : L2.St → XK := fun _ _ _ _ => False
theorem passN0 {X : Cx} (σ : L2.St) : PassesAt (L2N.CX X.prog X.w) X σ (noE σ) := fun pins H s e s' I c => by
  obtain ⟨_, _, _, _, _, _, _, _, _, _, _, _, z⟩ := c
  exact z.elim
theorem pass2N0 {X : Cx} (σ : L2.St) : PassesAt (CX2 X.prog X.w) X σ (noE σ) := fun pins H s e s' I c => by
  obtain ⟨_, _, _, _, _, _, _, _, _, _, _, _, _, _, z⟩ := c
  exact z.elim
theorem call_isX2 {X : Cx} {a : Addr} {oe : Obj} {pn : List (Addr × Obj)} {cls : Value} {d : Option Addr} {k : Value} (K : PySem.W.Frag) (hz : Zg k cls d oe) (hf : ∃ vs, oe.data = .fields vs) (hK : X.K = K := by rfl) : CallR (X.suite a ((a, oe) :: pn)) (.builtin "isinstance") (rIsX K a cls d) := by
  subst hK
  intro pins s σ H xs us Q I r h
  obtain ⟨D, rfl, rfl, C, q⟩ := h
  exact call_isE C ⟨hz.1, hz.2.1⟩ hf pins s σ H xs us Q I r q
/-! ## a def without parameters -/
def S0 (R : Hp → VK → Prop) : Sp := fun vs H Q _ => vs = [] ∧ R H Q
theorem len0 {R : Hp → VK → Prop} (vs : List V) (H : Hp) (Q : VK) (E : XK) (h : S0 R vs H Q E) : vs.length = 0 := by
  rw [h.1] <;> rfl
theorem pe_kn {X : Cx} {k j : Nat} {x : Str} {sp : Sp} {p pos : Pos} (c : Cal CX0 X.prog X.w X.K X.mg X.base k x sp) (hr : Room j X.A) (hk : k ≤ j) (hg : Gl X x) (hdb : (x == ("__debug__" : Str)) = false := by decide) : PE X (.Call (.Name x p) [] [] pos) (tCall sp [] E0 tNil) := by
  obtain ⟨f, fd, ps, F, hm, kp, b⟩ := c.ex
  exact pe_call0 F (hr.mono hk) hg hm kp b .nil pass0 hdb
/-! ## a comprehension whose element may raise, given to a name -/
def tLcX (wi : TI) (g : TG) (te : L2.St → TE) (vs : List Nat) : TE := fun σ H Q => tLc wi g tYes (te σ) vs σ H Q
theorem ps_setLcX {X : Cx} {i : Nat} {y : Str} {py : Pos} {elt tg iter : Expr} {scope : Scope} {own : List (Str × Nat)} {pos spos : Pos} {wi : TI} {g : TG} {te : L2.St → TE} {W : WX} (hc : X.calm = true) (hN : X.N.Nodup) (hst : X.stack = X.env :: X.outer) (hfr : X.env.frame = some X.env.locals) (tk : L2N.Takes X W)
    (hy : X.N[i]? = some y) (hyl : X.env.scope.names.lookup y = some .local) (hsw : swapsWith (.ListComp elt [⟨tg, iter, [], 0⟩] scope pos) (some (.Name y py)) spos.line X.env = pure true) (hi : PI X tg iter wi) (ok : BlkOk X.N X.env.scope scope own)
    (hg : ∀ (s : Shared) (H : Hp) (C : Addr) (cl : List (Str × Addr)) (fp : List Addr), PG (X.blk s H scope (compEnvC scope cl C X.env) fp) tg g)
    (he : ∀ (σ : L2.St) (s : Shared) (H : Hp) (C : Addr) (cl : List (Str × Addr)) (fp : List Addr) (xe : Value → Shared → Prop), (∀ σ', PassesAt (L2N.CX X.prog X.w) ((X.blk s H scope (compEnvC scope cl C X.env) fp).wish xe) σ' (WE W σ)) → PE ((X.blk s H scope (compEnvC scope cl C X.env) fp).wish xe) elt (te σ))
    (hs : ∀ x, foldedSetIterable iter X.env x = pure x := by intro x; rfl) :
    PS X (.Assign [.Name y py] (.ListComp elt [⟨tg, iter, [], 0⟩] scope pos) spos) (tAsg (tLcX wi g te (own.map (·.2))) (gName i)) := by
  refine ⟨fun pins s σ H D I h => ?_⟩
  have h2 : tLc wi g tYes (te σ) (own.map (·.2)) σ H (fun v H' => D.nx (σ.set i (some v)) H') := h
  rw [exec_Assign_Name_used y py _ spos hsw]
  refine wpAny_bind (wpAny_standAt (wpAny_bind ?_))
  refine (show wpAny _ _ (comprehension _ _ _ _ _ _ _ _ >>= _) _ _ s from ?_)
  refine wpAny_bind (thn (lc_coreX hc hN hst hfr tk I hi ok hg (he σ) hs h2 fun L C s' m H' cenv hC I' q hn f => ?_) fun x s' hq => wpAny_pure (wpAny_pure hq))
  subst hC
  refine (show wpAny _ _ (assign (.Name y py) X.env (.ref L)) _ _ s' from ?_)
  refine wpAny_assign_Name (store_ok2 (v := .ref L) I' hN hy (Or.inl hyl) rfl (fun s2 I2 hx => ?_) (Or.inr hyl))
  obtain ⟨a, sb, ha⟩ := hx
  obtain ⟨f0, f1, f2, f3, f4, f5⟩ := f
  have haC : cenv.locals ≠ a := ha.elim (fun z => by rw [z]; exact f1) fun z e => f4 y a z e.symm
  exact ⟨m, hn.sameBut sb haC, fun h3 sb3 => ⟨σ.set i (some (.ref L)), H', Inv.turned I2 (fun b o hb e => (sb3.2 b hb).trans e) f0 f1 f3 f4 f5, q⟩⟩
section
variable {K : PySem.W.Frag} {σ : L2.St} {H : Hp} {D : Ends} {tz : TS}
theorem ite_t {A B : Prop} (h : A) : (if true = true then A else B) := by
  rw [if_pos rfl]
  exact h
def EvX (E : XK) (te : TE) (σ : L2.St) (H : Hp) (r : Res) : Prop := ∀ H1, Ex H H1 → ∀ Q : VK, ends r H1 Q E → te σ H1 Q
theorem evx_call {ta : TA} {vs : List V} {sp : Sp} {E : L2.St → XK} {r : Res} (h : EvA ta σ H vs) (hs : SpE sp vs H r) : EvX (E σ) (tCallS sp E ta) σ H r := fun H1 e Q q => h H1 e _ fun H2 e2 => hs H2 (e.trans e2) Q (E σ) (q.mono e2)
theorem go_asgLcX {α : Type} (l : List α) (inj : α → V) (ok : α → Bool) (g : α → V) (C : Addr) {tl : TE} {te : L2.St → TE} {vs : List Nat} {i j : Nat} {E : XK} (d : α) (h : EvL tl σ H (l.map inj)) (hz : l.length ≤ 40000) (hw : ∀ x, wipe ((wipe σ vs).set j (some x)) vs = wipe σ vs)
    (he : ∀ x ∈ l, EvX E (te σ) ((wipe σ vs).set j (some (inj x))) H (if ok x = true then .val (g x) else .exc C))
    (k1 : l.all ok = true → ∀ p, H p = none → Go (upd H p (.lst (l.map g))) (tz D (σ.set i (some (.ref p))))) (k2 : l.all ok = false → Go H (E (.ref C) none)) :
    Go H (tSeq (tAsg (tLcX (iList K tl) (gName j) te vs) (gName i)) tz D σ) := by
  cases ha : l.all ok with
  | true =>
    have hl : EvL (tLc (iList K tl) (gName j) tYes (te σ) vs) σ H (l.map g) := el_mapN l inj g d h hz hw fun x hx H1 e Q q => by
      have z := he x hx H1 e Q
      rw [if_pos (List.all_eq_true.mp ha x hx)] at z
      exact z q
    exact go_asgL (te := tLcX (iList K tl) (gName j) te vs) (show EvL _ σ H (l.map g) from hl) (k1 ha)
  | false =>
    intro H0 e0
    refine h H0 e0 _ fun a H1 hp e1 hx => ⟨a, rfl, ⟨_, sq_of hx⟩, fun Dl hD => ?_⟩
    refine lc_list (K := K) (xs := l.map inj) (fun n H' => Ex H1 H' ∧ H' Dl = some (.lst ((l.take n).map g)) ∧ (l.take n).all ok = true) ⟨Ex.new hD, upd_same, rfl⟩ (fun n H' _ p => sq_of (p.1 _ _ hx)) (fun n x H' hi p => ?_) (fun H' p => ?_)
    · rw [List.getElem?_map] at hi
      cases hy : l[n]? with
      | none => rw [hy] at hi; cases hi
      | some y =>
        rw [hy] at hi
        obtain rfl : inj y = x := Option.some.inj hi
        have hn : n < l.length := (List.getElem?_eq_some_iff.mp hy).1
        refine ⟨hw _, ?_⟩
        simp only [tYes, ↓reduceIte]
        refine he y (List.mem_of_getElem? hy) H' ((e0.trans e1).trans p.1) _ ?_
        have et : l.take (n + 1) = l.take n ++ [y] := by rw [List.take_add_one, hy] <;> rfl
        cases oy : ok y with
        | true =>
          rw [if_pos rfl]
          intro H5 e5
          refine ⟨(l.take n).map g, e5 _ _ p.2.1, sz_lt (by rw [List.length_map, List.length_take]; omega), fun b u hu => ?_, ?_, ?_⟩
          · rw [upd_ne (ne_of_none hu hD)]
            exact e5 _ _ (p.1 _ _ hu)
          · rw [upd_same, et, List.map_append] <;> rfl
          · rw [et, List.all_append, p.2.2]
            simp [oy]
        | false =>
          rw [if_neg Bool.false_ne_true]
          exact (k2 ha).mono ((e0.trans e1).trans p.1)
    · have z := p.2.2
      rw [List.length_map, List.take_length, ha] at z
      cases z
/-- a list of new lists -/
theorem er_lists {α : Type} (l : List α) (inj : α → V) (ys : α → List V) {a : Addr} {tl te : TE} {vs : List Nat} {j : Nat} (h : Ev tl σ H (.ref a)) (hx : SqL K H a (l.map inj)) (hz : l.length ≤ 40000) (hw : ∀ x, wipe ((wipe σ vs).set j (some x)) vs = wipe σ vs)
    (he : ∀ x ∈ l, EvL te ((wipe σ vs).set j (some (inj x))) H (ys x)) :
    EvR (tLc (iList K tl) (gName j) tYes te vs) σ H (fun v H' => ∃ (p : Addr) (qs : List Addr), v = .ref p ∧ H' p = some (.lst (qs.map V.ref)) ∧ qs.length = l.length ∧ ∀ (i : Nat) (q : Addr) (x : α), qs[i]? = some q → l[i]? = some x → H' q = some (.lst (ys x))) := fun H0 e0 Q q => by
  refine h H0 e0 _ fun H1 e1 => ⟨a, rfl, ⟨_, ex_l (e0.trans e1) hx⟩, fun Dl hD => ?_⟩
  refine lc_list (K := K) (xs := l.map inj) (fun n H' => Ex H1 H' ∧ ∃ qs : List Addr, qs.length = n ∧ H' Dl = some (.lst (qs.map V.ref)) ∧ ∀ (i : Nat) (q : Addr) (x : α), qs[i]? = some q → l[i]? = some x → H' q = some (.lst (ys x)) ∧ q ≠ Dl) ⟨Ex.new hD, [], rfl, upd_same, by simp⟩ (fun n H' _ p => ex_l ((e0.trans e1).trans p.1) hx) (fun n x H' hi p => ?_) (fun H' p => ?_)
  · rw [List.getElem?_map] at hi
    cases hy : l[n]? with
    | none => rw [hy] at hi; cases hi
    | some y =>
      rw [hy] at hi
      obtain rfl : inj y = x := Option.some.inj hi
      have hn : n < l.length := (List.getElem?_eq_some_iff.mp hy).1
      obtain ⟨pe, qs, hq, hDl, hqs⟩ := p
      refine ⟨hw _, ?_⟩
      simp only [tYes, ↓reduceIte]
      refine he y (List.mem_of_getElem? hy) H' ((e0.trans e1).trans pe) _ fun p2 H2 hp2 e2 h2 => ?_
      have nD : p2 ≠ Dl := fun z => by rw [z, hDl] at hp2; cases hp2
      refine ⟨qs.map V.ref, e2 _ _ hDl, sz_lt (by rw [List.length_map]; omega), fun b u hu => ?_, qs ++ [p2], by simp [hq], ?_, ?_⟩
      · rw [upd_ne (ne_of_none hu hD)]
        exact e2 _ _ (pe _ _ hu)
      · rw [upd_same, List.map_append] <;> rfl
      · intro i q' x' hi1 hi2
        by_cases hlt : i < qs.length
        · rw [List.getElem?_append_left hlt] at hi1
          obtain ⟨z1, z2⟩ := hqs i q' x' hi1 hi2
          exact ⟨by rw [upd_ne z2]; exact e2 _ _ z1, z2⟩
        · rw [List.getElem?_append_right (by omega)] at hi1
          have j0 : i - qs.length = 0 := by
            cases hk : i - qs.length with
            | zero => rfl
            | succ m => rw [hk] at hi1; simp at hi1
          rw [j0] at hi1
          obtain rfl : p2 = q' := Option.some.inj hi1
          obtain rfl : i = n := by omega
          rw [hy] at hi2
          obtain rfl : y = x' := Option.some.inj hi2
          exact ⟨by rw [upd_ne nD]; exact h2, nD⟩
  · obtain ⟨pe, qs, hq, hDl, hqs⟩ := p
    rw [List.length_map] at hq
    exact q (.ref Dl) H' (e1.trans pe) ⟨Dl, qs, rfl, hDl, hq, fun i q' x' a1 a2 => (hqs i q' x' a1 a2).1⟩
/-! ## split, partition, int(text) -/
theorem eqN {g : List Nat} (h : g ≠ []) : ((S g).length == 0) = false := by
  rw [S_len]
  cases g with
  | nil => exact absurd rfl h
  | cons a r => rfl
def rSplitT : V → List V → Hp → VK → Prop := fun x xs H Q => ∃ m g : List Nat, x = .str (S m) ∧ xs = [.str (S g)] ∧ g ≠ [] ∧ (g.all fun c => decide (c < 256)) = true ∧ m.length ≤ 50000 ∧ ∀ p, H p = none → Q (.ref p) (upd H p (.lst ((TL.spl g 0 [] m).map fun y => .str (S y))))
theorem mt_splitT {X : Cx} : MtR X "str.split" rSplitT := fun pins s σ H x xs v us Q I rx rxs h => by
  obtain ⟨m, g, rfl, rfl, h1, h2, h3, q⟩ := h
  refine mt_split pins s σ H _ _ v us Q I rx rxs ⟨S m, S g, rfl, rfl, eqN h1, by rw [S_len]; exact sz_of (by omega), ?_⟩
  rw [split_S h1 h2]
  intro p hp
  have z := q p hp
  rwa [List.map_map]
theorem el_splitT {ta tb : TE} {m g : List Nat} (ha : Ev ta σ H (.str (S m))) (hb : Ev tb σ H (.str (S g))) (h1 : g ≠ []) (h2 : (g.all fun c => decide (c < 256)) = true) (h3 : m.length ≤ 50000) : EvL (tM1 rSplitT ta tb) σ H ((TL.spl g 0 [] m).map fun y => .str (S y)) := fun H1 e Q q =>
  ha H1 e _ fun H2 e2 => ⟨⟨_, rfl⟩, hb H2 (e.trans e2) _ fun H3 e3 => ⟨m, g, rfl, rfl, h1, h2, h3, fun p hp => q p _ (fresh_back (e2.trans e3) hp) ((e2.trans e3).trans (Ex.new hp)) upd_same⟩⟩
def parL (g m : List Nat) : List Nat × List Nat × List Nat := match TL.par g [] m with
  | some (a, b) => (a, g, b)
  | none => (m, [], [])
def rPartT : V → List V → Hp → VK → Prop := fun x xs H Q => ∃ m g : List Nat, x = .str (S m) ∧ xs = [.str (S g)] ∧ g ≠ [] ∧ m.length ≤ 50000 ∧ ∀ p, H p = none → Q (.ref p) (upd H p (.tup [.str (S (parL g m).1), .str (S (parL g m).2.1), .str (S (parL g m).2.2)]))
theorem mt_partT {X : Cx} : MtR X "str.partition" rPartT := fun pins s σ H x xs v us Q I rx rxs h => by
  obtain ⟨m, g, rfl, rfl, h1, h3, q⟩ := h
  refine mt_partition pins s σ H _ _ v us Q I rx rxs ⟨S m, S g, rfl, rfl, eqN h1, by rw [S_len]; exact sz_of (by omega), ?_⟩
  have e : Txt.partition (S m) (S g) = (S (parL g m).1, S (parL g m).2.1, S (parL g m).2.2) := by
    unfold parL
    cases hp : TL.par g [] m with
    | none => exact SX.partition_none h1 hp
    | some ab => exact SX.partition_some h1 hp
  rw [e]
  exact q
theorem eu_partT {ta tb : TE} {m g : List Nat} (ha : Ev ta σ H (.str (S m))) (hb : Ev tb σ H (.str (S g))) (h1 : g ≠ []) (h3 : m.length ≤ 50000) : EvU (tM1 rPartT ta tb) σ H [.str (S (parL g m).1), .str (S (parL g m).2.1), .str (S (parL g m).2.2)] := fun H1 e Q q =>
  ha H1 e _ fun H2 e2 => ⟨⟨_, rfl⟩, hb H2 (e.trans e2) _ fun H3 e3 => ⟨m, g, rfl, rfl, h1, h3, fun p hp => q p _ (fresh_back (e2.trans e3) hp) ((e2.trans e3).trans (Ex.new hp)) upd_same⟩⟩
def rIntT : List V → Hp → VK → Prop := fun xs H Q => ∃ a n, xs = [V.str a] ∧ intText? a = some n ∧ a.length ≤ 640 ∧ Q (V.int n) H
theorem call_intT {X : Cx} : CallR X (.type "int") rIntT := call_int_str
theorem ev_intT {ta : TE} {m : List Nat} (ha : Ev ta σ H (.str (S m))) (hd : (m.all fun c => decide (48 ≤ c) && decide (c ≤ 57)) = true) (hn : m ≠ []) (hl : m.length ≤ 640) : Ev (tCB rIntT (tCons ta tNil)) σ H (.int ((NumText.digitsVal m : Nat) : Int)) := fun H1 e Q q =>
  ha H1 e _ fun H2 e2 => ⟨S m, _, rfl, int_S hd hn (by omega), by rw [S_len]; exact hl, q H2 e2⟩
theorem go_unpack3 {te : TE} {i j l : Nat} {x y z : V} (h : EvU te σ H [x, y, z]) (k : ∀ p, H p = none → Go (upd H p (.tup [x, y, z])) (tz D (((σ.set i (some x)).set j (some y)).set l (some z)))) : Go H (tSeq (tAsg te (gTup K 3 (gCons (gName i) (gCons (gName j) (gCons (gName l) gNil))))) tz D σ) := fun H1 e => h H1 e _ fun p H2 hp e2 hp2 =>
  ⟨p, [x, y, z], rfl, st_of hp2, rfl, x, [y, z], rfl, y, [z], rfl, z, [], rfl, rfl, k p (fresh_back e hp) H2 (ex_upd (e.trans e2) hp2)⟩
theorem er_callX {ta : TA} {vs : List V} {sp : Sp} {E : L2.St → XK} {R : V → Hp → Prop} (h : EvA ta σ H vs) (hs : ∀ H1, Ex H H1 → ∀ (Q : VK) (E : XK), (∀ v H2, Ex H1 H2 → R v H2 → Q v H2) → sp vs H1 Q E) : EvR (tCallS sp E ta) σ H R := fun H1 e Q q => h H1 e _ fun H2 e2 => hs H2 (e.trans e2) Q (E σ) fun v H3 e3 r => q v H3 (e2.trans e3) r
end
/-! ## the two trys -/
theorem go_tryAs0 {H : Hp} {σ : L2.St} {D : Ends} {tz : TS} {tb : WX → TS} {Wf : Ends → WX} (h : Go H (tb (Wf { D with nx := tz D }) { D with nx := tz D } σ)) : Go H (tSeq (fun D σ H => tb (Wf D) D σ H) tz D σ) := h
theorem w_meetsOnly {K : PySem.W.Frag} {H : Hp} {σ : L2.St} {D : Ends} {ts : Addr → Value → Option Addr → TS} {cls c : Value} {Wo : WX} (he : PySem.W.exmOne K cls c = some true) (k : ∀ a H1, Ex H H1 → Go H1 (ts a cls none D σ)) : Go H (wOnly K c ts Wo D cls none σ) := fun H1 e => ⟨true, he, fun _ a _ => (k a H1 e).here, fun h => by cases h⟩
theorem w_hits {K : PySem.W.Frag} {H : Hp} {σ : L2.St} {D : Ends} {ts : Addr → Value → Option Addr → TS} {cls c : Value} {i : Nat} (he : PySem.W.exmOne K cls c = some true)
    (k : ∀ a H1, Ex H H1 → H1 a = none → Go H1 (ts a cls none { nx := fun σ' H' => D.nx (σ'.set i none) H', rt := D.rt, bk := fun σ' H' => D.bk (σ'.set i none) H', ct := fun σ' H' => D.ct (σ'.set i none) H' } (σ.set i (some (.ref a))))) : Go H (wHit K c i ts D cls none σ) := fun H1 e => ⟨he, fun a ha => (k a H1 e ha).here⟩
end Od

namespace Od
open PySem PySem.Spec PyProof.Rows L2 SX Evl
/-! ## texts of weighings, in plain lists -/
def isDig (c : Nat) : Bool := decide (48 ≤ c) && decide (c ≤ 57)
def numOk (w : List Nat) : Bool := decide (1 ≤ w.length) && (decide (w.length ≤ 9) && (w.all isDig && !(decide (w.getD 0 0 = 48) && !decide (w = [48]))))
def numV (w : List Nat) : Int := ((NumText.digitsVal w : Nat) : Int)
abbrev bar : List Nat := [32, 124, 32]
abbrev wds (l : List Nat) : List (List Nat) := TL.spl [32] 0 [] l
def maxM : List Int → Int
  | [] => 0
  | x :: r => max x (maxM r)
theorem maxM_ge : ∀ (l : List Int), (∀ y ∈ l, y ≤ maxM l) ∧ 0 ≤ maxM l ∧ maxM l ∈ 0 :: l
  | [] => ⟨(fun y hy => by cases hy), Int.le_refl _, List.mem_cons_self⟩
  | x :: r => by
    obtain ⟨h1, h2, h3⟩ := maxM_ge r
    refine ⟨fun y hy => ?_, ?_, ?_⟩
    · show y ≤ max x (maxM r)
      rcases List.mem_cons.mp hy with e | e
      · rw [e]; omega
      · have := h1 y e; omega
    · show 0 ≤ max x (maxM r); omega
    · show max x (maxM r) ∈ 0 :: x :: r
      by_cases h : maxM r ≤ x
      · have : max x (maxM r) = x := by omega
        rw [this]
        exact List.mem_cons_of_mem _ List.mem_cons_self
      · have : max x (maxM r) = maxM r := by omega
        rw [this]
        rcases List.mem_cons.mp h3 with e | e
        · rw [e]; exact List.mem_cons_self
        · exact List.mem_cons_of_mem _ (List.mem_cons_of_mem _ e)
def weighW (l r : List Int) : Bool := decide (maxM (l ++ r) < 1000000000) && weighB (maxM (l ++ r)) l r
def readR (l : List Nat) : Option (List Int × List Int) :=
  if l = [45] then some ([], []) else
  if (wds (parL bar l).1).all numOk && ((wds (parL bar l).2.2).all numOk && weighW ((wds (parL bar l).1).map numV) ((wds (parL bar l).2.2).map numV)) then some ((wds (parL bar l).1).map numV, (wds (parL bar l).2.2).map numV) else none
def numsT (l : List Int) : List Nat := TL.joinL [32] (l.map fun i => TL.numL i.toNat)
def textOf (l r : List Int) : List Nat := if l = [] then [45] else numsT l ++ bar ++ numsT r
/-! ### words -/
def wsp : List Nat → List Nat → List (List Nat)
  | acc, [] => [acc]
  | acc, c :: r => if c = 32 then acc :: wsp [] r else wsp (acc ++ [c]) r
theorem pre1 (c : Nat) (r : List Nat) : TL.pre [32] (c :: r) = decide (c = 32) := by
  unfold TL.pre
  by_cases h : c = 32
  · subst h; simp
  · simp [h]
theorem spl_wsp : ∀ (l acc : List Nat), TL.spl [32] 0 acc l = wsp acc l
  | [], acc => TL.spl_nil _ _ _
  | c :: r, acc => by
    by_cases h : c = 32
    · rw [TL.spl_hit (by rw [pre1, decide_eq_true h])]
      unfold wsp
      rw [if_pos h]
      exact congrArg (acc :: ·) (spl_wsp r [])
    · rw [TL.spl_miss (by rw [pre1, decide_eq_false h])]
      unfold wsp
      rw [if_neg h]
      exact spl_wsp r (acc ++ [c])
theorem wsp_cons (acc : List Nat) (c : Nat) (r : List Nat) : wsp acc (c :: r) = if c = 32 then acc :: wsp [] r else wsp (acc ++ [c]) r := rfl
theorem wsp_ne : ∀ (l acc : List Nat), wsp acc l ≠ []
  | [], acc => by simp [wsp]
  | c :: r, acc => by
    unfold wsp
    by_cases h : c = 32
    · rw [if_pos h]; simp
    · rw [if_neg h]; exact wsp_ne r _
theorem wsp_join : ∀ (l acc : List Nat), TL.joinL [32] (wsp acc l) = acc ++ l
  | [], acc => by
    show acc = acc ++ []
    rw [List.append_nil]
  | c :: r, acc => by
    unfold wsp
    by_cases h : c = 32
    · rw [if_pos h]
      have ih := wsp_join r []
      cases hw : wsp [] r with
      | nil => exact absurd hw (wsp_ne r [])
      | cons z zs =>
        rw [hw] at ih
        show acc ++ ([32] ++ TL.joinL [32] (z :: zs)) = _
        rw [ih, h] <;> rfl
    · rw [if_neg h, wsp_join r]
      simp
theorem wsp_app : ∀ (x y acc : List Nat), wsp acc (x ++ 32 :: y) = wsp acc x ++ wsp [] y
  | [], y, acc => by
    show wsp acc (32 :: y) = [acc] ++ wsp [] y
    rw [wsp_cons, if_pos rfl] <;> rfl
  | c :: r, y, acc => by
    show wsp acc (c :: (r ++ 32 :: y)) = wsp acc (c :: r) ++ wsp [] y
    rw [wsp_cons, wsp_cons]
    by_cases h : c = 32
    · rw [if_pos h, if_pos h, wsp_app r y []] <;> rfl
    · rw [if_neg h, if_neg h, wsp_app r y]
theorem wsp_len : ∀ (l acc : List Nat), (wsp acc l).length = l.count 32 + 1
  | [], acc => rfl
  | c :: r, acc => by
    unfold wsp
    by_cases h : c = 32
    · rw [if_pos h, List.length_cons, wsp_len r, h, List.count_cons_self]
    · rw [if_neg h, wsp_len r, List.count_cons_of_ne h]
/-! ### the bar -/
theorem bar_cut : ∀ (l acc : List Nat), (TL.par bar acc l = none → TL.spl bar 0 acc l = [acc ++ l]) ∧ ∀ a b, TL.par bar acc l = some (a, b) → TL.spl bar 0 acc l = a :: TL.spl bar 0 [] b ∧ acc ++ l = a ++ (bar ++ b)
  | [], acc => by
    refine ⟨(fun _ => by rw [TL.spl_nil, List.append_nil]), fun a b h => ?_⟩
    cases h
  | c :: r, acc => by
    cases hp : TL.pre bar (c :: r) with
    | true =>
      rw [TL.par_hit hp, TL.spl_hit hp]
      refine ⟨(fun h => by cases h), fun a b h => ?_⟩
      cases h
      refine ⟨?_, ?_⟩
      · rw [TL.spl_pass] <;> rfl
      · have e : (c :: r).take 3 = bar := by
          unfold TL.pre at hp
          exact eq_of_beq hp
        have := List.take_append_drop 3 (c :: r)
        rw [e] at this
        rw [show bar.length = 3 from rfl, this]
    | false =>
      rw [TL.par_miss hp, TL.spl_miss hp]
      obtain ⟨h1, h2⟩ := bar_cut r (acc ++ [c])
      refine ⟨(fun h => by rw [h1 h]; simp), fun a b h => ?_⟩
      obtain ⟨e1, e2⟩ := h2 a b h
      exact ⟨e1, by rw [← e2]; simp⟩
theorem bar_ne (l acc : List Nat) : TL.spl bar 0 acc l ≠ [] := by
  cases h : TL.par bar acc l with
  | none => rw [(bar_cut l acc).1 h]; simp
  | some ab => rw [((bar_cut l acc).2 ab.1 ab.2 h).1]; simp
/-- a part that holds the bar is no list of counts -/
theorem bar_word {b c d : List Nat} (h : TL.par bar [] b = some (c, d)) : (wds b).all numOk = false := by
  have e := ((bar_cut b []).2 c d h).2
  have e2 : b = c ++ 32 :: ([124] ++ 32 :: d) := e
  rw [show wds b = wsp [] b from spl_wsp b [], e2, wsp_app, wsp_app]
  rw [List.all_append, List.all_append]
  have : (wsp [] [124]).all numOk = false := by decide
  rw [this]
  simp
theorem read_sides {l : List Nat} (h45 : l ≠ [45]) : (∃ a b, TL.spl bar 0 [] l = [a, b] ∧ parL bar l = (a, bar, b) ∧ l = a ++ (bar ++ b)) ∨ ((TL.spl bar 0 [] l).length ≠ 2 ∧ readR l = none) := by
  cases h : TL.par bar [] l with
  | none =>
    refine .inr ⟨by rw [(bar_cut l []).1 h]; simp, ?_⟩
    unfold readR parL
    rw [if_neg h45, h]
    have : (wds []).all numOk = false := by decide
    show (if (wds l).all numOk && ((wds []).all numOk && _) then _ else none) = none
    rw [this, Bool.false_and, Bool.and_false, if_neg Bool.false_ne_true]
  | some ab =>
    obtain ⟨a, b⟩ := ab
    obtain ⟨e1, e2⟩ := (bar_cut l []).2 a b h
    cases hb : TL.par bar [] b with
    | none =>
      refine .inl ⟨a, b, by rw [e1, (bar_cut b []).1 hb] <;> rfl, ?_, e2⟩
      unfold parL
      rw [h]
    | some cd =>
      obtain ⟨c, d⟩ := cd
      refine .inr ⟨?_, ?_⟩
      · rw [e1, ((bar_cut b []).2 c d hb).1]
        cases hz : TL.spl bar 0 [] d with
        | nil => exact absurd hz (bar_ne d [])
        | cons z zs => simp
      · unfold readR parL
        rw [if_neg h45, h]
        show (if (wds a).all numOk && ((wds b).all numOk && _) then _ else none) = none
        rw [bar_word hb, Bool.false_and, Bool.and_false, if_neg Bool.false_ne_true]
/-! ### numbers -/
theorem ok_un {w : List Nat} (h : numOk w = true) : 1 ≤ w.length ∧ w.length ≤ 9 ∧ (∀ c ∈ w, 48 ≤ c ∧ c ≤ 57) ∧ (w.getD 0 0 = 48 → w = [48]) := by
  unfold numOk at h
  rw [Bool.and_eq_true, Bool.and_eq_true, Bool.and_eq_true, decide_eq_true_eq, decide_eq_true_eq] at h
  obtain ⟨h1, h2, h3, h4⟩ := h
  refine ⟨h1, h2, fun c hc => ?_, fun h0 => ?_⟩
  · have := List.all_eq_true.mp h3 c hc
    unfold isDig at this
    rw [Bool.and_eq_true, decide_eq_true_eq, decide_eq_true_eq] at this
    exact this
  · rw [decide_eq_true h0, Bool.true_and, Bool.not_not, decide_eq_true_eq] at h4
    exact h4
theorem dv_ge : ∀ (l : List Nat) (a : Nat), a ≤ l.foldl (fun acc c => acc * 10 + (c - 48)) a
  | [], a => Nat.le_refl _
  | c :: r, a => by
    have := dv_ge r (a * 10 + (c - 48))
    show a ≤ List.foldl _ (a * 10 + (c - 48)) r
    omega
theorem dv_lt : ∀ (l : List Nat) (a : Nat), (∀ c ∈ l, 48 ≤ c ∧ c ≤ 57) → l.foldl (fun acc c => acc * 10 + (c - 48)) a < (a + 1) * 10 ^ l.length
  | [], a, _ => by simp
  | c :: r, a, h => by
    have hc := h c List.mem_cons_self
    have := dv_lt r (a * 10 + (c - 48)) fun x hx => h x (List.mem_cons_of_mem _ hx)
    show List.foldl _ (a * 10 + (c - 48)) r < _
    rw [List.length_cons, Nat.pow_succ]
    have le : (a * 10 + (c - 48) + 1) * 10 ^ r.length ≤ ((a + 1) * 10) * 10 ^ r.length := Nat.mul_le_mul_right _ (by omega)
    have e : (a + 1) * (10 ^ r.length * 10) = ((a + 1) * 10) * 10 ^ r.length := by rw [Nat.mul_comm (10 ^ r.length) 10, Nat.mul_assoc]
    omega
theorem dv_snoc (v : List Nat) (d : Nat) : NumText.digitsVal (v ++ [d]) = NumText.digitsVal v * 10 + (d - 48) := by
  unfold NumText.digitsVal
  rw [List.foldl_append] <;> rfl
/-- digits that do not begin with 0 are their number's text -/
theorem num_back : ∀ (n : Nat) (w : List Nat), w.length = n + 1 → (∀ c ∈ w, 48 ≤ c ∧ c ≤ 57) → (w.getD 0 0 = 48 → w = [48]) → TL.numL (NumText.digitsVal w) = w
  | 0, w, hl, hd, _ => by
    match w, hl with
    | [d], _ =>
      have h := hd d List.mem_cons_self
      have e : NumText.digitsVal [d] = d - 48 := by
        show 0 * 10 + (d - 48) = _
        omega
      rw [e, TL.numL_lt (by omega)]
      congr 1
      omega
  | n + 1, w, hl, hd, h0 => by
    have hne : w ≠ [] := by intro z; rw [z] at hl; cases hl
    have e := List.dropLast_concat_getLast hne
    have hvl : w.dropLast.length = n + 1 := by rw [List.length_dropLast]; omega
    generalize w.dropLast = v at *
    generalize w.getLast hne = d at *
    subst e
    have hd2 := hd d (by simp)
    match v, hvl with
    | c :: r, hvl =>
      have hc := hd c (by simp)
      have hc48 : c ≠ 48 := fun z => by
        have := h0 z
        rw [List.append_eq_singleton_iff] at this
        rcases this with ⟨a, _⟩ | ⟨_, a⟩ <;> cases a
      have ih := num_back n (c :: r) hvl (fun x hx => hd x (List.mem_append_left _ hx)) fun z => absurd z hc48
      have ge : 1 ≤ NumText.digitsVal (c :: r) := by
        have := dv_ge r (0 * 10 + (c - 48))
        show 1 ≤ List.foldl _ (0 * 10 + (c - 48)) r
        omega
      rw [dv_snoc, TL.numL_step (by omega)]
      have e1 : (NumText.digitsVal (c :: r) * 10 + (d - 48)) / 10 = NumText.digitsVal (c :: r) := by omega
      have e2 : 48 + (NumText.digitsVal (c :: r) * 10 + (d - 48)) % 10 = d := by omega
      rw [e1, e2, ih]
theorem num_ok {w : List Nat} (h : numOk w = true) : TL.numL (numV w).toNat = w ∧ 0 ≤ numV w ∧ numV w < 1000000000 := by
  obtain ⟨h1, h2, h3, h4⟩ := ok_un h
  unfold numV
  refine ⟨?_, by omega, ?_⟩
  · rw [Int.toNat_natCast]
    exact num_back (w.length - 1) w (by omega) h3 h4
  · have a := dv_lt w 0 h3
    have b : (10 : Nat) ^ w.length ≤ 10 ^ 9 := Nat.pow_le_pow_right (by decide) h2
    have c : NumText.digitsVal w < 10 ^ 9 := by
      unfold NumText.digitsVal
      omega
    omega
theorem nums_back {l : List Nat} (h : (wds l).all numOk = true) : numsT ((wds l).map numV) = l := by
  unfold numsT
  rw [List.map_map]
  have e : (wds l).map ((fun i : Int => TL.numL i.toNat) ∘ numV) = wds l := by
    conv => rhs; rw [← List.map_id (wds l)]
    exact List.map_congr_left fun w hw => (num_ok (List.all_eq_true.mp h w hw)).1
  rw [e, show wds l = wsp [] l from spl_wsp l [], wsp_join]
  rfl
theorem wds_len (l : List Nat) : (wds l).length = l.count 32 + 1 := by rw [show wds l = wsp [] l from spl_wsp l [], wsp_len]
theorem read_back {l : List Nat} {x y : List Int} (h : readR l = some (x, y)) : textOf x y = l ∧ weighW x y = true ∧ (∀ i ∈ x ++ y, 0 ≤ i ∧ i < 1000000000) ∧ x.length ≤ l.count 32 + 1 ∧ y.length ≤ l.count 32 + 1 := by
  by_cases h45 : l = [45]
  · unfold readR at h
    rw [if_pos h45] at h
    cases h
    subst h45
    exact ⟨rfl, rfl, (fun i hi => by cases hi), by simp, by simp⟩
  · rcases read_sides h45 with ⟨a, b, _, e2, e3⟩ | ⟨_, z⟩
    · unfold readR at h
      rw [if_neg h45, e2] at h
      split at h
      · rename_i hc
        rw [Bool.and_eq_true, Bool.and_eq_true] at hc
        obtain ⟨h1, h2, h3⟩ := hc
        cases h
        have c1 : a.count 32 + b.count 32 ≤ l.count 32 := by
          rw [e3, List.count_append, List.count_append]
          omega
        refine ⟨?_, h3, fun i hi => ?_, ?_, ?_⟩
        · unfold textOf
          have ne : (wds a).map numV ≠ [] := fun z => by
            have := congrArg List.length z
            rw [List.length_map, wds_len] at this
            cases this
          rw [if_neg ne, nums_back h1, nums_back h2, List.append_assoc, ← e3]
        · rcases List.mem_append.mp hi with z | z
          · obtain ⟨w, hw, rfl⟩ := List.mem_map.mp z
            exact (num_ok (List.all_eq_true.mp h1 w hw)).2
          · obtain ⟨w, hw, rfl⟩ := List.mem_map.mp z
            exact (num_ok (List.all_eq_true.mp h2 w hw)).2
        · rw [List.length_map, wds_len]
          show a.count 32 + 1 ≤ _
          omega
        · rw [List.length_map, wds_len]
          show b.count 32 + 1 ≤ _
          omega
      · cases h
    · rw [z] at h; cases h
/-- small counts: a weighing means what the law asks -/
theorem weighW_says {l r : List Int} (h : ∀ i ∈ l ++ r, 0 ≤ i ∧ i < 1000000000) : weighW l r = (decide (l.Pairwise (· < ·)) && (decide (r.Pairwise (· < ·)) && (decide (l.length = r.length) && !(l.any fun x => decide (x ∈ r))))) := by
  obtain ⟨g1, g2, g3⟩ := maxM_ge (l ++ r)
  have hm : maxM (l ++ r) < 1000000000 := by
    rcases List.mem_cons.mp g3 with e | e
    · rw [e]; decide
    · exact (h _ e).2
  have side : ∀ ns : List Int, (∀ x ∈ ns, x ∈ l ++ r) → sideN ns (maxM (l ++ r)) = decide (ns.Pairwise (· < ·)) := fun ns hs => by
    by_cases hp : ns.Pairwise (· < ·)
    · rw [decide_eq_true hp]
      exact side_lt hp fun x hx => ⟨(h x (hs x hx)).1, g1 x (hs x hx)⟩
    · rw [decide_eq_false hp]
      cases e : sideN ns (maxM (l ++ r)) with
      | false => rfl
      | true => exact absurd (lt_side ns _ _ e).1 hp
  unfold weighW weighB
  rw [decide_eq_true hm, Bool.true_and, side l fun x hx => List.mem_append_left _ hx, side r fun x hx => List.mem_append_right _ hx, Bool.and_assoc, Bool.and_assoc]
end Od

namespace Od
open PySem PySem.Spec PyProof.Rows L2 SX Evl
/-! the text by places, as linked for this law: printed by gen.py -/
def topS (i : Nat) : Stmt := PySem.Challenge.pw_oddcoin_k05_written.main.body.getD i (.Pass ⟨0, 0, 0, 0⟩)
abbrev s_is_whole : Stmt := topS 9
abbrev s_is_side : Stmt := topS 11
abbrev s_is_weighing : Stmt := topS 12
abbrev s_greatest : Stmt := topS 16
abbrev s_written : Stmt := topS 17
abbrev s_number_in : Stmt := topS 18
abbrev s_read : Stmt := topS 19
abbrev s_law_cell_at : Stmt := topS 21
abbrev s_law_draw : Stmt := topS 22
abbrev s_law_number : Stmt := topS 23
abbrev s_law_in : Stmt := topS 24
abbrev s_law_refused : Stmt := topS 25
abbrev s_law_right : Stmt := topS 26
abbrev s_law_few : Stmt := topS 27
abbrev s_law : Stmt := topS 28
theorem k_empty : ("" : Str) = S [] := by decide +kernel
theorem k__20_ : (" " : Str) = S [32] := by decide +kernel
theorem k__20_0_20__7c__20_1 : (" 0 | 1" : Str) = S [32, 48, 32, 124, 32, 49] := by decide +kernel
theorem k__20__7c__20_ : (" | " : Str) = S [32, 124, 32] := by decide +kernel
theorem k__20__7c__20_0 : (" | 0" : Str) = S [32, 124, 32, 48] := by decide +kernel
theorem k__20__7c__20_2 : (" | 2" : Str) = S [32, 124, 32, 50] := by decide +kernel
theorem k__2b_0_20__7c__20_1 : ("+0 | 1" : Str) = S [43, 48, 32, 124, 32, 49] := by decide +kernel
theorem k__2d_ : ("-" : Str) = S [45] := by decide +kernel
theorem k__2d__20__7c__20__2d_ : ("- | -" : Str) = S [45, 32, 124, 32, 45] := by decide +kernel
theorem k__2d__2d_ : ("--" : Str) = S [45, 45] := by decide +kernel
theorem k_0 : ("0" : Str) = S [48] := by decide +kernel
theorem k_0_9__7c__20_1 : ("0\t| 1" : Str) = S [48, 9, 124, 32, 49] := by decide +kernel
theorem k_0_20__20_1_20__7c__20_2_20_3 : ("0  1 | 2 3" : Str) = S [48, 32, 32, 49, 32, 124, 32, 50, 32, 51] := by decide +kernel
theorem k_0_20_0_20__7c__20_1_20_2 : ("0 0 | 1 2" : Str) = S [48, 32, 48, 32, 124, 32, 49, 32, 50] := by decide +kernel
theorem k_0_20_1_20__7c__20__20_2_20_3 : ("0 1 |  2 3" : Str) = S [48, 32, 49, 32, 124, 32, 32, 50, 32, 51] := by decide +kernel
theorem k_0_20_1_20__7c__20_2 : ("0 1 | 2" : Str) = S [48, 32, 49, 32, 124, 32, 50] := by decide +kernel
theorem k_0_20_1_20__7c__20_2_20_3 : ("0 1 | 2 3" : Str) = S [48, 32, 49, 32, 124, 32, 50, 32, 51] := by decide +kernel
theorem k_0_20_1_20__7c__20_3_20_2 : ("0 1 | 3 2" : Str) = S [48, 32, 49, 32, 124, 32, 51, 32, 50] := by decide +kernel
theorem k_0_20_2_20__7c__20_2_20_3 : ("0 2 | 2 3" : Str) = S [48, 32, 50, 32, 124, 32, 50, 32, 51] := by decide +kernel
theorem k_0_20__7c__20_ : ("0 | " : Str) = S [48, 32, 124, 32] := by decide +kernel
theorem k_0_20__7c__20__2d_1 : ("0 | -1" : Str) = S [48, 32, 124, 32, 45, 49] := by decide +kernel
theorem k_0_20__7c__20_0 : ("0 | 0" : Str) = S [48, 32, 124, 32, 48] := by decide +kernel
theorem k_0_20__7c__20_01 : ("0 | 01" : Str) = S [48, 32, 124, 32, 48, 49] := by decide +kernel
theorem k_0_20__7c__20_1 : ("0 | 1" : Str) = S [48, 32, 124, 32, 49] := by decide +kernel
theorem k_0_20__7c__20_1_a_ : ("0 | 1\n" : Str) = S [48, 32, 124, 32, 49, 10] := by decide +kernel
theorem k_0_20__7c__20_1_20_ : ("0 | 1 " : Str) = S [48, 32, 124, 32, 49, 32] := by decide +kernel
theorem k_0_20__7c__20_1_20_2 : ("0 | 1 2" : Str) = S [48, 32, 124, 32, 49, 32, 50] := by decide +kernel
theorem k_0_20__7c__20_1_20__7c__20_2 : ("0 | 1 | 2" : Str) = S [48, 32, 124, 32, 49, 32, 124, 32, 50] := by decide +kernel
theorem k_0_20__7c__20_1000000000 : ("0 | 1000000000" : Str) = S [48, 32, 124, 32, 49, 48, 48, 48, 48, 48, 48, 48, 48, 48] := by decide +kernel
theorem k_0_20__7c__20_999999999 : ("0 | 999999999" : Str) = S [48, 32, 124, 32, 57, 57, 57, 57, 57, 57, 57, 57, 57] := by decide +kernel
theorem k_0_20__7c_1 : ("0 |1" : Str) = S [48, 32, 124, 49] := by decide +kernel
theorem k_0_20__7c__7c__20_1 : ("0 || 1" : Str) = S [48, 32, 124, 124, 32, 49] := by decide +kernel
theorem k_00_20__7c__20_1 : ("00 | 1" : Str) = S [48, 48, 32, 124, 32, 49] := by decide +kernel
theorem k_0123456789 : ("0123456789" : Str) = S [48, 49, 50, 51, 52, 53, 54, 55, 56, 57] := by decide +kernel
theorem k_0123456789_20__7c__2d_x_a_ : ("0123456789 |-x\n" : Str) = S [48, 49, 50, 51, 52, 53, 54, 55, 56, 57, 32, 124, 45, 120, 10] := by decide +kernel
theorem k_0_7c__20_1 : ("0| 1" : Str) = S [48, 124, 32, 49] := by decide +kernel
theorem k_0_7c_1 : ("0|1" : Str) = S [48, 124, 49] := by decide +kernel
theorem k_1 : ("1" : Str) = S [49] := by decide +kernel
theorem k_1_20_0_20__7c__20_2_20_3 : ("1 0 | 2 3" : Str) = S [49, 32, 48, 32, 124, 32, 50, 32, 51] := by decide +kernel
theorem k_1_20__7c__20_0 : ("1 | 0" : Str) = S [49, 32, 124, 32, 48] := by decide +kernel
theorem k_1_5f_0_20__7c__20_2 : ("1_0 | 2" : Str) = S [49, 95, 48, 32, 124, 32, 50] := by decide +kernel
theorem k_no_20_count : ("no count" : Str) = S [110, 111, 32, 99, 111, 117, 110, 116] := by decide +kernel
theorem k_no_20_text : ("no text" : Str) = S [110, 111, 32, 116, 101, 120, 116] := by decide +kernel
theorem k_no_20_weighing : ("no weighing" : Str) = S [110, 111, 32, 119, 101, 105, 103, 104, 105, 110, 103] := by decide +kernel
theorem k_x_20__7c__20_1 : ("x | 1" : Str) = S [120, 32, 124, 32, 49] := by decide +kernel
theorem sc_is_whole : FnScope ["thing"] ["thing"] (defScope s_is_whole) := ⟨rfl, rfl, rfl, by decide +kernel, rfl, by decide +kernel, by decide +kernel⟩
theorem sc_is_side : FnScope ["thing", "coins", "coin", "last"] ["thing", "coins"] (defScope s_is_side) := ⟨rfl, rfl, rfl, by decide +kernel, rfl, by decide +kernel, by decide +kernel⟩
theorem sc_is_weighing : FnScope ["coins", "left", "right", "coin"] ["coins", "left", "right"] (defScope s_is_weighing) := ⟨rfl, rfl, rfl, by decide +kernel, rfl, by decide +kernel, by decide +kernel⟩
theorem sc_greatest : FnScope ["left", "right", "coin"] ["left", "right"] (defScope s_greatest) := ⟨rfl, rfl, rfl, by decide +kernel, rfl, by decide +kernel, by decide +kernel⟩
theorem sc_written : FnScope ["left", "right", "most", "coin"] ["left", "right"] (defScope s_written) := ⟨rfl, rfl, rfl, by decide +kernel, rfl, by decide +kernel, by decide +kernel⟩
theorem sc_number_in : FnScope ["word"] ["word"] (defScope s_number_in) := ⟨rfl, rfl, rfl, by decide +kernel, rfl, by decide +kernel, by decide +kernel⟩
theorem sc_read : FnScope ["text", "first", "bar", "second", "left", "word", "right"] ["text"] (defScope s_read) := ⟨rfl, rfl, rfl, by decide +kernel, rfl, by decide +kernel, by decide +kernel⟩
theorem sc_law_cell_at : FnScope ["_law_script", "_law_k"] ["_law_script", "_law_k"] (defScope s_law_cell_at) := ⟨rfl, rfl, rfl, by decide +kernel, rfl, by decide +kernel, by decide +kernel⟩
theorem sc_law_draw : FnScope ["_law_cell", "_law_k", "_law_many", "_law_primes"] ["_law_cell", "_law_k", "_law_many"] (defScope s_law_draw) := ⟨rfl, rfl, rfl, by decide +kernel, rfl, by decide +kernel, by decide +kernel⟩
theorem sc_law_number : FnScope ["_law_text"] ["_law_text"] (defScope s_law_number) := ⟨rfl, rfl, rfl, by decide +kernel, rfl, by decide +kernel, by decide +kernel⟩
theorem sc_law_in : FnScope ["_law_text", "_law_sides", "_law_found", "_law_side", "_law_word", "_law_coin"] ["_law_text"] (defScope s_law_in) := ⟨rfl, rfl, rfl, by decide +kernel, rfl, by decide +kernel, by decide +kernel⟩
theorem sc_law_refused : FnScope ["_law_text", "error", "_law_others"] ["_law_text"] (defScope s_law_refused) := ⟨rfl, rfl, rfl, by decide +kernel, rfl, by decide +kernel, by decide +kernel⟩
theorem sc_law_right : FnScope ["_law_text", "_law_due", "_law_found"] ["_law_text"] (defScope s_law_right) := ⟨rfl, rfl, rfl, by decide +kernel, rfl, by decide +kernel, by decide +kernel⟩
theorem sc_law_few : FnScope ["_law_some"] [] (defScope s_law_few) := ⟨rfl, rfl, rfl, by decide +kernel, rfl, by decide +kernel, by decide +kernel⟩
theorem sc_law : FnScope ["_law_script", "_law_left", "_law_right_here", "_law_coin", "_law_side", "_law_many", "_law_text", "_law_handed", "_law_cell", "_law_k", "_law_at", "_law_sign", "_law_other", "_law_thing"] ["_law_script"] (defScope s_law) := ⟨rfl, rfl, rfl, by decide +kernel, rfl, by decide +kernel, by decide +kernel⟩
/-! what the top leaves: asked of the heap by one run -/
def d_is_whole : He.DefD := ⟨("is_whole", none), "is_whole", "is_whole", defArgs s_is_whole, defBody s_is_whole, defScope s_is_whole, [], []⟩
def d_is_side : He.DefD := ⟨("is_side", none), "is_side", "is_side", defArgs s_is_side, defBody s_is_side, defScope s_is_side, [], []⟩
def d_is_weighing : He.DefD := ⟨("is_weighing", none), "is_weighing", "is_weighing", defArgs s_is_weighing, defBody s_is_weighing, defScope s_is_weighing, [], []⟩
def d_greatest : He.DefD := ⟨("greatest", none), "greatest", "greatest", defArgs s_greatest, defBody s_greatest, defScope s_greatest, [], []⟩
def d_written : He.DefD := ⟨("written", none), "written", "written", defArgs s_written, defBody s_written, defScope s_written, [], []⟩
def d_number_in : He.DefD := ⟨("number_in", none), "number_in", "number_in", defArgs s_number_in, defBody s_number_in, defScope s_number_in, [], []⟩
def d_read : He.DefD := ⟨("read", none), "read", "read", defArgs s_read, defBody s_read, defScope s_read, [], []⟩
def d_law_cell_at : He.DefD := ⟨("_law_cell_at", none), "_law_cell_at", "_law_cell_at", defArgs s_law_cell_at, defBody s_law_cell_at, defScope s_law_cell_at, [], []⟩
def d_law_draw : He.DefD := ⟨("_law_draw", none), "_law_draw", "_law_draw", defArgs s_law_draw, defBody s_law_draw, defScope s_law_draw, [], []⟩
def d_law_number : He.DefD := ⟨("_law_number", none), "_law_number", "_law_number", defArgs s_law_number, defBody s_law_number, defScope s_law_number, [], []⟩
def d_law_in : He.DefD := ⟨("_law_in", none), "_law_in", "_law_in", defArgs s_law_in, defBody s_law_in, defScope s_law_in, [], []⟩
def d_law_refused : He.DefD := ⟨("_law_refused", none), "_law_refused", "_law_refused", defArgs s_law_refused, defBody s_law_refused, defScope s_law_refused, [], []⟩
def d_law_right : He.DefD := ⟨("_law_right", none), "_law_right", "_law_right", defArgs s_law_right, defBody s_law_right, defScope s_law_right, [], []⟩
def d_law_few : He.DefD := ⟨("_law_few", none), "_law_few", "_law_few", defArgs s_law_few, defBody s_law_few, defScope s_law_few, [], []⟩
def d_law : He.DefD := ⟨("law", none), "law", "law", defArgs s_law, defBody s_law, defScope s_law, [], []⟩
def fns : List He.DefD := [d_is_whole, d_is_side, d_is_weighing, d_greatest, d_written, d_number_in, d_read, d_law_cell_at, d_law_draw, d_law_number, d_law_in, d_law_refused, d_law_right, d_law_few, d_law]
def fas : List He.Fa := [.glo "is_whole",
  .glo "is_side",
  .glo "is_weighing",
  .glo "greatest",
  .glo "written",
  .glo "number_in",
  .glo "read",
  .glo "_law_cell_at",
  .glo "_law_draw",
  .glo "_law_number",
  .glo "_law_in",
  .glo "_law_refused",
  .glo "_law_right",
  .glo "_law_few",
  .glo "law",
  .free "ValueError",
  .free "all",
  .free "any",
  .free "bool",
  .free "int",
  .free "isinstance",
  .free "len",
  .free "list",
  .free "max",
  .free "min",
  .free "range",
  .free "set",
  .free "sorted",
  .free "str",
  .free "tuple",
  .str "FIGURES" "0123456789",
  .int "MOST" 1000000000,
  .glo "CoinError",
  .exc "CoinError",
  .glo "BadMarks",
  .exc "BadMarks",
  .glo "BadWeighing",
  .exc "BadWeighing",
  .glo "BadOutcome",
  .exc "BadOutcome",
  .glo "Never",
  .exc "Never",
  .glo "BadCoin",
  .exc "BadCoin",
  .glo "BadText",
  .exc "BadText"]
def exs (K : PySem.W.Frag) : List Bool := [decide (PySem.W.exmOne K (.ref (He.ga K "BadMarks")) (.ref (He.ga K "CoinError")) = some true),
  decide (PySem.W.kitOne K (.ref (He.ga K "BadMarks")) (.ref (He.ga K "CoinError")) = some true),
  decide (PySem.W.kitOne K (.ref (He.ga K "BadMarks")) (.ref (He.ga K "BadMarks")) = some true),
  decide (PySem.W.exmOne K (.ref (He.ga K "BadMarks")) (.ref (He.ga K "BadWeighing")) = some false),
  decide (PySem.W.kitOne K (.ref (He.ga K "BadMarks")) (.ref (He.ga K "BadWeighing")) = some false),
  decide (PySem.W.kitOne K (.ref (He.ga K "BadMarks")) (.ref (He.ga K "BadOutcome")) = some false),
  decide (PySem.W.kitOne K (.ref (He.ga K "BadMarks")) (.ref (He.ga K "Never")) = some false),
  decide (PySem.W.kitOne K (.ref (He.ga K "BadMarks")) (.ref (He.ga K "BadCoin")) = some false),
  decide (PySem.W.kitOne K (.ref (He.ga K "BadMarks")) (.ref (He.ga K "BadText")) = some false),
  decide (PySem.W.kitOne K (.ref (He.ga K "BadMarks")) (.type "ValueError") = some true),
  excCB K (He.ga K "BadMarks"),
  decide (PySem.W.exmOne K (.ref (He.ga K "BadWeighing")) (.ref (He.ga K "CoinError")) = some true),
  decide (PySem.W.kitOne K (.ref (He.ga K "BadWeighing")) (.ref (He.ga K "CoinError")) = some true),
  decide (PySem.W.kitOne K (.ref (He.ga K "BadWeighing")) (.ref (He.ga K "BadMarks")) = some false),
  decide (PySem.W.exmOne K (.ref (He.ga K "BadWeighing")) (.ref (He.ga K "BadWeighing")) = some true),
  decide (PySem.W.kitOne K (.ref (He.ga K "BadWeighing")) (.ref (He.ga K "BadWeighing")) = some true),
  decide (PySem.W.kitOne K (.ref (He.ga K "BadWeighing")) (.ref (He.ga K "BadOutcome")) = some false),
  decide (PySem.W.kitOne K (.ref (He.ga K "BadWeighing")) (.ref (He.ga K "Never")) = some false),
  decide (PySem.W.kitOne K (.ref (He.ga K "BadWeighing")) (.ref (He.ga K "BadCoin")) = some false),
  decide (PySem.W.kitOne K (.ref (He.ga K "BadWeighing")) (.ref (He.ga K "BadText")) = some false),
  decide (PySem.W.kitOne K (.ref (He.ga K "BadWeighing")) (.type "ValueError") = some true),
  excCB K (He.ga K "BadWeighing"),
  decide (PySem.W.exmOne K (.ref (He.ga K "BadOutcome")) (.ref (He.ga K "CoinError")) = some true),
  decide (PySem.W.kitOne K (.ref (He.ga K "BadOutcome")) (.ref (He.ga K "CoinError")) = some true),
  decide (PySem.W.kitOne K (.ref (He.ga K "BadOutcome")) (.ref (He.ga K "BadMarks")) = some false),
  decide (PySem.W.exmOne K (.ref (He.ga K "BadOutcome")) (.ref (He.ga K "BadWeighing")) = some false),
  decide (PySem.W.kitOne K (.ref (He.ga K "BadOutcome")) (.ref (He.ga K "BadWeighing")) = some false),
  decide (PySem.W.kitOne K (.ref (He.ga K "BadOutcome")) (.ref (He.ga K "BadOutcome")) = some true),
  decide (PySem.W.kitOne K (.ref (He.ga K "BadOutcome")) (.ref (He.ga K "Never")) = some false),
  decide (PySem.W.kitOne K (.ref (He.ga K "BadOutcome")) (.ref (He.ga K "BadCoin")) = some false),
  decide (PySem.W.kitOne K (.ref (He.ga K "BadOutcome")) (.ref (He.ga K "BadText")) = some false),
  decide (PySem.W.kitOne K (.ref (He.ga K "BadOutcome")) (.type "ValueError") = some true),
  excCB K (He.ga K "BadOutcome"),
  decide (PySem.W.exmOne K (.ref (He.ga K "Never")) (.ref (He.ga K "CoinError")) = some true),
  decide (PySem.W.kitOne K (.ref (He.ga K "Never")) (.ref (He.ga K "CoinError")) = some true),
  decide (PySem.W.kitOne K (.ref (He.ga K "Never")) (.ref (He.ga K "BadMarks")) = some false),
  decide (PySem.W.exmOne K (.ref (He.ga K "Never")) (.ref (He.ga K "BadWeighing")) = some false),
  decide (PySem.W.kitOne K (.ref (He.ga K "Never")) (.ref (He.ga K "BadWeighing")) = some false),
  decide (PySem.W.kitOne K (.ref (He.ga K "Never")) (.ref (He.ga K "BadOutcome")) = some false),
  decide (PySem.W.kitOne K (.ref (He.ga K "Never")) (.ref (He.ga K "Never")) = some true),
  decide (PySem.W.kitOne K (.ref (He.ga K "Never")) (.ref (He.ga K "BadCoin")) = some false),
  decide (PySem.W.kitOne K (.ref (He.ga K "Never")) (.ref (He.ga K "BadText")) = some false),
  decide (PySem.W.kitOne K (.ref (He.ga K "Never")) (.type "ValueError") = some true),
  excCB K (He.ga K "Never"),
  decide (PySem.W.exmOne K (.ref (He.ga K "BadCoin")) (.ref (He.ga K "CoinError")) = some true),
  decide (PySem.W.kitOne K (.ref (He.ga K "BadCoin")) (.ref (He.ga K "CoinError")) = some true),
  decide (PySem.W.kitOne K (.ref (He.ga K "BadCoin")) (.ref (He.ga K "BadMarks")) = some false),
  decide (PySem.W.exmOne K (.ref (He.ga K "BadCoin")) (.ref (He.ga K "BadWeighing")) = some false),
  decide (PySem.W.kitOne K (.ref (He.ga K "BadCoin")) (.ref (He.ga K "BadWeighing")) = some false),
  decide (PySem.W.kitOne K (.ref (He.ga K "BadCoin")) (.ref (He.ga K "BadOutcome")) = some false),
  decide (PySem.W.kitOne K (.ref (He.ga K "BadCoin")) (.ref (He.ga K "Never")) = some false),
  decide (PySem.W.kitOne K (.ref (He.ga K "BadCoin")) (.ref (He.ga K "BadCoin")) = some true),
  decide (PySem.W.kitOne K (.ref (He.ga K "BadCoin")) (.ref (He.ga K "BadText")) = some false),
  decide (PySem.W.kitOne K (.ref (He.ga K "BadCoin")) (.type "ValueError") = some true),
  excCB K (He.ga K "BadCoin"),
  decide (PySem.W.exmOne K (.ref (He.ga K "BadText")) (.ref (He.ga K "CoinError")) = some true),
  decide (PySem.W.kitOne K (.ref (He.ga K "BadText")) (.ref (He.ga K "CoinError")) = some true),
  decide (PySem.W.kitOne K (.ref (He.ga K "BadText")) (.ref (He.ga K "BadMarks")) = some false),
  decide (PySem.W.exmOne K (.ref (He.ga K "BadText")) (.ref (He.ga K "BadWeighing")) = some false),
  decide (PySem.W.kitOne K (.ref (He.ga K "BadText")) (.ref (He.ga K "BadWeighing")) = some false),
  decide (PySem.W.kitOne K (.ref (He.ga K "BadText")) (.ref (He.ga K "BadOutcome")) = some false),
  decide (PySem.W.kitOne K (.ref (He.ga K "BadText")) (.ref (He.ga K "Never")) = some false),
  decide (PySem.W.kitOne K (.ref (He.ga K "BadText")) (.ref (He.ga K "BadCoin")) = some false),
  decide (PySem.W.kitOne K (.ref (He.ga K "BadText")) (.ref (He.ga K "BadText")) = some true),
  decide (PySem.W.kitOne K (.ref (He.ga K "BadText")) (.type "ValueError") = some true),
  excCB K (He.ga K "BadText")]
structure Txt (K : PySem.W.Frag) (mg : Str → Option Value) : Prop where
  f_is_whole : ∃ fd, FunD K "is_whole" "is_whole" (defArgs s_is_whole) (defBody s_is_whole) (defScope s_is_whole) [] [] (He.ga K "is_whole") fd
  f_is_side : ∃ fd, FunD K "is_side" "is_side" (defArgs s_is_side) (defBody s_is_side) (defScope s_is_side) [] [] (He.ga K "is_side") fd
  f_is_weighing : ∃ fd, FunD K "is_weighing" "is_weighing" (defArgs s_is_weighing) (defBody s_is_weighing) (defScope s_is_weighing) [] [] (He.ga K "is_weighing") fd
  f_greatest : ∃ fd, FunD K "greatest" "greatest" (defArgs s_greatest) (defBody s_greatest) (defScope s_greatest) [] [] (He.ga K "greatest") fd
  f_written : ∃ fd, FunD K "written" "written" (defArgs s_written) (defBody s_written) (defScope s_written) [] [] (He.ga K "written") fd
  f_number_in : ∃ fd, FunD K "number_in" "number_in" (defArgs s_number_in) (defBody s_number_in) (defScope s_number_in) [] [] (He.ga K "number_in") fd
  f_read : ∃ fd, FunD K "read" "read" (defArgs s_read) (defBody s_read) (defScope s_read) [] [] (He.ga K "read") fd
  f_law_cell_at : ∃ fd, FunD K "_law_cell_at" "_law_cell_at" (defArgs s_law_cell_at) (defBody s_law_cell_at) (defScope s_law_cell_at) [] [] (He.ga K "_law_cell_at") fd
  f_law_draw : ∃ fd, FunD K "_law_draw" "_law_draw" (defArgs s_law_draw) (defBody s_law_draw) (defScope s_law_draw) [] [] (He.ga K "_law_draw") fd
  f_law_number : ∃ fd, FunD K "_law_number" "_law_number" (defArgs s_law_number) (defBody s_law_number) (defScope s_law_number) [] [] (He.ga K "_law_number") fd
  f_law_in : ∃ fd, FunD K "_law_in" "_law_in" (defArgs s_law_in) (defBody s_law_in) (defScope s_law_in) [] [] (He.ga K "_law_in") fd
  f_law_refused : ∃ fd, FunD K "_law_refused" "_law_refused" (defArgs s_law_refused) (defBody s_law_refused) (defScope s_law_refused) [] [] (He.ga K "_law_refused") fd
  f_law_right : ∃ fd, FunD K "_law_right" "_law_right" (defArgs s_law_right) (defBody s_law_right) (defScope s_law_right) [] [] (He.ga K "_law_right") fd
  f_law_few : ∃ fd, FunD K "_law_few" "_law_few" (defArgs s_law_few) (defBody s_law_few) (defScope s_law_few) [] [] (He.ga K "_law_few") fd
  f_law : ∃ fd, FunD K "law" "law" (defArgs s_law) (defBody s_law) (defScope s_law) [] [] (He.ga K "law") fd
  g_is_whole : mg "is_whole" = some (.ref (He.ga K "is_whole"))
  g_is_side : mg "is_side" = some (.ref (He.ga K "is_side"))
  g_is_weighing : mg "is_weighing" = some (.ref (He.ga K "is_weighing"))
  g_greatest : mg "greatest" = some (.ref (He.ga K "greatest"))
  g_written : mg "written" = some (.ref (He.ga K "written"))
  g_number_in : mg "number_in" = some (.ref (He.ga K "number_in"))
  g_read : mg "read" = some (.ref (He.ga K "read"))
  g_law_cell_at : mg "_law_cell_at" = some (.ref (He.ga K "_law_cell_at"))
  g_law_draw : mg "_law_draw" = some (.ref (He.ga K "_law_draw"))
  g_law_number : mg "_law_number" = some (.ref (He.ga K "_law_number"))
  g_law_in : mg "_law_in" = some (.ref (He.ga K "_law_in"))
  g_law_refused : mg "_law_refused" = some (.ref (He.ga K "_law_refused"))
  g_law_right : mg "_law_right" = some (.ref (He.ga K "_law_right"))
  g_law_few : mg "_law_few" = some (.ref (He.ga K "_law_few"))
  g_law : mg "law" = some (.ref (He.ga K "law"))
  n_ValueError : mg "ValueError" = none
  n_all : mg "all" = none
  n_any : mg "any" = none
  n_bool : mg "bool" = none
  n_int : mg "int" = none
  n_isinstance : mg "isinstance" = none
  n_len : mg "len" = none
  n_list : mg "list" = none
  n_max : mg "max" = none
  n_min : mg "min" = none
  n_range : mg "range" = none
  n_set : mg "set" = none
  n_sorted : mg "sorted" = none
  n_str : mg "str" = none
  n_tuple : mg "tuple" = none
  c_FIGURES : ∃ t, mg "FIGURES" = some (.str "0123456789" t)
  c_MOST : ∃ t, mg "MOST" = some (.int 1000000000 t)
  g_CoinError : mg "CoinError" = some (.ref (He.ga K "CoinError"))
  x_CoinError : PySem.W.excIn K (He.ga K "CoinError") He.veBase "ValueError.__new__" = true ∧ PySem.W.keepIn K (.ref (He.ga K "CoinError")) = true ∧ PySem.W.subIn K (.ref (He.ga K "CoinError")) (.type "BaseException") = some true ∧ PySem.W.typeIn K (.ref (He.ga K "CoinError")) = some (.type "type")
  g_BadMarks : mg "BadMarks" = some (.ref (He.ga K "BadMarks"))
  x_BadMarks : PySem.W.excIn K (He.ga K "BadMarks") He.veBase "ValueError.__new__" = true ∧ PySem.W.keepIn K (.ref (He.ga K "BadMarks")) = true ∧ PySem.W.subIn K (.ref (He.ga K "BadMarks")) (.type "BaseException") = some true ∧ PySem.W.typeIn K (.ref (He.ga K "BadMarks")) = some (.type "type")
  g_BadWeighing : mg "BadWeighing" = some (.ref (He.ga K "BadWeighing"))
  x_BadWeighing : PySem.W.excIn K (He.ga K "BadWeighing") He.veBase "ValueError.__new__" = true ∧ PySem.W.keepIn K (.ref (He.ga K "BadWeighing")) = true ∧ PySem.W.subIn K (.ref (He.ga K "BadWeighing")) (.type "BaseException") = some true ∧ PySem.W.typeIn K (.ref (He.ga K "BadWeighing")) = some (.type "type")
  g_BadOutcome : mg "BadOutcome" = some (.ref (He.ga K "BadOutcome"))
  x_BadOutcome : PySem.W.excIn K (He.ga K "BadOutcome") He.veBase "ValueError.__new__" = true ∧ PySem.W.keepIn K (.ref (He.ga K "BadOutcome")) = true ∧ PySem.W.subIn K (.ref (He.ga K "BadOutcome")) (.type "BaseException") = some true ∧ PySem.W.typeIn K (.ref (He.ga K "BadOutcome")) = some (.type "type")
  g_Never : mg "Never" = some (.ref (He.ga K "Never"))
  x_Never : PySem.W.excIn K (He.ga K "Never") He.veBase "ValueError.__new__" = true ∧ PySem.W.keepIn K (.ref (He.ga K "Never")) = true ∧ PySem.W.subIn K (.ref (He.ga K "Never")) (.type "BaseException") = some true ∧ PySem.W.typeIn K (.ref (He.ga K "Never")) = some (.type "type")
  g_BadCoin : mg "BadCoin" = some (.ref (He.ga K "BadCoin"))
  x_BadCoin : PySem.W.excIn K (He.ga K "BadCoin") He.veBase "ValueError.__new__" = true ∧ PySem.W.keepIn K (.ref (He.ga K "BadCoin")) = true ∧ PySem.W.subIn K (.ref (He.ga K "BadCoin")) (.type "BaseException") = some true ∧ PySem.W.typeIn K (.ref (He.ga K "BadCoin")) = some (.type "type")
  g_BadText : mg "BadText" = some (.ref (He.ga K "BadText"))
  x_BadText : PySem.W.excIn K (He.ga K "BadText") He.veBase "ValueError.__new__" = true ∧ PySem.W.keepIn K (.ref (He.ga K "BadText")) = true ∧ PySem.W.subIn K (.ref (He.ga K "BadText")) (.type "BaseException") = some true ∧ PySem.W.typeIn K (.ref (He.ga K "BadText")) = some (.type "type")
  e_BadMarks_CoinError : PySem.W.exmOne K (.ref (He.ga K "BadMarks")) (.ref (He.ga K "CoinError")) = some true
  t_BadMarks_CoinError : PySem.W.kitOne K (.ref (He.ga K "BadMarks")) (.ref (He.ga K "CoinError")) = some true
  t_BadMarks_BadMarks : PySem.W.kitOne K (.ref (He.ga K "BadMarks")) (.ref (He.ga K "BadMarks")) = some true
  e_BadMarks_BadWeighing : PySem.W.exmOne K (.ref (He.ga K "BadMarks")) (.ref (He.ga K "BadWeighing")) = some false
  t_BadMarks_BadWeighing : PySem.W.kitOne K (.ref (He.ga K "BadMarks")) (.ref (He.ga K "BadWeighing")) = some false
  t_BadMarks_BadOutcome : PySem.W.kitOne K (.ref (He.ga K "BadMarks")) (.ref (He.ga K "BadOutcome")) = some false
  t_BadMarks_Never : PySem.W.kitOne K (.ref (He.ga K "BadMarks")) (.ref (He.ga K "Never")) = some false
  t_BadMarks_BadCoin : PySem.W.kitOne K (.ref (He.ga K "BadMarks")) (.ref (He.ga K "BadCoin")) = some false
  t_BadMarks_BadText : PySem.W.kitOne K (.ref (He.ga K "BadMarks")) (.ref (He.ga K "BadText")) = some false
  t_BadMarks_ValueError : PySem.W.kitOne K (.ref (He.ga K "BadMarks")) (.type "ValueError") = some true
  ec_BadMarks : L2.ExcC K (He.ga K "BadMarks")
  e_BadWeighing_CoinError : PySem.W.exmOne K (.ref (He.ga K "BadWeighing")) (.ref (He.ga K "CoinError")) = some true
  t_BadWeighing_CoinError : PySem.W.kitOne K (.ref (He.ga K "BadWeighing")) (.ref (He.ga K "CoinError")) = some true
  t_BadWeighing_BadMarks : PySem.W.kitOne K (.ref (He.ga K "BadWeighing")) (.ref (He.ga K "BadMarks")) = some false
  e_BadWeighing_BadWeighing : PySem.W.exmOne K (.ref (He.ga K "BadWeighing")) (.ref (He.ga K "BadWeighing")) = some true
  t_BadWeighing_BadWeighing : PySem.W.kitOne K (.ref (He.ga K "BadWeighing")) (.ref (He.ga K "BadWeighing")) = some true
  t_BadWeighing_BadOutcome : PySem.W.kitOne K (.ref (He.ga K "BadWeighing")) (.ref (He.ga K "BadOutcome")) = some false
  t_BadWeighing_Never : PySem.W.kitOne K (.ref (He.ga K "BadWeighing")) (.ref (He.ga K "Never")) = some false
  t_BadWeighing_BadCoin : PySem.W.kitOne K (.ref (He.ga K "BadWeighing")) (.ref (He.ga K "BadCoin")) = some false
  t_BadWeighing_BadText : PySem.W.kitOne K (.ref (He.ga K "BadWeighing")) (.ref (He.ga K "BadText")) = some false
  t_BadWeighing_ValueError : PySem.W.kitOne K (.ref (He.ga K "BadWeighing")) (.type "ValueError") = some true
  ec_BadWeighing : L2.ExcC K (He.ga K "BadWeighing")
  e_BadOutcome_CoinError : PySem.W.exmOne K (.ref (He.ga K "BadOutcome")) (.ref (He.ga K "CoinError")) = some true
  t_BadOutcome_CoinError : PySem.W.kitOne K (.ref (He.ga K "BadOutcome")) (.ref (He.ga K "CoinError")) = some true
  t_BadOutcome_BadMarks : PySem.W.kitOne K (.ref (He.ga K "BadOutcome")) (.ref (He.ga K "BadMarks")) = some false
  e_BadOutcome_BadWeighing : PySem.W.exmOne K (.ref (He.ga K "BadOutcome")) (.ref (He.ga K "BadWeighing")) = some false
  t_BadOutcome_BadWeighing : PySem.W.kitOne K (.ref (He.ga K "BadOutcome")) (.ref (He.ga K "BadWeighing")) = some false
  t_BadOutcome_BadOutcome : PySem.W.kitOne K (.ref (He.ga K "BadOutcome")) (.ref (He.ga K "BadOutcome")) = some true
  t_BadOutcome_Never : PySem.W.kitOne K (.ref (He.ga K "BadOutcome")) (.ref (He.ga K "Never")) = some false
  t_BadOutcome_BadCoin : PySem.W.kitOne K (.ref (He.ga K "BadOutcome")) (.ref (He.ga K "BadCoin")) = some false
  t_BadOutcome_BadText : PySem.W.kitOne K (.ref (He.ga K "BadOutcome")) (.ref (He.ga K "BadText")) = some false
  t_BadOutcome_ValueError : PySem.W.kitOne K (.ref (He.ga K "BadOutcome")) (.type "ValueError") = some true
  ec_BadOutcome : L2.ExcC K (He.ga K "BadOutcome")
  e_Never_CoinError : PySem.W.exmOne K (.ref (He.ga K "Never")) (.ref (He.ga K "CoinError")) = some true
  t_Never_CoinError : PySem.W.kitOne K (.ref (He.ga K "Never")) (.ref (He.ga K "CoinError")) = some true
  t_Never_BadMarks : PySem.W.kitOne K (.ref (He.ga K "Never")) (.ref (He.ga K "BadMarks")) = some false
  e_Never_BadWeighing : PySem.W.exmOne K (.ref (He.ga K "Never")) (.ref (He.ga K "BadWeighing")) = some false
  t_Never_BadWeighing : PySem.W.kitOne K (.ref (He.ga K "Never")) (.ref (He.ga K "BadWeighing")) = some false
  t_Never_BadOutcome : PySem.W.kitOne K (.ref (He.ga K "Never")) (.ref (He.ga K "BadOutcome")) = some false
  t_Never_Never : PySem.W.kitOne K (.ref (He.ga K "Never")) (.ref (He.ga K "Never")) = some true
  t_Never_BadCoin : PySem.W.kitOne K (.ref (He.ga K "Never")) (.ref (He.ga K "BadCoin")) = some false
  t_Never_BadText : PySem.W.kitOne K (.ref (He.ga K "Never")) (.ref (He.ga K "BadText")) = some false
  t_Never_ValueError : PySem.W.kitOne K (.ref (He.ga K "Never")) (.type "ValueError") = some true
  ec_Never : L2.ExcC K (He.ga K "Never")
  e_BadCoin_CoinError : PySem.W.exmOne K (.ref (He.ga K "BadCoin")) (.ref (He.ga K "CoinError")) = some true
  t_BadCoin_CoinError : PySem.W.kitOne K (.ref (He.ga K "BadCoin")) (.ref (He.ga K "CoinError")) = some true
  t_BadCoin_BadMarks : PySem.W.kitOne K (.ref (He.ga K "BadCoin")) (.ref (He.ga K "BadMarks")) = some false
  e_BadCoin_BadWeighing : PySem.W.exmOne K (.ref (He.ga K "BadCoin")) (.ref (He.ga K "BadWeighing")) = some false
  t_BadCoin_BadWeighing : PySem.W.kitOne K (.ref (He.ga K "BadCoin")) (.ref (He.ga K "BadWeighing")) = some false
  t_BadCoin_BadOutcome : PySem.W.kitOne K (.ref (He.ga K "BadCoin")) (.ref (He.ga K "BadOutcome")) = some false
  t_BadCoin_Never : PySem.W.kitOne K (.ref (He.ga K "BadCoin")) (.ref (He.ga K "Never")) = some false
  t_BadCoin_BadCoin : PySem.W.kitOne K (.ref (He.ga K "BadCoin")) (.ref (He.ga K "BadCoin")) = some true
  t_BadCoin_BadText : PySem.W.kitOne K (.ref (He.ga K "BadCoin")) (.ref (He.ga K "BadText")) = some false
  t_BadCoin_ValueError : PySem.W.kitOne K (.ref (He.ga K "BadCoin")) (.type "ValueError") = some true
  ec_BadCoin : L2.ExcC K (He.ga K "BadCoin")
  e_BadText_CoinError : PySem.W.exmOne K (.ref (He.ga K "BadText")) (.ref (He.ga K "CoinError")) = some true
  t_BadText_CoinError : PySem.W.kitOne K (.ref (He.ga K "BadText")) (.ref (He.ga K "CoinError")) = some true
  t_BadText_BadMarks : PySem.W.kitOne K (.ref (He.ga K "BadText")) (.ref (He.ga K "BadMarks")) = some false
  e_BadText_BadWeighing : PySem.W.exmOne K (.ref (He.ga K "BadText")) (.ref (He.ga K "BadWeighing")) = some false
  t_BadText_BadWeighing : PySem.W.kitOne K (.ref (He.ga K "BadText")) (.ref (He.ga K "BadWeighing")) = some false
  t_BadText_BadOutcome : PySem.W.kitOne K (.ref (He.ga K "BadText")) (.ref (He.ga K "BadOutcome")) = some false
  t_BadText_Never : PySem.W.kitOne K (.ref (He.ga K "BadText")) (.ref (He.ga K "Never")) = some false
  t_BadText_BadCoin : PySem.W.kitOne K (.ref (He.ga K "BadText")) (.ref (He.ga K "BadCoin")) = some false
  t_BadText_BadText : PySem.W.kitOne K (.ref (He.ga K "BadText")) (.ref (He.ga K "BadText")) = some true
  t_BadText_ValueError : PySem.W.kitOne K (.ref (He.ga K "BadText")) (.type "ValueError") = some true
  ec_BadText : L2.ExcC K (He.ga K "BadText")
theorem txt_of {K : PySem.W.Frag} {h : Heap} {mg : Str → Option Value} (X : K.In h) (G : h.Ns mainGlobals mg) (c : SaysQ fas fns exs K) : Txt K mg where
  f_is_whole := c.1.def_ 0 (d := d_is_whole) rfl
  f_is_side := c.1.def_ 1 (d := d_is_side) rfl
  f_is_weighing := c.1.def_ 2 (d := d_is_weighing) rfl
  f_greatest := c.1.def_ 3 (d := d_greatest) rfl
  f_written := c.1.def_ 4 (d := d_written) rfl
  f_number_in := c.1.def_ 5 (d := d_number_in) rfl
  f_read := c.1.def_ 6 (d := d_read) rfl
  f_law_cell_at := c.1.def_ 7 (d := d_law_cell_at) rfl
  f_law_draw := c.1.def_ 8 (d := d_law_draw) rfl
  f_law_number := c.1.def_ 9 (d := d_law_number) rfl
  f_law_in := c.1.def_ 10 (d := d_law_in) rfl
  f_law_refused := c.1.def_ 11 (d := d_law_refused) rfl
  f_law_right := c.1.def_ 12 (d := d_law_right) rfl
  f_law_few := c.1.def_ 13 (d := d_law_few) rfl
  f_law := c.1.def_ 14 (d := d_law) rfl
  g_is_whole := He.glo_ok X G (c.1.fact 0 (f := .glo "is_whole") rfl)
  g_is_side := He.glo_ok X G (c.1.fact 1 (f := .glo "is_side") rfl)
  g_is_weighing := He.glo_ok X G (c.1.fact 2 (f := .glo "is_weighing") rfl)
  g_greatest := He.glo_ok X G (c.1.fact 3 (f := .glo "greatest") rfl)
  g_written := He.glo_ok X G (c.1.fact 4 (f := .glo "written") rfl)
  g_number_in := He.glo_ok X G (c.1.fact 5 (f := .glo "number_in") rfl)
  g_read := He.glo_ok X G (c.1.fact 6 (f := .glo "read") rfl)
  g_law_cell_at := He.glo_ok X G (c.1.fact 7 (f := .glo "_law_cell_at") rfl)
  g_law_draw := He.glo_ok X G (c.1.fact 8 (f := .glo "_law_draw") rfl)
  g_law_number := He.glo_ok X G (c.1.fact 9 (f := .glo "_law_number") rfl)
  g_law_in := He.glo_ok X G (c.1.fact 10 (f := .glo "_law_in") rfl)
  g_law_refused := He.glo_ok X G (c.1.fact 11 (f := .glo "_law_refused") rfl)
  g_law_right := He.glo_ok X G (c.1.fact 12 (f := .glo "_law_right") rfl)
  g_law_few := He.glo_ok X G (c.1.fact 13 (f := .glo "_law_few") rfl)
  g_law := He.glo_ok X G (c.1.fact 14 (f := .glo "law") rfl)
  n_ValueError := He.free_ok X G (c.1.fact 15 (f := .free "ValueError") rfl)
  n_all := He.free_ok X G (c.1.fact 16 (f := .free "all") rfl)
  n_any := He.free_ok X G (c.1.fact 17 (f := .free "any") rfl)
  n_bool := He.free_ok X G (c.1.fact 18 (f := .free "bool") rfl)
  n_int := He.free_ok X G (c.1.fact 19 (f := .free "int") rfl)
  n_isinstance := He.free_ok X G (c.1.fact 20 (f := .free "isinstance") rfl)
  n_len := He.free_ok X G (c.1.fact 21 (f := .free "len") rfl)
  n_list := He.free_ok X G (c.1.fact 22 (f := .free "list") rfl)
  n_max := He.free_ok X G (c.1.fact 23 (f := .free "max") rfl)
  n_min := He.free_ok X G (c.1.fact 24 (f := .free "min") rfl)
  n_range := He.free_ok X G (c.1.fact 25 (f := .free "range") rfl)
  n_set := He.free_ok X G (c.1.fact 26 (f := .free "set") rfl)
  n_sorted := He.free_ok X G (c.1.fact 27 (f := .free "sorted") rfl)
  n_str := He.free_ok X G (c.1.fact 28 (f := .free "str") rfl)
  n_tuple := He.free_ok X G (c.1.fact 29 (f := .free "tuple") rfl)
  c_FIGURES := He.str_ok X G (c.1.fact 30 (f := .str "FIGURES" "0123456789") rfl)
  c_MOST := He.int_ok X G (c.1.fact 31 (f := .int "MOST" 1000000000) rfl)
  g_CoinError := He.glo_ok X G (c.1.fact 32 (f := .glo "CoinError") rfl)
  x_CoinError := He.exc_ok (c.1.fact 33 (f := .exc "CoinError") rfl)
  g_BadMarks := He.glo_ok X G (c.1.fact 34 (f := .glo "BadMarks") rfl)
  x_BadMarks := He.exc_ok (c.1.fact 35 (f := .exc "BadMarks") rfl)
  g_BadWeighing := He.glo_ok X G (c.1.fact 36 (f := .glo "BadWeighing") rfl)
  x_BadWeighing := He.exc_ok (c.1.fact 37 (f := .exc "BadWeighing") rfl)
  g_BadOutcome := He.glo_ok X G (c.1.fact 38 (f := .glo "BadOutcome") rfl)
  x_BadOutcome := He.exc_ok (c.1.fact 39 (f := .exc "BadOutcome") rfl)
  g_Never := He.glo_ok X G (c.1.fact 40 (f := .glo "Never") rfl)
  x_Never := He.exc_ok (c.1.fact 41 (f := .exc "Never") rfl)
  g_BadCoin := He.glo_ok X G (c.1.fact 42 (f := .glo "BadCoin") rfl)
  x_BadCoin := He.exc_ok (c.1.fact 43 (f := .exc "BadCoin") rfl)
  g_BadText := He.glo_ok X G (c.1.fact 44 (f := .glo "BadText") rfl)
  x_BadText := He.exc_ok (c.1.fact 45 (f := .exc "BadText") rfl)
  e_BadMarks_CoinError := of_decide_eq_true (c.ex 0 rfl)
  t_BadMarks_CoinError := of_decide_eq_true (c.ex 1 rfl)
  t_BadMarks_BadMarks := of_decide_eq_true (c.ex 2 rfl)
  e_BadMarks_BadWeighing := of_decide_eq_true (c.ex 3 rfl)
  t_BadMarks_BadWeighing := of_decide_eq_true (c.ex 4 rfl)
  t_BadMarks_BadOutcome := of_decide_eq_true (c.ex 5 rfl)
  t_BadMarks_Never := of_decide_eq_true (c.ex 6 rfl)
  t_BadMarks_BadCoin := of_decide_eq_true (c.ex 7 rfl)
  t_BadMarks_BadText := of_decide_eq_true (c.ex 8 rfl)
  t_BadMarks_ValueError := of_decide_eq_true (c.ex 9 rfl)
  ec_BadMarks := excCB_ok (c.ex 10 rfl)
  e_BadWeighing_CoinError := of_decide_eq_true (c.ex 11 rfl)
  t_BadWeighing_CoinError := of_decide_eq_true (c.ex 12 rfl)
  t_BadWeighing_BadMarks := of_decide_eq_true (c.ex 13 rfl)
  e_BadWeighing_BadWeighing := of_decide_eq_true (c.ex 14 rfl)
  t_BadWeighing_BadWeighing := of_decide_eq_true (c.ex 15 rfl)
  t_BadWeighing_BadOutcome := of_decide_eq_true (c.ex 16 rfl)
  t_BadWeighing_Never := of_decide_eq_true (c.ex 17 rfl)
  t_BadWeighing_BadCoin := of_decide_eq_true (c.ex 18 rfl)
  t_BadWeighing_BadText := of_decide_eq_true (c.ex 19 rfl)
  t_BadWeighing_ValueError := of_decide_eq_true (c.ex 20 rfl)
  ec_BadWeighing := excCB_ok (c.ex 21 rfl)
  e_BadOutcome_CoinError := of_decide_eq_true (c.ex 22 rfl)
  t_BadOutcome_CoinError := of_decide_eq_true (c.ex 23 rfl)
  t_BadOutcome_BadMarks := of_decide_eq_true (c.ex 24 rfl)
  e_BadOutcome_BadWeighing := of_decide_eq_true (c.ex 25 rfl)
  t_BadOutcome_BadWeighing := of_decide_eq_true (c.ex 26 rfl)
  t_BadOutcome_BadOutcome := of_decide_eq_true (c.ex 27 rfl)
  t_BadOutcome_Never := of_decide_eq_true (c.ex 28 rfl)
  t_BadOutcome_BadCoin := of_decide_eq_true (c.ex 29 rfl)
  t_BadOutcome_BadText := of_decide_eq_true (c.ex 30 rfl)
  t_BadOutcome_ValueError := of_decide_eq_true (c.ex 31 rfl)
  ec_BadOutcome := excCB_ok (c.ex 32 rfl)
  e_Never_CoinError := of_decide_eq_true (c.ex 33 rfl)
  t_Never_CoinError := of_decide_eq_true (c.ex 34 rfl)
  t_Never_BadMarks := of_decide_eq_true (c.ex 35 rfl)
  e_Never_BadWeighing := of_decide_eq_true (c.ex 36 rfl)
  t_Never_BadWeighing := of_decide_eq_true (c.ex 37 rfl)
  t_Never_BadOutcome := of_decide_eq_true (c.ex 38 rfl)
  t_Never_Never := of_decide_eq_true (c.ex 39 rfl)
  t_Never_BadCoin := of_decide_eq_true (c.ex 40 rfl)
  t_Never_BadText := of_decide_eq_true (c.ex 41 rfl)
  t_Never_ValueError := of_decide_eq_true (c.ex 42 rfl)
  ec_Never := excCB_ok (c.ex 43 rfl)
  e_BadCoin_CoinError := of_decide_eq_true (c.ex 44 rfl)
  t_BadCoin_CoinError := of_decide_eq_true (c.ex 45 rfl)
  t_BadCoin_BadMarks := of_decide_eq_true (c.ex 46 rfl)
  e_BadCoin_BadWeighing := of_decide_eq_true (c.ex 47 rfl)
  t_BadCoin_BadWeighing := of_decide_eq_true (c.ex 48 rfl)
  t_BadCoin_BadOutcome := of_decide_eq_true (c.ex 49 rfl)
  t_BadCoin_Never := of_decide_eq_true (c.ex 50 rfl)
  t_BadCoin_BadCoin := of_decide_eq_true (c.ex 51 rfl)
  t_BadCoin_BadText := of_decide_eq_true (c.ex 52 rfl)
  t_BadCoin_ValueError := of_decide_eq_true (c.ex 53 rfl)
  ec_BadCoin := excCB_ok (c.ex 54 rfl)
  e_BadText_CoinError := of_decide_eq_true (c.ex 55 rfl)
  t_BadText_CoinError := of_decide_eq_true (c.ex 56 rfl)
  t_BadText_BadMarks := of_decide_eq_true (c.ex 57 rfl)
  e_BadText_BadWeighing := of_decide_eq_true (c.ex 58 rfl)
  t_BadText_BadWeighing := of_decide_eq_true (c.ex 59 rfl)
  t_BadText_BadOutcome := of_decide_eq_true (c.ex 60 rfl)
  t_BadText_Never := of_decide_eq_true (c.ex 61 rfl)
  t_BadText_BadCoin := of_decide_eq_true (c.ex 62 rfl)
  t_BadText_BadText := of_decide_eq_true (c.ex 63 rfl)
  t_BadText_ValueError := of_decide_eq_true (c.ex 64 rfl)
  ec_BadText := excCB_ok (c.ex 65 rfl)
end Od

namespace Od
open PySem PySem.Spec PyProof.Rows L2 SX Evl
variable {P : Program} {w : World} {K : PySem.W.Frag} {mg : Str → Option Value} {base : Heap}
/-! ### is_whole -/
def kInt (t : Value) (b : Bool) : Prop := ∀ K, PySem.W.kitOne K t (.type "int") = some b
def spIsWhole (K : PySem.W.Frag) : Sp := S1 fun a H Q => ∃ (t : Value) (ki kb : Bool), TyX K H a t ∧ PySem.W.kitOne K t (.type "int") = some ki ∧ PySem.W.kitOne K t (.type "bool") = some kb ∧ Go H (Q (.bl (ki && !kb)))
theorem ok_is_whole (T : Txt K mg) : Cal CX0 P w K mg base 1 "is_whole" (spIsWhole K) :=
  cal_mk T.f_is_whole T.g_is_whole sc_is_whole (fun _ _ _ _ _ _ us hl => match us, hl with | [_], _ => rfl) len1 fun cdv A outer s H vs Q E hr hsp => by
    obtain ⟨a, rfl, t, ki, kb, ht, h1, h2, q⟩ := hsp
    refine ⟨_, (pss_cons (ps_ret (pe_and (pe_callB (call_isiK2 K) (by rfl) T.n_isinstance (by decide +kernel) (pa_cons (pv 0) (pa_cons (pe_gTy (n := "int") T.n_int) pa_nil))) (pe_one (pe_not (pe_callB (call_isiK2 K) (by rfl) T.n_isinstance (by decide +kernel) (pa_cons (pv 0) (pa_cons (pe_gTy (n := "bool") T.n_bool) pa_nil)))))))
      pss_nil), ?_⟩
    exact go_ret (ev_andV (ev_isT (ev_var rfl) ev_c (.ty _) ht h1) fun _ => ev_notV (ev_isT (ev_var rfl) ev_c (.ty _) ht h2)) q
theorem sv_is_whole {H : Hp} {x : V} (hf : flatV x = true) : SpV (spIsWhole K) [x] H (.bl (isIntV x)) := sv1 fun H1 e Q q => by
  cases x with
  | non => exact ⟨_, false, false, .base .non, kit_ty (by decide +kernel), kit_ty (by decide +kernel), q⟩
  | bl b => exact ⟨_, true, true, .base (.bl b), kit_ty (by decide +kernel), kit_ty (by decide +kernel), q⟩
  | int i => exact ⟨_, true, false, .base (.int i), kit_ty (by decide +kernel), kit_ty (by decide +kernel), q⟩
  | str z => exact ⟨_, false, false, .base (.str z), kit_ty (by decide +kernel), kit_ty (by decide +kernel), q⟩
  | _ => cases hf
/-! ### cases_of -/
def spCasesOf : Sp := S1 fun a H Q => ∃ m : List Nat, a = .str (S m) ∧ Go H (Q (.int (casesN m : Nat)))
theorem cmul_l {i j : Int} (h1 : -(2 ^ 64) < i) (h2 : i < 2 ^ 64) : CMul i j := .inl ⟨h1, h2⟩
theorem sv_cases_of {H : Hp} {m : List Nat} : SpV spCasesOf [.str (S m)] H (.int (casesN m : Nat)) := sv1 fun H1 e Q q => ⟨m, rfl, q⟩
end Od

namespace Od
open PySem PySem.Spec PyProof.Rows L2 SX Evl
variable {P : Program} {w : World} {K : PySem.W.Frag} {mg : Str → Option Value} {base : Heap}
/-! ### is_side -/
def spIsSide (K : PySem.W.Frag) : Sp := S2 fun a b H Q => ∃ (o : Option (List V)) (c : Int), b = .int c ∧ Thing K H a o ∧ Go H (Q (.bl (sideO o c)))
theorem ok_is_side (T : Txt K mg) : Cal CX0 P w K mg base 2 "is_side" (spIsSide K) :=
  cal_mk T.f_is_side T.g_is_side sc_is_side (fun _ _ _ _ _ _ us hl => match us, hl with | [_, _], _ => rfl) len2 fun cdv A outer s H vs Q E hr hsp => by
    obtain ⟨a, b, rfl, o, c, rfl, ht, q⟩ := hsp
    refine ⟨_, (pss_cons (ps_if (PW.pt (pw_or (pt_not (pt_val (pe_callB (call_isiK2 K) (by rfl) T.n_isinstance (by decide +kernel) (pa_cons (pv 0) (pa_cons (pe_gTy (n := "list") T.n_list) pa_nil))))) (pw_or1 (pt_not (pt_val (pe_callB (cr_allK K rfl) (by rfl) T.n_all (by decide +kernel) (pa_cons (pe_lc (own := [("coin", 2)]) rfl sc_is_side.nd (pi_list (pv 0)) (blkOk_by (own := [("coin", 2)]) (N := ["thing", "coins", "coin", "last"]) (sc := defScope s_is_side) (by decide +kernel)) (fun _ _ _ _ _ => (pg_name (i := 2) sc_is_side.nd rfl (Or.inl rfl))) (fun _ _ _ _ _ => pts_nil) (fun _ _ _ _ _ => (pe_k (ok_is_whole T) hr (by decide) (by rfl) (pa_cons (pv 2) pa_nil)))) pa_nil))))))) (pss_cons (ps_ret pe_bl)
      pss_nil) pss_nil)
      (pss_cons (ps_set (i := 3) sc_is_side.nd rfl (Or.inl rfl) (pe_un un_negI pe_int))
      (pss_cons (ps_for PassesOwn.never rfl (pi_list (pv 0)) (pg_name (i := 2) sc_is_side.nd rfl (Or.inl rfl)) (pss_cons (ps_if (pt_not (pt_chain op_ltI op_leI (pv 3) (pv 2) (pv 1))) (pss_cons (ps_ret pe_bl)
      pss_nil) pss_nil)
      (pss_cons (ps_set (i := 3) sc_is_side.nd rfl (Or.inl rfl) (pv 2))
      pss_nil)))
      (pss_cons (ps_ret pe_bl)
      pss_nil)))), ?_⟩
    cases o with
    | none =>
      obtain ⟨t, h1, h2⟩ := ht
      refine go_when (et_or (b := true) (et_not (et_B (ev_isT (ev_var rfl) ev_c (.ty _) h1 h2))) fun h => by cases h) (fun _ => go_ret ev_c q) (fun hb => by cases hb)
    | some xs =>
      obtain ⟨p, rfl, hp, hf, hl⟩ := ht
      refine go_when (et_or (et_not (et_B (ev_isT (ev_var rfl) ev_c (.ty _) (tyx_sql hp) (kit_ty (r := true) (by decide +kernel))))) fun _ => et_not (et_B (ev_allN (bs := xs.map isIntV)
        (by rw [List.map_map]; exact el_mapL xs _root_.id (fun x => V.bl (isIntV x)) .non (ev_var rfl) (by rw [List.map_id]; exact hp) hl (fun _ => rfl) (fun x hx => ev_call0 (ea_cons (ev_var rfl) ea_nil) (sv_is_whole (List.all_eq_true.mp hf x hx))))))) (fun hb => ?_) (fun hb => ?_)
      · have e : sideO (some xs) c = false := by
          show sideV xs c = false
          unfold sideV
          rw [List.all_map] at hb
          have z : (xs.all isIntV) = false := by
            have z2 : (!true || !xs.all isIntV) = true := hb
            simpa using z2
          rw [z, Bool.false_and]
        rw [e] at q
        exact go_ret ev_c q
      · have z : xs.all isIntV = true := by
          rw [List.all_map] at hb
          have z2 : (!true || !xs.all isIntV) = false := hb
          simpa using z2
        have e := ints_of z
        generalize xs.map intOf = ns at e
        subst e
        refine go_asg (ev_negI ev_c) ?_
        refine go_forL (fun i σ Hk => (∃ (y : Option V) (last : Int), σ = [some (.ref p), some (.int c), y, some (.int last)] ∧ sideN ns c = riseB c last (ns.drop i)) ∧ Hk = H) (ev_var rfl) hp ⟨⟨none, -1, rfl, rfl⟩, rfl⟩ (fun i σ' Hk h => by rw [h.2]; exact hp) ?_ ?_
        · rintro i x σ' Hk hx ⟨⟨y, last, rfl, hr⟩, rfl⟩
          rw [List.getElem?_map] at hx
          cases hn : ns[i]? with
          | none => rw [hn] at hx; cases hx
          | some n =>
            rw [hn] at hx
            obtain rfl : V.int n = x := Option.some.inj hx
            rw [drop_at hn] at hr
            refine go_when (et_not (et_test (ev_ltLe (ev_var rfl) (ev_var rfl) (ev_var rfl)))) (fun hb => ?_) (fun hb => ?_)
            · have e : sideO (some (ns.map V.int)) c = false := by
                show sideV (ns.map V.int) c = false
                rw [sideV_ints, hr]
                show (decide (last < n) && decide (n ≤ c) && riseB c n (ns.drop (i + 1))) = false
                have z2 : (decide (last < n) && decide (n ≤ c)) = false := by rwa [Bool.not_eq_true'] at hb
                rw [z2, Bool.false_and]
              rw [e] at q
              exact go_ret ev_c q
            · refine go_asg (ev_var rfl) (go_up rfl ⟨⟨some (.int n), n, rfl, ?_⟩, rfl⟩)
              have z2 : (decide (last < n) && decide (n ≤ c)) = true := by rwa [Bool.not_eq_false'] at hb
              rw [hr]
              show (decide (last < n) && decide (n ≤ c) && riseB c n (ns.drop (i + 1))) = _
              rw [z2, Bool.true_and]
        · rintro σ' Hk ⟨⟨y, last, rfl, hr⟩, rfl⟩
          refine go_ret ev_c ?_
          have e : sideO (some (ns.map V.int)) c = true := by
            show sideV (ns.map V.int) c = true
            rw [sideV_ints, hr, List.length_map, List.drop_length]
            rfl
          rw [e] at q
          exact q
theorem sv_is_side {H : Hp} {a : V} {o : Option (List V)} {c : Int} (h : Thing K H a o) : SpV (spIsSide K) [a, .int c] H (.bl (sideO o c)) := sv2 fun H1 e Q q => ⟨o, c, rfl, h.mono e, q⟩
/-! ### is_weighing -/
def spIsWeighing (K : PySem.W.Frag) : Sp := S3 fun a b d H Q => ∃ (c : Int) (l r : Option (List V)), a = .int c ∧ Thing K H b l ∧ Thing K H d r ∧ Go H (Q (.bl (weighO c l r)))
theorem ok_is_weighing (T : Txt K mg) : Cal CX0 P w K mg base 3 "is_weighing" (spIsWeighing K) :=
  cal_mk T.f_is_weighing T.g_is_weighing sc_is_weighing (fun _ _ _ _ _ _ us hl => match us, hl with | [_, _, _], _ => rfl) len3 fun cdv A outer s H vs Q E hr hsp => by
    obtain ⟨a, b, d, rfl, c, l, r, rfl, hl, hR, q⟩ := hsp
    refine ⟨_, (pss_cons (ps_if (PW.pt (pw_or (pt_not (pt_val (pe_k (ok_is_side T) hr (by decide) (by rfl) (pa_cons (pv 1) (pa_cons (pv 0) pa_nil))))) (pw_or (pt_not (pt_val (pe_k (ok_is_side T) hr (by decide) (by rfl) (pa_cons (pv 2) (pa_cons (pv 0) pa_nil))))) (pw_or1 (pt_cmpR op_neI (pe_callB (call_lenQK K) (by rfl) T.n_len (by decide +kernel) (pa_cons (pv 1) pa_nil)) (pe_callB (call_lenQK K) (by rfl) T.n_len (by decide +kernel) (pa_cons (pv 2) pa_nil)) (nomark _)))))) (pss_cons (ps_ret pe_bl)
      pss_nil) pss_nil)
      (pss_cons (ps_ret (pe_not (pe_callB (cr_anyK K rfl) (by rfl) T.n_any (by decide +kernel) (pa_cons (pe_lc (own := [("coin", 3)]) rfl sc_is_weighing.nd (pi_list (pv 1)) (blkOk_by (own := [("coin", 3)]) (N := ["coins", "left", "right", "coin"]) (sc := defScope s_is_weighing) (by decide +kernel)) (fun _ _ _ _ _ => (pg_name (i := 3) sc_is_weighing.nd rfl (Or.inl rfl))) (fun _ _ _ _ _ => pts_nil) (fun _ _ _ _ _ => (pe_cmpR (op_inK K) (pv 3) (pv 2) rfl))) pa_nil))))
      pss_nil)), ?_⟩
    cases e1 : sideO l c with
    | false =>
      have e : weighO c l r = false := by
        cases l with
        | none => rfl
        | some l =>
          cases r with
          | none => rfl
          | some r =>
            have z : sideV l c = false := e1
            show (sideV l c && _) = false
            rw [z, Bool.false_and]
      rw [e] at q
      refine go_when (et_or (a := true) (b := true) (et_is (et_not (et_B (ev_call0 (ea_cons (ev_var rfl) (ea_cons (ev_var rfl) ea_nil)) (sv_is_side hl)))) (by rw [e1] <;> rfl)) fun h => by cases h) (fun _ => go_ret ev_c q) (fun hb => by cases hb)
    | true =>
      cases l with
      | none => cases e1
      | some l =>
        cases e2 : sideO r c with
        | false =>
          have e : weighO c (some l) r = false := by
            cases r with
            | none => rfl
            | some r =>
              have z : sideV r c = false := e2
              show (sideV l c && (sideV r c && _)) = false
              rw [z, Bool.false_and, Bool.and_false]
          rw [e] at q
          refine go_when (et_or (a := false) (b := true) (et_is (et_not (et_B (ev_call0 (ea_cons (ev_var rfl) (ea_cons (ev_var rfl) ea_nil)) (sv_is_side hl)))) (by rw [e1] <;> rfl)) fun _ =>
            et_or (a := true) (b := true) (et_is (et_not (et_B (ev_call0 (ea_cons (ev_var rfl) (ea_cons (ev_var rfl) ea_nil)) (sv_is_side hR)))) (by rw [e2] <;> rfl)) fun h => by cases h) (fun _ => go_ret ev_c q) (fun hb => by cases hb)
        | true =>
          cases r with
          | none => cases e2
          | some r =>
            obtain ⟨p1, rfl, hp1, hf1, hl1⟩ := id hl
            obtain ⟨p2, rfl, hp2, hf2, hl2⟩ := id hR
            have e : weighO c (some l) (some r) = (decide (l.length = r.length) && !(l.any fun x => inV x r)) := by
              have z1 : sideV l c = true := e1
              have z2 : sideV r c = true := e2
              show (sideV l c && (sideV r c && _)) = _
              rw [z1, z2, Bool.true_and, Bool.true_and]
            rw [e] at q
            refine go_when (et_or (a := false) (et_is (et_not (et_B (ev_call0 (ea_cons (ev_var rfl) (ea_cons (ev_var rfl) ea_nil)) (sv_is_side hl)))) (by rw [e1] <;> rfl)) fun _ =>
              et_or (a := false) (et_is (et_not (et_B (ev_call0 (ea_cons (ev_var rfl) (ea_cons (ev_var rfl) ea_nil)) (sv_is_side hR)))) (by rw [e2] <;> rfl)) fun _ =>
              et_test (ev_neI (ev_lenQ (ev_var rfl) hp1) (ev_lenQ (ev_var rfl) hp2))) (fun hb => ?_) (fun hb => ?_)
            · have z : decide (l.length = r.length) = false := by
                have z2 : (false || (false || !decide (((l.length : Nat) : Int) = ((r.length : Nat) : Int)))) = true := hb
                have z3 : ¬ ((l.length : Nat) : Int) = ((r.length : Nat) : Int) := by simpa using z2
                exact decide_eq_false fun e => z3 (by rw [e])
              rw [z, Bool.false_and] at q
              exact go_ret ev_c q
            · have z : decide (l.length = r.length) = true := by
                have z2 : (false || (false || !decide (((l.length : Nat) : Int) = ((r.length : Nat) : Int)))) = false := hb
                have z3 : ((l.length : Nat) : Int) = ((r.length : Nat) : Int) := by simpa using z2
                exact decide_eq_true (Int.ofNat_inj.mp z3)
              rw [z, Bool.true_and] at q
              refine go_ret (ev_notV (ev_anyN (bs := l.map fun x => inV x r) ?_)) (by rw [List.any_map]; exact q)
              rw [List.map_map]
              exact el_mapL l _root_.id (fun x => V.bl (inV x r)) .non (ev_var rfl) (by rw [List.map_id]; exact hp1) hl1 (fun _ => rfl) (fun x hx => ev_in (neg := false) (ev_var rfl) (ev_var rfl) hp2 (List.all_eq_true.mp hf1 x hx) hf2)
theorem sv_is_weighing {H : Hp} {b d : V} {l r : Option (List V)} {c : Int} (hl : Thing K H b l) (hr : Thing K H d r) : SpV (spIsWeighing K) [.int c, b, d] H (.bl (weighO c l r)) := sv3 fun H1 e Q q => ⟨c, l, r, rfl, hl.mono e, hr.mono e, q⟩
end Od

namespace Od
open PySem PySem.Spec PyProof.Rows L2 SX Evl
variable {P : Program} {w : World} {K : PySem.W.Frag} {mg : Str → Option Value} {base : Heap}
/-! ### greatest, of two lists of counts -/
def spGreat5 : Sp := S2 fun a b H Q => ∃ (pl pr : Addr) (l r : List Int), a = .ref pl ∧ b = .ref pr ∧ H pl = some (.lst (l.map V.int)) ∧ H pr = some (.lst (r.map V.int)) ∧ l.length ≤ 1000 ∧ r.length ≤ 1000 ∧ Go H (Q (.int (maxM (l ++ r))))
theorem ok_greatest (T : Txt K mg) : Cal CX0 P w K mg base 2 "greatest" spGreat5 :=
  cal_mk T.f_greatest T.g_greatest sc_greatest (fun _ _ _ _ _ _ us hl => match us, hl with | [_, _], _ => rfl) len2 fun cdv A outer s H vs Q E hr hsp => by
    obtain ⟨a, b, rfl, p1, p2, l, r, rfl, rfl, hp1, hp2, n1, n2, q⟩ := hsp
    refine ⟨_, (pss_cons (ps_if (PW.pt (pw_or (pt_not (pt_val (pe_callB (call_isiK2 K) (by rfl) T.n_isinstance (by decide +kernel) (pa_cons (pv 0) (pa_cons (pe_gTy (n := "list") T.n_list) pa_nil))))) (pw_or1 (pt_not (pt_val (pe_callB (call_isiK2 K) (by rfl) T.n_isinstance (by decide +kernel) (pa_cons (pv 1) (pa_cons (pe_gTy (n := "list") T.n_list) pa_nil)))))))) (pss_cons (ps_ret pe_int)
      pss_nil) pss_nil)
      (pss_cons (ps_if (pt_not (pt_val (pe_callB (cr_allK K rfl) (by rfl) T.n_all (by decide +kernel) (pa_cons (pe_lc (own := [("coin", 2)]) rfl sc_greatest.nd (pi_list (pe_op op_cat (pv 0) (pv 1))) (blkOk_by (own := [("coin", 2)]) (N := ["left", "right", "coin"]) (sc := defScope s_greatest) (by decide +kernel)) (fun _ _ _ _ _ => (pg_name (i := 2) sc_greatest.nd rfl (Or.inl rfl))) (fun _ _ _ _ _ => pts_nil) (fun _ _ _ _ _ => (pe_k (ok_is_whole T) hr (by decide) (by rfl) (pa_cons (pv 2) pa_nil)))) pa_nil)))) (pss_cons (ps_ret pe_int)
      pss_nil) pss_nil)
      (pss_cons (ps_ret (pe_callB (cr_max rfl) (by rfl) T.n_max (by decide +kernel) (pa_cons (pe_op op_cat (pe_op op_cat (pe_lst (pa_cons pe_int pa_nil)) (pv 0)) (pv 1)) pa_nil)))
      pss_nil))), ?_⟩
    refine go_when (b := false) (et_is (et_or (et_not (et_B (ev_isT (ev_var rfl) ev_c (.ty _) (tyx_sql (sq_of hp1)) (kit_ty (r := true) (by decide +kernel))))) fun _ => et_not (et_B (ev_isT (ev_var rfl) ev_c (.ty _) (tyx_sql (sq_of hp2)) (kit_ty (r := true) (by decide +kernel))))) rfl) (fun h => by cases h) (fun _ => ?_)
    refine go_when (b := false) (et_is (et_not (et_B (ev_allN (bs := (l ++ r).map fun _ => true) ?_))) ?_) (fun h => by cases h) (fun _ => ?_)
    · rw [List.map_map]
      exact el_mapN (l ++ r) V.int (fun _ => V.bl true) 0 (by rw [List.map_append]; exact el_cat (ev_var rfl) (ev_var rfl) hp1 hp2 (by rw [List.length_map, List.length_map]; omega)) (by rw [List.length_append]; omega) (fun _ => rfl) (fun x hx => ev_is (ev_call0 (ea_cons (ev_var rfl) ea_nil) (sv_is_whole rfl)) rfl)
    · rw [List.all_map]
      have : (l ++ r).all (_root_.id ∘ fun _ => true) = true := List.all_eq_true.mpr fun _ _ => rfl
      rw [this] <;> rfl
    · obtain ⟨g1, g2, g3⟩ := maxM_ge (l ++ r)
      refine go_ret (ev_maxN (ns := 0 :: (l ++ r)) (m := maxM (l ++ r)) ?_ g3 fun y hy => ?_) q
      · rw [List.map_cons, List.map_append]
        exact el_catNq (xs := .int 0 :: l.map V.int) (el_catNq (xs := [.int 0]) (el_lst (ea_cons ev_c ea_nil) (by simp)) (ev_var rfl) hp1 (by rw [List.length_map]; show 1 + _ ≤ _; omega)) (ev_var rfl) hp2 (by rw [List.length_cons, List.length_map, List.length_map]; omega)
      · rcases List.mem_cons.mp hy with e | e
        · rw [e]; exact g2
        · exact g1 y e
theorem sv_greatest {H : Hp} {p1 p2 : Addr} {l r : List Int} (h1 : H p1 = some (.lst (l.map V.int))) (h2 : H p2 = some (.lst (r.map V.int))) (n1 : l.length ≤ 1000) (n2 : r.length ≤ 1000) : SpV spGreat5 [.ref p1, .ref p2] H (.int (maxM (l ++ r))) := sv2 fun H1 e Q q => ⟨p1, p2, l, r, rfl, rfl, e _ _ h1, e _ _ h2, n1, n2, q⟩
/-! ### written -/
def writR (K : PySem.W.Frag) (l r : List Int) : Res := if weighW l r = true then .val (.str (S (textOf l r))) else .exc (He.ga K "BadWeighing")
def spWrit (K : PySem.W.Frag) : Sp := S2x fun a b H Q E => ∃ (pl pr : Addr) (l r : List Int), a = .ref pl ∧ b = .ref pr ∧ H pl = some (.lst (l.map V.int)) ∧ H pr = some (.lst (r.map V.int)) ∧ l.length ≤ 1000 ∧ r.length ≤ 1000 ∧ ends (writR K l r) H Q E
theorem el_nums {σ : L2.St} {H : Hp} {tl : TE} {p : Addr} {j : Nat} (l : List Int) (h : Ev tl σ H (.ref p)) (hp : H p = some (.lst (l.map V.int))) (hl : l.length ≤ 1000) (hb : ∀ i ∈ l, 0 ≤ i ∧ i < 1000000000) (hw : ∀ x, wipe ((wipe σ [j]).set j (some x)) [j] = wipe σ [j]) (hv : ∀ i : Int, ((wipe σ [j]).set j (some (.int i)))[j]? = some (some (.int i))) :
    EvL (tLc (iList K tl) (gName j) tYes (tCB rStrI2 (tCons (tVar j) tNil)) [j]) σ H ((l.map fun i => TL.numL i.toNat).map fun y => .str (S y)) := by
  rw [List.map_map]
  refine el_mapL l V.int ((fun y => V.str (S y)) ∘ fun i => TL.numL i.toNat) 0 h (sq_of hp) (by omega) hw fun i hi => ?_
  obtain ⟨b1, b2⟩ := hb i hi
  have lg : i.natAbs.log2 < 1920 := by
    by_cases z : i.natAbs = 0
    · rw [z]; decide
    · exact (Nat.log2_lt z).mpr (Nat.lt_of_lt_of_le (show i.natAbs < 2 ^ 30 by omega) (Nat.pow_le_pow_right (show 0 < 2 by decide) (show 30 ≤ 1920 by decide)))
  refine ev_is (ev_strI (ev_var (hv i)) lg) ?_
  have e : i = ((i.toNat : Nat) : Int) := by omega
  show V.str _ = V.str _
  rw [← num_S, ← e]
theorem nums_sum {l : List Int} (hb : ∀ i ∈ l, 0 ≤ i ∧ i < 1000000000) : ((l.map fun i => TL.numL i.toNat).map (·.length)).sum ≤ 9 * l.length := by
  induction l with
  | nil => exact Nat.le_refl _
  | cons i r ih =>
    have h1 := ih fun x hx => hb x (List.mem_cons_of_mem _ hx)
    have h2 := hb i List.mem_cons_self
    have h3 : (TL.numL i.toNat).length ≤ 9 := TL.numL_len (by decide) (by omega)
    simp only [List.map_cons, List.sum_cons, List.length_cons]
    omega
theorem joinL_len : ∀ (ys : List (List Nat)), (TL.joinL [32] ys).length ≤ (ys.map (·.length)).sum + ys.length
  | [] => Nat.zero_le _
  | [x] => by
    show x.length ≤ x.length + 0 + 1
    omega
  | x :: y :: r => by
    have ih := joinL_len (y :: r)
    have e : TL.joinL [32] (x :: y :: r) = x ++ ([32] ++ TL.joinL [32] (y :: r)) := rfl
    rw [e, List.length_append, List.length_append]
    simp only [List.map_cons, List.sum_cons, List.length_cons] at ih ⊢
    show x.length + (1 + _) ≤ _
    omega
theorem numsT_len {l : List Int} (hl : l.length ≤ 1000) (hb : ∀ i ∈ l, 0 ≤ i ∧ i < 1000000000) : (numsT l).length ≤ 10 * l.length := by
  unfold numsT
  have h1 := joinL_len (l.map fun i => TL.numL i.toNat)
  have h2 := nums_sum hb
  rw [List.length_map] at h1
  omega
theorem ev_numsT {σ : L2.St} {H : Hp} {tl ts : TE} {p : Addr} {j : Nat} {l : List Int} (ha : Ev ts σ H (.str (S [32]))) (h : Ev tl σ H (.ref p)) (hp : H p = some (.lst (l.map V.int))) (hl : l.length ≤ 1000) (hb : ∀ i ∈ l, 0 ≤ i ∧ i < 1000000000) (hw : ∀ x, wipe ((wipe σ [j]).set j (some x)) [j] = wipe σ [j]) (hv : ∀ i : Int, ((wipe σ [j]).set j (some (.int i)))[j]? = some (some (.int i))) :
    Ev (tM1 (rJoinT K) ts (tLc (iList K tl) (gName j) tYes (tCB rStrI2 (tCons (tVar j) tNil)) [j])) σ H (.str (S (numsT l))) := by
  have h2 := nums_sum hb
  exact ev_join ha (el_nums l h hp hl hb hw hv) (by rw [List.length_map]; show _ + l.length * 1 ≤ _; omega)
theorem weighW_bounds {l r : List Int} (h : weighW l r = true) : (∀ i ∈ l, 0 ≤ i ∧ i < 1000000000) ∧ (∀ i ∈ r, 0 ≤ i ∧ i < 1000000000) ∧ weighB (maxM (l ++ r)) l r = true ∧ maxM (l ++ r) < 1000000000 := by
  unfold weighW at h
  rw [Bool.and_eq_true, decide_eq_true_eq] at h
  obtain ⟨s1, s2, _, _⟩ := weigh_un h.2
  refine ⟨fun i hi => ?_, fun i hi => ?_, h.2, h.1⟩
  · have := (lt_side l _ _ s1).2 i hi
    omega
  · have := (lt_side r _ _ s2).2 i hi
    omega
theorem okx_written (T : Txt K mg) : Cal (CXn P w) P w K mg base 4 "written" (spWrit K) :=
  calx_mk T.f_written T.g_written sc_written (fun _ _ _ _ _ _ us hl => match us, hl with | [_, _], _ => rfl) lenx2 fun cdv A outer s H vs Q E hr hsp => by
    obtain ⟨a, b, rfl, p1, p2, l, r, rfl, rfl, h1, h2, n1, n2, q⟩ := hsp
    refine ⟨_, (pss_cons (ps_set (i := 2) sc_written.nd rfl (Or.inl rfl) (pe_k (ok_greatest T) hr (by decide) (by rfl) (pa_cons (pv 0) (pa_cons (pv 1) pa_nil))))
      (pss_cons (ps_if (PW.pt (pw_or (pt_cmpR op_geI (pv 2) (pe_gI T.c_MOST) (nomark _)) (pw_or1 (pt_not (pt_val (pe_k (ok_is_weighing T) hr (by decide) (by rfl) (pa_cons (pv 2) (pa_cons (pv 0) (pa_cons (pv 1) pa_nil))))))))) (pss_cons (L2N.ps_raise rfl (L2N.takes_of rfl rfl rfl rfl) (L2N.pmk_own PySem.F.excBase_ValueError (T.x_BadWeighing).1 T.g_BadWeighing (T.x_BadWeighing).2.1 (raises_own (T.x_BadWeighing).2.2.1 (T.x_BadWeighing).2.2.2) rfl))
      pss_nil) pss_nil)
      (pss_cons (ps_if (pt_cmpR (op_eqDK K hr.units) (pv 0) (pe_lst pa_nil) (nomark _)) (pss_cons (ps_ret (pe_strS k__2d_))
      pss_nil) pss_nil)
      (pss_cons (ps_ret (pe_op op_addT (pe_op op_addT (pe_m1 PySem.F.slot_str_join PySem.F.type_str_join mt_joinT (pe_strS k__20_) (pe_lc (own := [("coin", 3)]) rfl sc_written.nd (pi_list (pv 0)) (blkOk_by (own := [("coin", 3)]) (N := ["left", "right", "most", "coin"]) (sc := defScope s_written) (by decide +kernel)) (fun _ _ _ _ _ => (pg_name (i := 3) sc_written.nd rfl (Or.inl rfl))) (fun _ _ _ _ _ => pts_nil) (fun _ _ _ _ _ => (pe_callTy call_strI (by rfl) T.n_str (by decide +kernel) (pa_cons (pv 3) pa_nil))))) (pe_strS k__20__7c__20_)) (pe_m1 PySem.F.slot_str_join PySem.F.type_str_join mt_joinT (pe_strS k__20_) (pe_lc (own := [("coin", 3)]) rfl sc_written.nd (pi_list (pv 1)) (blkOk_by (own := [("coin", 3)]) (N := ["left", "right", "most", "coin"]) (sc := defScope s_written) (by decide +kernel)) (fun _ _ _ _ _ => (pg_name (i := 3) sc_written.nd rfl (Or.inl rfl))) (fun _ _ _ _ _ => pts_nil) (fun _ _ _ _ _ => (pe_callTy call_strI (by rfl) T.n_str (by decide +kernel) (pa_cons (pv 3) pa_nil)))))))
      pss_nil)))), ?_⟩
    have t1 : Thing K H (.ref p1) (some (l.map V.int)) := thing_ints (sq_of h1) (by omega)
    have t2 : Thing K H (.ref p2) (some (r.map V.int)) := thing_ints (sq_of h2) (by omega)
    refine go_asg (ev_call0 (ea_cons (ev_var rfl) (ea_cons (ev_var rfl) ea_nil)) (sv_greatest h1 h2 n1 n2)) ?_
    refine go_when (b := !weighW l r) (et_is (et_or (et_test (ev_geI (ev_var rfl) ev_c)) fun _ => et_not (et_B (ev_call0 (ea_cons (ev_var rfl) (ea_cons (ev_var rfl) (ea_cons (ev_var rfl) ea_nil))) (sv_is_weighing t1 t2)))) ?_) (fun hb => ?_) (fun hb => ?_)
    · rw [weighO_ints]
      unfold weighW
      by_cases hm : maxM (l ++ r) < 1000000000
      · rw [decide_eq_true hm, decide_eq_false (by omega), Bool.false_or, Bool.true_and]
      · rw [decide_eq_false hm, decide_eq_true (by omega)] <;> rfl
    · rw [Bool.not_eq_true'] at hb
      unfold writR at q
      rw [if_neg (by rw [hb]; exact Bool.false_ne_true)] at q
      exact (show Go H (E (.ref (He.ga K "BadWeighing")) none) from q)
    · rw [Bool.not_eq_false'] at hb
      unfold writR at q
      rw [if_pos hb] at q
      obtain ⟨b1, b2, _, _⟩ := weighW_bounds hb
      have q1 : Go H (Q (.str (S (textOf l r)))) := q
      unfold textOf at q1
      refine go_when (et_test (ev_eqRN (xs := l) (ys := []) (ev_var rfl) (el_lst ea_nil (by simp)) (sq_of h1))) (fun hl => ?_) (fun hl => ?_)
      · rw [if_pos (of_decide_eq_true hl)] at q1
        exact go_ret ev_c q1
      · rw [if_neg (of_decide_eq_false hl)] at q1
        have z1 := numsT_len n1 b1
        have z2 := numsT_len n2 b2
        exact go_ret (ev_addT (ev_addT (ev_numsT ev_c (ev_var rfl) h1 n1 b1 (fun _ => rfl) (fun _ => rfl)) (b := bar) ev_c (by show _ + 3 ≤ _; omega)) (ev_numsT ev_c (ev_var rfl) h2 n2 b2 (fun _ => rfl) (fun _ => rfl)) (by rw [List.length_append]; show _ + 3 + _ ≤ _; omega)) q1
theorem sx_written {H : Hp} {p1 p2 : Addr} {l r : List Int} (h1 : H p1 = some (.lst (l.map V.int))) (h2 : H p2 = some (.lst (r.map V.int))) (n1 : l.length ≤ 1000) (n2 : r.length ≤ 1000) : SpE (spWrit K) [.ref p1, .ref p2] H (writR K l r) := fun H1 e Q E q => ⟨_, _, rfl, p1, p2, l, r, rfl, rfl, e _ _ h1, e _ _ h2, n1, n2, q⟩
end Od

namespace Od
open PySem PySem.Spec PyProof.Rows L2 SX Evl
variable {P : Program} {w : World} {K : PySem.W.Frag} {mg : Str → Option Value} {base : Heap}
/-! ### number_in -/
def numR (K : PySem.W.Frag) (w : List Nat) : Res := if numOk w = true then .val (.int (numV w)) else .exc (He.ga K "BadText")
def spNum (K : PySem.W.Frag) : Sp := S1x fun a H Q E => ∃ w : List Nat, a = .str (S w) ∧ w.length ≤ 50000 ∧ ends (numR K w) H Q E
theorem dig_in (c : Nat) : decide (c ∈ [48, 49, 50, 51, 52, 53, 54, 55, 56, 57]) = isDig c := by
  unfold isDig
  rw [← Bool.decide_and]
  refine decide_eq_decide.mpr ?_
  simp only [List.mem_cons, List.not_mem_nil, or_false]
  omega
theorem strip_dig (w : List Nat) : decide (stripL [48, 49, 50, 51, 52, 53, 54, 55, 56, 57] w = []) = w.all isDig := by
  rw [stripL_nil]
  congr 1
  funext c
  exact dig_in c
/-- the three tests of number_in -/
theorem num_tests (w : List Nat) : (!(decide (1 ≤ ((w.length : Nat) : Int)) && decide (((w.length : Nat) : Int) ≤ 9)) || (!w.all isDig || (decide ([w.getD 0 0] = [48]) && !decide (w = [48])))) = !numOk w := by
  have e1 : decide (1 ≤ ((w.length : Nat) : Int)) = decide (1 ≤ w.length) := decide_eq_decide.mpr (by omega)
  have e2 : decide (((w.length : Nat) : Int) ≤ 9) = decide (w.length ≤ 9) := decide_eq_decide.mpr (by omega)
  have e3 : decide ([w.getD 0 0] = [48]) = decide (w.getD 0 0 = 48) := decide_eq_decide.mpr ⟨fun h => (List.cons.inj h).1, fun h => by rw [h]⟩
  rw [e1, e2, e3]
  unfold numOk
  cases decide (1 ≤ w.length) <;> cases decide (w.length ≤ 9) <;> cases w.all isDig <;> cases decide (w.getD 0 0 = 48) <;> cases decide (w = [48]) <;> rfl
theorem okx_number_in (T : Txt K mg) : Cal (CXn P w) P w K mg base 1 "number_in" (spNum K) :=
  calx_mk T.f_number_in T.g_number_in sc_number_in (fun _ _ _ _ _ _ us hl => match us, hl with | [_], _ => rfl) lenx1 fun cdv A outer s H vs Q E hr hsp => by
    obtain ⟨a, rfl, m, rfl, hl, q⟩ := hsp
    refine ⟨_, (pss_cons (ps_if (PW.pt (pw_or (pt_not (pt_chain op_leI op_leI pe_int (pe_callB call_lenT (by rfl) T.n_len (by decide +kernel) (pa_cons (pv 0) pa_nil)) pe_int)) (pw_or (pt_cmpR op_neT (pe_m1 PySem.F.slot_str_strip PySem.F.type_str_strip mt_stripT (pv 0) (pe_gS T.c_FIGURES k_0123456789)) (pe_strS k_empty) (nomark _)) (pw_or1 (PW.pt (pw_and (pt_cmpR op_eqT (pe_ix ix_str (pv 0) pe_int (fun _ _ => rfl)) (pe_strS k_0) (nomark _)) (pw_and1 (pt_cmpR op_neT (pv 0) (pe_strS k_0) (nomark _))))))))) (pss_cons (L2N.ps_raise rfl (L2N.takes_of rfl rfl rfl rfl) (L2N.pmk_own PySem.F.excBase_ValueError (T.x_BadText).1 T.g_BadText (T.x_BadText).2.1 (raises_own (T.x_BadText).2.2.1 (T.x_BadText).2.2.2) rfl))
      pss_nil) pss_nil)
      (pss_cons (ps_ret (pe_callTy call_intT (by rfl) T.n_int (by decide +kernel) (pa_cons (pv 0) pa_nil)))
      pss_nil)), ?_⟩
    refine go_when (b := !numOk m) (et_is (et_or (et_not (et_test (ev_leLe ev_c (ev_lenT (ev_var rfl) (by omega)) ev_c))) fun h1 => et_or (et_is (et_test (ev_neT (ev_stripT (g := [48, 49, 50, 51, 52, 53, 54, 55, 56, 57]) (ev_var rfl) ev_c (by omega)) ev_c)) (by rw [strip_dig])) fun _ => et_and (et_test (ev_eqT (ev_ixS (n := 0) (ev_var rfl) ev_c (by omega) (by
      rw [Bool.not_eq_false', Bool.and_eq_true, decide_eq_true_eq] at h1
      omega)) ev_c)) fun _ => et_test (ev_neT (ev_var rfl) ev_c)) (num_tests m)) (fun hb => ?_) (fun hb => ?_)
    · rw [Bool.not_eq_true'] at hb
      unfold numR at q
      rw [if_neg (by rw [hb]; exact Bool.false_ne_true)] at q
      exact (show Go H (E (.ref (He.ga K "BadText")) none) from q)
    · rw [Bool.not_eq_false'] at hb
      unfold numR at q
      rw [if_pos hb] at q
      obtain ⟨g1, g2, g3, _⟩ := ok_un hb
      exact go_ret (ev_intT (ev_var rfl) (List.all_eq_true.mpr fun c hc => by
        rw [Bool.and_eq_true, decide_eq_true_eq, decide_eq_true_eq]
        exact g3 c hc) (by intro z; rw [z] at g1; cases g1) (by omega)) q
theorem sx_number {H : Hp} {m : List Nat} (hl : m.length ≤ 50000) : SpE (spNum K) [.str (S m)] H (numR K m) := fun H1 e Q E q => ⟨_, rfl, m, rfl, hl, q⟩
/-! ### read -/
def BadT (K : PySem.W.Frag) (v : V) (H : Hp) : Prop := ∃ t, TyX K H v t ∧ PySem.W.kitOne K t (.type "str") = some false
/-- a new tuple of two new lists -/
def NewP (xy : List Int × List Int) (H : Hp) (Q : VK) : Prop := ∀ (px py p : Addr) (H2 : Hp), Ex H H2 → H2 p = some (.tup [.ref px, .ref py]) → H2 px = some (.lst (xy.1.map V.int)) → H2 py = some (.lst (xy.2.map V.int)) → H px = none → H py = none → px ≠ py → Q (.ref p) H2
theorem NewP.mono {xy : List Int × List Int} {H H1 : Hp} {Q : VK} (h : NewP xy H Q) (e : Ex H H1) : NewP xy H1 Q := fun px py p H2 e2 a b c f g n => h px py p H2 (e.trans e2) a b c (fresh_back e f) (fresh_back e g) n
def spRead (K : PySem.W.Frag) : Sp := S1x fun a H Q E => (BadT K a H ∧ Go H (E (.ref (He.ga K "BadText")) none)) ∨ ∃ l : List Nat, a = .str (S l) ∧ l.length ≤ 10000 ∧ l.count 32 ≤ 900 ∧ (readR l = none → Go H (E (.ref (He.ga K "BadText")) none)) ∧ ∀ xy, readR l = some xy → NewP xy H Q
theorem go_retLL {σ : L2.St} {H : Hp} {D : Ends} {tz : TS} {ta tb : TE} {xs ys : List V} (h1 : EvL ta σ H xs) (h2 : EvL tb σ H ys)
    (k : ∀ (px py p : Addr) (H2 : Hp), Ex H H2 → H2 p = some (.tup [.ref px, .ref py]) → H2 px = some (.lst xs) → H2 py = some (.lst ys) → H px = none → H py = none → px ≠ py → D.rt (.ref p) H2) : Go H (tSeq (tRet (tTup (tCons ta (tCons tb tNil)))) tz D σ) := fun H1 e1 => h1 H1 e1 _ fun px H2 hx e2 hx2 => h2 H2 (e1.trans e2) _ fun py H3 hy e3 hy2 =>
  ⟨sz_of (by simp), fun p hp => k px py p _ (((e1.trans e2).trans e3).trans (Ex.new hp)) upd_same (Ex.new hp _ _ (e3 _ _ hx2)) (Ex.new hp _ _ hy2) (fresh_back e1 hx) (fresh_back (e1.trans e2) hy) (ne_of_none hx2 hy)⟩
theorem parts_le (l : List Nat) : (parL bar l).1.length ≤ l.length ∧ (parL bar l).2.2.length ≤ l.length ∧ (parL bar l).1.count 32 ≤ l.count 32 ∧ (parL bar l).2.2.count 32 ≤ l.count 32 := by
  unfold parL
  cases h : TL.par bar [] l with
  | none => exact ⟨Nat.le_refl _, Nat.zero_le _, Nat.le_refl _, Nat.zero_le _⟩
  | some ab =>
    have e := ((bar_cut l []).2 ab.1 ab.2 h).2
    rw [List.nil_append] at e
    show ab.1.length ≤ l.length ∧ ab.2.length ≤ l.length ∧ ab.1.count 32 ≤ l.count 32 ∧ ab.2.count 32 ≤ l.count 32
    rw [e, List.length_append, List.length_append, List.count_append, List.count_append]
    omega
theorem wsp_le : ∀ (l acc w : List Nat), w ∈ wsp acc l → w.length ≤ acc.length + l.length
  | [], acc, w, h => by
    rw [List.mem_singleton.mp h]
    exact Nat.le_refl _
  | c :: r, acc, w, h => by
    rw [wsp_cons] at h
    by_cases hc : c = 32
    · rw [if_pos hc] at h
      rcases List.mem_cons.mp h with z | z
      · rw [z]; omega
      · have := wsp_le r [] w z
        rw [List.length_cons]
        simp at this
        omega
    · rw [if_neg hc] at h
      have := wsp_le r (acc ++ [c]) w h
      rw [List.length_append] at this
      rw [List.length_cons]
      simp at this
      omega
theorem wds_le {l w : List Nat} (h : w ∈ wds l) : w.length ≤ l.length := by
  rw [show wds l = wsp [] l from spl_wsp l []] at h
  have := wsp_le l [] w h
  simp at this
  exact this
theorem read_some {l : List Nat} (h45 : l ≠ [45]) (h1 : (wds (parL bar l).1).all numOk = true) (h2 : (wds (parL bar l).2.2).all numOk = true) (h3 : weighW ((wds (parL bar l).1).map numV) ((wds (parL bar l).2.2).map numV) = true) : readR l = some ((wds (parL bar l).1).map numV, (wds (parL bar l).2.2).map numV) := by
  unfold readR
  rw [if_neg h45, h1, h2, h3] <;> rfl
theorem read_none {l : List Nat} (h45 : l ≠ [45]) (h : (wds (parL bar l).1).all numOk = false ∨ (wds (parL bar l).2.2).all numOk = false ∨ weighW ((wds (parL bar l).1).map numV) ((wds (parL bar l).2.2).map numV) = false) : readR l = none := by
  unfold readR
  rw [if_neg h45]
  rcases h with h | h | h
  · rw [h, Bool.false_and, if_neg Bool.false_ne_true]
  · rw [h, Bool.false_and, Bool.and_false, if_neg Bool.false_ne_true]
  · rw [h, Bool.and_false, Bool.and_false, if_neg Bool.false_ne_true]
theorem okx_read (T : Txt K mg) : Cal (CX2 P w) P w K mg base 5 "read" (spRead K) :=
  cal2_mk T.f_read T.g_read sc_read (fun _ _ _ _ _ _ us hl => match us, hl with | [_], _ => rfl) lenx1 fun cdv A outer s H vs Q E hr hsp => by
    obtain ⟨a, rfl, hsp⟩ := hsp
    refine ⟨_, (pss_cons (ps_if (pt_not (pt_val (pe_callB (call_isiK2 K) (by rfl) T.n_isinstance (by decide +kernel) (pa_cons (pv 0) (pa_cons (pe_gTy (n := "str") T.n_str) pa_nil))))) (pss_cons (L2N.ps_raise rfl (takesN_of2 (takes2_of rfl rfl rfl rfl)) (L2N.pmk_own PySem.F.excBase_ValueError (T.x_BadText).1 T.g_BadText (T.x_BadText).2.1 (raises_own (T.x_BadText).2.2.1 (T.x_BadText).2.2.2) rfl))
      pss_nil) pss_nil)
      (pss_cons (ps_if (pt_cmpR op_eqT (pv 0) (pe_strS k__2d_) (nomark _)) (pss_cons (ps_ret (pe_tup (pa_cons (pe_lst pa_nil) (pa_cons (pe_lst pa_nil) pa_nil))))
      pss_nil) pss_nil)
      (pss_cons (ps_asg (pe_m1 PySem.F.slot_str_partition PySem.F.type_str_partition mt_partT (pv 0) (pe_strS k__20__7c__20_)) (pg_tupK K 3 rfl (pgs_cons (pg_name (i := 1) sc_read.nd rfl (Or.inl rfl)) (pgs_cons (pg_name (i := 2) sc_read.nd rfl (Or.inl rfl)) (pgs_cons (pg_name (i := 3) sc_read.nd rfl (Or.inl rfl)) pgs_nil)))))
      (pss_cons (ps_setLcX (i := 4) (own := [("word", 5)]) rfl sc_read.nd rfl rfl (takesN_of2 (takes2_of rfl rfl rfl rfl)) rfl rfl (sw_true rfl rfl rfl (by decide +kernel)) (pi_list (pe_m1 PySem.F.slot_str_split PySem.F.type_str_split mt_splitT (pv 1) (pe_strS k__20_))) (blkOk_by (own := [("word", 5)]) (N := ["text", "first", "bar", "second", "left", "word", "right"]) (sc := defScope s_read) (by decide +kernel)) (fun _ _ _ _ _ => (pg_name (i := 5) sc_read.nd rfl (Or.inl rfl))) (fun _ _ _ _ _ _ _ hp => (pe_kxp (okx_number_in T) hr (by decide) (by rfl) hp (pa_cons (pv 5) pa_nil))))
      (pss_cons (ps_setLcX (i := 6) (own := [("word", 5)]) rfl sc_read.nd rfl rfl (takesN_of2 (takes2_of rfl rfl rfl rfl)) rfl rfl (sw_true rfl rfl rfl (by decide +kernel)) (pi_list (pe_m1 PySem.F.slot_str_split PySem.F.type_str_split mt_splitT (pv 3) (pe_strS k__20_))) (blkOk_by (own := [("word", 5)]) (N := ["text", "first", "bar", "second", "left", "word", "right"]) (sc := defScope s_read) (by decide +kernel)) (fun _ _ _ _ _ => (pg_name (i := 5) sc_read.nd rfl (Or.inl rfl))) (fun _ _ _ _ _ _ _ hp => (pe_kxp (okx_number_in T) hr (by decide) (by rfl) hp (pa_cons (pv 5) pa_nil))))
      (pss_cons (ps_try_raise2 (tb := fun W => (tSeq (tDrop (tCallS (spWrit K) (WE W) (tCons (tVar 4) (tCons (tVar 6) tNil)))) tNext)) rfl rfl rfl ⟨rfl, by decide, .inl T.g_BadWeighing⟩ (L2H.passesAt_of rfl) (takes2_of rfl rfl rfl rfl) (fun W pn xe t1 => by exact (pss_cons (ps_expr (pe_kx (okx_written T) hr (by decide) (by rfl) t1 (pa_cons (pv 4) (pa_cons (pv 6) pa_nil))))
      pss_nil)) (fun a pn => (L2N.pmk_own PySem.F.excBase_ValueError (T.x_BadText).1 T.g_BadText (T.x_BadText).2.1 (raises_own (T.x_BadText).2.2.1 (T.x_BadText).2.2.2) rfl)))
      (pss_cons (ps_ret (pe_tup (pa_cons (pv 4) (pa_cons (pv 6) pa_nil))))
      pss_nil))))))), ?_⟩
    rcases hsp with ⟨⟨t, h1, h2⟩, q⟩ | ⟨l, rfl, hl, hc, q0, q1⟩
    · exact go_when (b := true) (et_is (et_not (et_B (ev_isT (ev_var rfl) ev_c (.ty _) h1 h2))) rfl) (fun _ => (show Go H (E (.ref (He.ga K "BadText")) none) from q)) (fun h => by cases h)
    · refine go_when (b := false) (et_is (et_not (et_B (ev_isT (ev_var rfl) ev_c (.ty _) (.base (.str _)) (kit_ty (r := true) (by decide +kernel))))) rfl) (fun h => by cases h) (fun _ => ?_)
      refine go_when (et_test (ev_eqT (ev_var rfl) ev_c)) (fun h45 => ?_) (fun h45 => ?_)
      · have h45 := of_decide_eq_true h45
        have e : readR l = some ([], []) := by
          unfold readR
          rw [if_pos h45]
        have k := q1 _ e
        exact go_retLL (el_lst (vs := []) ea_nil (by simp)) (el_lst (vs := []) ea_nil (by simp)) fun px py p H2 e2 a b c f g n => k px py p H2 e2 a b c f g n
      · have h45 := of_decide_eq_false h45
        obtain ⟨pl1, pl2, pc1, pc2⟩ := parts_le l
        refine go_unpack3 (eu_partT (ev_var rfl) ev_c (by decide) (by omega)) fun pt fpt => ?_
        have ept := Ex.new (o := HO.tup [.str (S (parL bar l).1), .str (S (parL bar l).2.1), .str (S (parL bar l).2.2)]) fpt
        have q0' : readR l = none → Go (upd H pt (HO.tup [.str (S (parL bar l).1), .str (S (parL bar l).2.1), .str (S (parL bar l).2.2)])) (E (.ref (He.ga K "BadText")) none) := fun h => (q0 h).mono ept
        have q1' : ∀ xy, readR l = some xy → NewP xy (upd H pt (HO.tup [.str (S (parL bar l).1), .str (S (parL bar l).2.1), .str (S (parL bar l).2.2)])) Q := fun xy h => (q1 xy h).mono ept
        generalize upd H pt (HO.tup [.str (S (parL bar l).1), .str (S (parL bar l).2.1), .str (S (parL bar l).2.2)]) = H1 at *
        refine go_asgLcX (te := fun σ => tCallS (spNum K) (fun _ => WE _ σ) (tCons (tVar 5) tNil)) (wds (parL bar l).1) (fun y => .str (S y)) numOk (fun y => .int (numV y)) (He.ga K "BadText") [] (el_splitT (ev_var rfl) ev_c (by decide) (by decide) (by omega)) (by rw [wds_len]; omega) (fun _ => rfl) (fun y hy => evx_call (E := fun _ => E) (ea_cons (ev_var rfl) ea_nil) (sx_number (m := y) (by have := wds_le hy; omega))) (fun h1 px fx => ?_) (fun h1 => q0' (read_none h45 (.inl h1)))
        refine go_asgLcX (te := fun σ => tCallS (spNum K) (fun _ => WE _ σ) (tCons (tVar 5) tNil)) (wds (parL bar l).2.2) (fun y => .str (S y)) numOk (fun y => .int (numV y)) (He.ga K "BadText") [] (el_splitT (ev_var rfl) ev_c (by decide) (by decide) (by omega)) (by rw [wds_len]; omega) (fun _ => rfl) (fun y hy => evx_call (E := fun _ => E) (ea_cons (ev_var rfl) ea_nil) (sx_number (m := y) (by have := wds_le hy; omega))) (fun h2 py fy => ?_) (fun h2 => (q0' (read_none h45 (.inr (.inl h2)))).mono (Ex.new fx))
        have xx : (upd (upd H1 px (.lst ((wds (parL bar l).1).map fun y => .int (numV y)))) py (.lst ((wds (parL bar l).2.2).map fun y => .int (numV y)))) px = some (.lst (((wds (parL bar l).1).map numV).map V.int)) := by
          have := Ex.new (o := HO.lst ((wds (parL bar l).2.2).map fun y => V.int (numV y))) fy px _ upd_same
          rw [this, List.map_map] <;> rfl
        have yy : (upd (upd H1 px (.lst ((wds (parL bar l).1).map fun y => .int (numV y)))) py (.lst ((wds (parL bar l).2.2).map fun y => .int (numV y)))) py = some (.lst (((wds (parL bar l).2.2).map numV).map V.int)) := by
          rw [upd_same, List.map_map] <;> rfl
        have e12 := (Ex.new (o := HO.lst ((wds (parL bar l).1).map fun y => V.int (numV y))) fx).trans (Ex.new (o := HO.lst ((wds (parL bar l).2.2).map fun y => V.int (numV y))) fy)
        have fxy : px ≠ py := fun z => by rw [← z, upd_same] at fy; cases fy
        have fy1 := fresh_back (Ex.new (o := HO.lst ((wds (parL bar l).1).map fun y => V.int (numV y))) fx) fy
        have n1 : ((wds (parL bar l).1).map numV).length ≤ 1000 := by rw [List.length_map, wds_len]; omega
        have n2 : ((wds (parL bar l).2.2).map numV).length ≤ 1000 := by rw [List.length_map, wds_len]; omega
        have q0'' : readR l = none → Go (upd (upd H1 px (.lst ((wds (parL bar l).1).map fun y => .int (numV y)))) py (.lst ((wds (parL bar l).2.2).map fun y => .int (numV y)))) (E (.ref (He.ga K "BadText")) none) := fun h => (q0' h).mono e12
        generalize upd (upd H1 px (.lst ((wds (parL bar l).1).map fun y => .int (numV y)))) py (.lst ((wds (parL bar l).2.2).map fun y => .int (numV y))) = H2 at *
        refine go_tryAs0 (tb := fun W => tSeq (tDrop (tCallS (spWrit K) (WE W) (tCons (tVar 4) (tCons (tVar 6) tNil)))) tNext) (go_dropX (ea_cons (ev_var rfl) (ea_cons (ev_var rfl) ea_nil)) (sx_written xx yy n1 n2) ?_)
        unfold writR
        cases h3 : weighW ((wds (parL bar l).1).map numV) ((wds (parL bar l).2.2).map numV) with
        | true =>
          rw [if_pos rfl]
          exact go_retU (xs := [V.ref px, V.ref py]) (eu_tup (ea_cons (ev_var rfl) (ea_cons (ev_var rfl) ea_nil)) (by simp)) fun p hp H3 e3 => q1' _ (read_some h45 h1 h2 h3) px py p H3 ((e12.trans (Ex.new hp)).trans e3) (e3 _ _ upd_same) (e3 _ _ (Ex.new hp _ _ xx)) (e3 _ _ (Ex.new hp _ _ yy)) fx fy1 fxy
        | false =>
          rw [if_neg Bool.false_ne_true]
          refine (show Go H2 _ from w_meetsOnly T.e_BadWeighing_BadWeighing fun a H3 e3 => ?_)
          exact (show Go H3 (E (.ref (He.ga K "BadText")) none) from (q0'' (read_none h45 (.inr (.inr h3)))).mono e3)
end Od

namespace Od
open PySem PySem.Spec PyProof.Rows L2 SX Evl
variable {P : Program} {w : World} {K : PySem.W.Frag} {mg : Str → Option Value} {base : Heap}
theorem blkOk_in {N : List Str} {sc sc' scope : Scope} {own : List (Str × Nat)} (h : BlkOk N sc scope own) (nf : ∀ y ∈ scope.names, y.2 ≠ .free) : BlkOk N sc' scope own := ⟨h.kind, h.uniq, h.ix, fun y hy e => absurd e (nf y hy), h.own⟩
theorem pi_listK {X : Cx} {tg l : Expr} {tl : TE} (K : PySem.W.Frag) (h : PE X l tl) (hK : X.K = K := by rfl) : PI X tg l (iList K tl) := hK ▸ pi_list h
/-! ### law_number -/
def numOV (w : List Nat) : V := if numOk w = true then .int (numV w) else .non
def spNumL : Sp := S1 fun a H Q => ∃ m : List Nat, a = .str (S m) ∧ m.length ≤ 50000 ∧ Go H (Q (numOV m))
theorem num_testsL (w : List Nat) : (decide (w = []) || (decide (9 < ((w.length : Nat) : Int)) || (!w.all isDig || (decide ([w.getD 0 0] = [48]) && !decide (w = [48]))))) = !numOk w := by
  have e0 : decide (w = []) = !decide (1 ≤ w.length) := by
    cases w with
    | nil => rfl
    | cons a r => simp
  have e2 : decide (9 < ((w.length : Nat) : Int)) = !decide (w.length ≤ 9) := by
    rw [← decide_not]
    exact decide_eq_decide.mpr (by omega)
  have e3 : decide ([w.getD 0 0] = [48]) = decide (w.getD 0 0 = 48) := decide_eq_decide.mpr ⟨fun h => (List.cons.inj h).1, fun h => by rw [h]⟩
  rw [e0, e2, e3]
  unfold numOk
  cases decide (1 ≤ w.length) <;> cases decide (w.length ≤ 9) <;> cases w.all isDig <;> cases decide (w.getD 0 0 = 48) <;> cases decide (w = [48]) <;> rfl
theorem ok_law_number (T : Txt K mg) : Cal CX0 P w K mg base 1 "_law_number" spNumL :=
  cal_mk T.f_law_number T.g_law_number sc_law_number (fun _ _ _ _ _ _ us hl => match us, hl with | [_], _ => rfl) len1 fun cdv A outer s H vs Q E hr hsp => by
    obtain ⟨a, rfl, m, rfl, hl, q⟩ := hsp
    refine ⟨_, (pss_cons (ps_if (PW.pt (pw_or (pt_cmpR op_eqT (pv 0) (pe_strS k_empty) (nomark _)) (pw_or (pt_cmpR op_gtI (pe_callB call_lenT (by rfl) T.n_len (by decide +kernel) (pa_cons (pv 0) pa_nil)) pe_int (nomark _)) (pw_or (pt_cmpR op_neT (pe_m1 PySem.F.slot_str_strip PySem.F.type_str_strip mt_stripT (pv 0) (pe_strS k_0123456789)) (pe_strS k_empty) (nomark _)) (pw_or1 (PW.pt (pw_and (pt_cmpR op_eqT (pe_ix ix_str (pv 0) pe_int (fun _ _ => rfl)) (pe_strS k_0) (nomark _)) (pw_and1 (pt_cmpR op_neT (pv 0) (pe_strS k_0) (nomark _)))))))))) (pss_cons (ps_ret pe_non)
      pss_nil) pss_nil)
      (pss_cons (ps_ret (pe_callTy call_intT (by rfl) T.n_int (by decide +kernel) (pa_cons (pv 0) pa_nil)))
      pss_nil)), ?_⟩
    unfold numOV at q
    refine go_when (b := !numOk m) (et_is (et_or (et_test (ev_eqT (ev_var rfl) ev_c)) fun h1 => et_or (et_test (ev_gtI (ev_lenT (ev_var rfl) (by omega)) ev_c)) fun _ => et_or (et_is (et_test (ev_neT (ev_stripT (g := [48, 49, 50, 51, 52, 53, 54, 55, 56, 57]) (ev_var rfl) ev_c (by omega)) ev_c)) (by rw [strip_dig])) fun _ => et_and (et_test (ev_eqT (ev_ixS (n := 0) (ev_var rfl) ev_c (by omega) (by
      have h2 := of_decide_eq_false h1
      cases m with
      | nil => exact absurd rfl h2
      | cons a r => simp)) ev_c)) fun _ => et_test (ev_neT (ev_var rfl) ev_c)) (num_testsL m)) (fun hb => ?_) (fun hb => ?_)
    · rw [Bool.not_eq_true'] at hb
      rw [if_neg (by rw [hb]; exact Bool.false_ne_true)] at q
      exact go_ret ev_c q
    · rw [Bool.not_eq_false'] at hb
      rw [if_pos hb] at q
      obtain ⟨g1, g2, g3, _⟩ := ok_un hb
      exact go_ret (ev_intT (ev_var rfl) (List.all_eq_true.mpr fun c hc => by
        rw [Bool.and_eq_true, decide_eq_true_eq, decide_eq_true_eq]
        exact g3 c hc) (by intro z; rw [z] at g1; cases g1) (by omega)) q
theorem sv_numL {H : Hp} {m : List Nat} (hl : m.length ≤ 50000) : SpV spNumL [.str (S m)] H (numOV m) := sv1 fun H1 e Q q => ⟨m, rfl, hl, q⟩
/-! ### law_in -/
theorem lt_perm {xs zs : List Int} (h1 : xs.Pairwise (· < ·)) (h2 : zs.Pairwise (· < ·)) (hm : ∀ k, k ∈ zs ↔ k ∈ xs) : xs = zs :=
  List.Perm.eq_of_pairwise (fun a b _ _ q1 q2 => by have h3 : a < b := q1; have h4 : b < a := q2; omega) h1 h2 ((List.perm_ext_iff_of_nodup (lt_nodup h1) (lt_nodup h2)).mpr fun k => (hm k).symm)
theorem ev_neSS {σ : L2.St} {H : Hp} {ta tb : TE} {p : Addr} {ns : List Int} {w : World} (ha : Ev ta σ H (.ref p)) (hb : Ev tb σ H (.ref p)) (hx : SqL K H p (ns.map V.int)) (hn : ns.length ≤ 1000) :
    Ev (tOp (rNeD K) ta (tCB (rSortedS w) (tCons (tCB (rSetI K w) (tCons tb tNil)) tNil))) σ H (.bl (!decide (ns.Pairwise (· < ·)))) := fun H1 e Q q =>
  ha H1 e _ fun H2 e2 => hb H2 (e.trans e2) _ fun H3 e3 => ⟨p, ns, rfl, ex_l ((e.trans e2).trans e3) hx, hn, fun a c hf hc => ⟨a, _, c, rfl, upd_same, by omega, fun zs z lt1 mem1 hz => by
    have x1 : Ex H3 (upd H3 a (SetO w a (fun j => decide (j ∈ ns)) c)) := Ex.new hf
    have x2 : Ex (upd H3 a (SetO w a (fun j => decide (j ∈ ns)) c)) (upd (upd H3 a (SetO w a (fun j => decide (j ∈ ns)) c)) z (.lst (zs.map V.int))) := Ex.new hz
    have eq1 : decide (ns = zs) = decide (ns.Pairwise (· < ·)) := decide_eq_decide.mpr ⟨fun h => by rw [h]; exact lt1, fun h => lt_perm h lt1 fun k => (mem1 k).trans (by rw [decide_eq_true_eq])⟩
    refine rv_neD (K := K) (xs := ns) (ys := zs) (ex_l ((((e.trans e2).trans e3).trans x1).trans x2) hx) (sq_of upd_same) _ (Ex.refl _) Q fun H4 e4 => ?_
    rw [eq1]
    exact q H4 ((((e2.trans e3).trans x1).trans x2).trans e4)⟩⟩
theorem ev_inN {σ : L2.St} {H : Hp} {ta tb : TE} {x : V} {xs : List V} {neg : Bool} (ha : Ev ta σ H x) (hb : EvL tb σ H xs) (hx : flatV x = true) (hf : xs.all flatV = true) : Ev (tOp (rIn K neg) ta tb) σ H (.bl (if neg then !inV x xs else inV x xs)) := ev_opL ha hb fun p H1 hp e => rv_inL (sq_of hp) hx hf
theorem er_if {σ : L2.St} {H : Hp} {t : TT} {ta tb : TE} {R : V → Hp → Prop} {b : Bool} (h : EvT t σ H b) (h1 : b = true → EvR ta σ H R) (h2 : b = false → EvR tb σ H R) : EvR (tIf t ta tb) σ H R := fun H1 e Q q => h H1 e _ fun H2 e2 => by
  cases b with
  | true => rw [if_pos rfl]; exact h1 rfl H2 (e.trans e2) Q fun v H3 e3 r => q v H3 (e2.trans e3) r
  | false => rw [if_neg Bool.false_ne_true]; exact h2 rfl H2 (e.trans e2) Q fun v H3 e3 r => q v H3 (e2.trans e3) r
def Pair5 (H : Hp) (v : V) (xy : List Int × List Int) : Prop := ∃ p p1 p2, v = .ref p ∧ H p = some (.tup [.ref p1, .ref p2]) ∧ H p1 = some (.lst (xy.1.map V.int)) ∧ H p2 = some (.lst (xy.2.map V.int))
def RIn (l : List Nat) (v : V) (H : Hp) : Prop := (readR l = none ∧ v = .non) ∨ ∃ xy, readR l = some xy ∧ Pair5 H v xy
def spLawIn : Sp := S1 fun a H Q => ∃ l : List Nat, a = .str (S l) ∧ l.length ≤ 10000 ∧ l.count 32 ≤ 900 ∧ ∀ v H2, Ex H H2 → RIn l v H2 → Q v H2
theorem none_in (xs : List (List Nat)) : inV .non (xs.map numOV) = !xs.all numOk := by
  unfold inV
  rw [List.any_map]
  induction xs with
  | nil => rfl
  | cons a r ih =>
    have h : eqV (numOV a) .non = !numOk a := by
      unfold numOV
      cases numOk a <;> rfl
    rw [List.any_cons, List.all_cons, ih]
    show (eqV (numOV a) .non || !r.all numOk) = _
    rw [h, Bool.not_and]
theorem flat_nums (xs : List (List Nat)) : (xs.map numOV).all flatV = true := by
  rw [List.all_eq_true]
  intro x hx
  obtain ⟨y, _, rfl⟩ := List.mem_map.mp hx
  unfold numOV
  split <;> rfl
theorem nums_ints {xs : List (List Nat)} (h : xs.all numOk = true) : xs.map numOV = (xs.map numV).map V.int := by
  rw [List.map_map]
  refine List.map_congr_left fun y hy => ?_
  unfold numOV
  rw [if_pos (List.all_eq_true.mp h y hy)] <;> rfl
theorem nums_bounds {xs ys : List (List Nat)} (h1 : xs.all numOk = true) (h2 : ys.all numOk = true) : ∀ i ∈ xs.map numV ++ ys.map numV, 0 ≤ i ∧ i < 1000000000 := fun i hi => by
  rcases List.mem_append.mp hi with z | z
  · obtain ⟨y, hy, rfl⟩ := List.mem_map.mp z
    exact (num_ok (List.all_eq_true.mp h1 y hy)).2
  · obtain ⟨y, hy, rfl⟩ := List.mem_map.mp z
    exact (num_ok (List.all_eq_true.mp h2 y hy)).2
theorem er_tupP {σ : L2.St} {H : Hp} {te : TE} {xs : List V} {R : V → Hp → Prop} (h : EvU te σ H xs) (r : ∀ p H1, Ex H H1 → H1 p = some (.tup xs) → R (.ref p) H1) : EvR te σ H R := fun H1 e Q q => h H1 e _ fun p H2 hp e2 h2 => q (.ref p) H2 e2 (r p H2 (e.trans e2) h2)
theorem ok_law_in (T : Txt K mg) : Cal CX0 P w K mg base 3 "_law_in" spLawIn :=
  cal_mk T.f_law_in T.g_law_in sc_law_in (fun _ _ _ _ _ _ us hl => match us, hl with | [_], _ => rfl) len1 fun cdv A outer s H vs Q E hr hsp => by
    obtain ⟨a, rfl, l, rfl, hl, hc, q⟩ := hsp
    refine ⟨_, (pss_cons (ps_if (pt_cmpR op_eqT (pv 0) (pe_strS k__2d_) (nomark _)) (pss_cons (ps_ret (pe_tup (pa_cons (pe_lst pa_nil) (pa_cons (pe_lst pa_nil) pa_nil))))
      pss_nil) pss_nil)
      (pss_cons (ps_set (i := 1) sc_law_in.nd rfl (Or.inl rfl) (pe_m1 PySem.F.slot_str_split PySem.F.type_str_split mt_splitT (pv 0) (pe_strS k__20__7c__20_)))
      (pss_cons (ps_if (pt_cmpR op_neI (pe_callB (call_lenQK K) (by rfl) T.n_len (by decide +kernel) (pa_cons (pv 1) pa_nil)) pe_int (nomark _)) (pss_cons (ps_ret pe_non)
      pss_nil) pss_nil)
      (pss_cons (ps_set (i := 2) sc_law_in.nd rfl (Or.inr rfl) (pe_lc (own := [("_law_side", 3)]) rfl sc_law_in.nd (pi_list (pv 1)) (blkOk_by (own := [("_law_side", 3)]) (N := ["_law_text", "_law_sides", "_law_found", "_law_side", "_law_word", "_law_coin"]) (sc := defScope s_law_in) (by decide +kernel)) (fun _ _ _ _ _ => (pg_name (i := 3) sc_law_in.nd rfl (Or.inl rfl))) (fun _ _ _ _ _ => pts_nil) (fun _ _ _ _ _ => (pe_lc (own := [("_law_word", 4)]) rfl sc_law_in.nd (pi_listK K (pe_m1 PySem.F.slot_str_split PySem.F.type_str_split mt_splitT (pv 3) (pe_strS k__20_))) (blkOk_in (blkOk_by (own := [("_law_word", 4)]) (N := ["_law_text", "_law_sides", "_law_found", "_law_side", "_law_word", "_law_coin"]) (sc := defScope s_law_in) (by decide +kernel)) (by decide +kernel)) (fun _ _ _ _ _ => (pg_name (i := 4) sc_law_in.nd rfl (Or.inl rfl))) (fun _ _ _ _ _ => pts_nil) (fun _ _ _ _ _ => (pe_k (ok_law_number T) hr (by decide) (by rfl) (pa_cons (pv 4) pa_nil)))))))
      (pss_cons (ps_if (PW.pt (pw_or (pt_cmpR (op_inK K) pe_non (pe_op op_cat (pe_ix (ix_listK K) (pv 2) pe_int (fun _ _ => rfl)) (pe_ix (ix_listK K) (pv 2) pe_int (fun _ _ => rfl))) rfl) (pw_or1 (pt_cmpR op_neI (pe_callB (call_lenQK K) (by rfl) T.n_len (by decide +kernel) (pa_cons (pe_ix (ix_listK K) (pv 2) pe_int (fun _ _ => rfl)) pa_nil)) (pe_callB (call_lenQK K) (by rfl) T.n_len (by decide +kernel) (pa_cons (pe_ix (ix_listK K) (pv 2) pe_int (fun _ _ => rfl)) pa_nil)) (nomark _))))) (pss_cons (ps_ret pe_non)
      pss_nil) pss_nil)
      (pss_cons (ps_for PassesOwn.never rfl (pi_list (pv 2)) (pg_name (i := 3) sc_law_in.nd rfl (Or.inl rfl)) (pss_cons (ps_if (pt_cmpR (op_neDK K hr.units) (pv 3) (pe_callB (cr_sortedS rfl) (by rfl) T.n_sorted (by decide +kernel) (pa_cons (pe_callTy (call_setI rfl) (by rfl) T.n_set (by decide +kernel) (pa_cons (pv 3) pa_nil)) pa_nil)) (nomark _)) (pss_cons (ps_ret pe_non)
      pss_nil) pss_nil)
      pss_nil))
      (pss_cons (ps_ret (pe_ifExp (pt_val (pe_callB (cr_anyK K rfl) (by rfl) T.n_any (by decide +kernel) (pa_cons (pe_lc (own := [("_law_coin", 5)]) rfl sc_law_in.nd (pi_list (pe_ix (ix_listK K) (pv 2) pe_int (fun _ _ => rfl))) (blkOk_by (own := [("_law_coin", 5)]) (N := ["_law_text", "_law_sides", "_law_found", "_law_side", "_law_word", "_law_coin"]) (sc := defScope s_law_in) (by decide +kernel)) (fun _ _ _ _ _ => (pg_name (i := 5) sc_law_in.nd rfl (Or.inl rfl))) (fun _ _ _ _ _ => pts_nil) (fun _ _ _ _ _ => (pe_cmpR (op_inK K) (pv 5) (pe_ix (ix_listK K) (pv 2) pe_int (fun _ _ => rfl)) rfl))) pa_nil))) pe_non (pe_tup (pa_cons (pe_ix (ix_listK K) (pv 2) pe_int (fun _ _ => rfl)) (pa_cons (pe_ix (ix_listK K) (pv 2) pe_int (fun _ _ => rfl)) pa_nil)))))
      pss_nil))))))), ?_⟩
    refine go_when (et_test (ev_eqT (ev_var rfl) ev_c)) (fun h45 => ?_) (fun h45 => ?_)
    · have h45 := of_decide_eq_true h45
      have e : readR l = some ([], []) := by
        unfold readR
        rw [if_pos h45]
      exact go_retLL (el_lst (vs := []) ea_nil (by simp)) (el_lst (vs := []) ea_nil (by simp)) fun px py p H2 e2 a b c f g n => q _ H2 e2 (.inr ⟨_, e, p, px, py, rfl, a, b, c⟩)
    · have h45 := of_decide_eq_false h45
      refine go_asgL (el_splitT (ev_var rfl) ev_c (by decide) (by decide) (by omega)) fun ps fps => ?_
      have e1 := Ex.new (o := HO.lst ((TL.spl bar 0 [] l).map fun y => V.str (S y))) fps
      have hs : upd H ps (HO.lst ((TL.spl bar 0 [] l).map fun y => V.str (S y))) ps = some (.lst ((TL.spl bar 0 [] l).map fun y => V.str (S y))) := upd_same
      have q' : ∀ v H2, Ex (upd H ps (HO.lst ((TL.spl bar 0 [] l).map fun y => V.str (S y)))) H2 → RIn l v H2 → Q v H2 := fun v H2 e2 r => q v H2 (e1.trans e2) r
      generalize upd H ps (HO.lst ((TL.spl bar 0 [] l).map fun y => V.str (S y))) = H1 at *
      rcases read_sides h45 with ⟨a, b, e2, e3, e4⟩ | ⟨n2, z⟩
      · rw [e2] at hs
        refine go_when (b := false) (et_is (et_test (ev_neI (ev_lenQ (ev_var rfl) (sq_of hs)) ev_c)) rfl) (fun h => by cases h) (fun _ => ?_)
        have la : a.length ≤ l.length ∧ b.length ≤ l.length ∧ a.count 32 ≤ l.count 32 ∧ b.count 32 ≤ l.count 32 := by
          rw [e4]
          simp only [List.length_append, List.count_append]
          omega
        have wl : ∀ s ∈ [a, b], s.length ≤ 10000 ∧ s.count 32 ≤ 900 := fun s hs => by
          rcases List.mem_cons.mp hs with z | z
          · rw [z]; omega
          · rw [List.mem_singleton.mp z]; omega
        refine go_asgR (er_lists [a, b] (fun y => .str (S y)) (fun s => (wds s).map numOV) (ev_var rfl) (sq_of hs) (by simp) (fun _ => rfl) (fun s hs => el_mapN (wds s) (fun y => .str (S y)) numOV [] (el_splitT (ev_var rfl) ev_c (by decide) (by decide) (by have := wl s hs; omega)) (by rw [wds_len]; have := wl s hs; omega) (fun _ => rfl) fun y hy => ev_call0 (ea_cons (ev_var rfl) ea_nil) (sv_numL (by have h1 := wds_le hy; have := wl s hs; omega)))) fun v H2 e2' hv => ?_
        obtain ⟨pf, qs, rfl, hf, hq, hqs⟩ := hv
        obtain ⟨qa, qb, rfl⟩ : ∃ qa qb : Addr, qs = [qa, qb] := by
          match qs, hq with
          | [x, y], _ => exact ⟨x, y, rfl⟩
        have za := hqs 0 qa a rfl rfl
        have zb := hqs 1 qb b rfl rfl
        have rn : ∀ {Hz : Hp}, readR l = none → Ex H1 Hz → Go Hz (Q .non) := fun hn ez H3 e3 => q' _ H3 (ez.trans e3) (.inl ⟨hn, rfl⟩)
        refine go_when (b := !((wds a).all numOk && (wds b).all numOk) || !decide ((wds a).length = (wds b).length)) (et_is (et_or (et_test (ev_inN (neg := false) ev_c (el_cat (ev_ixL (n := 0) (ev_var rfl) ev_c (sq_of hf) rfl) (ev_ixL (n := 1) (ev_var rfl) ev_c (sq_of hf) rfl) za zb (by rw [List.length_map, List.length_map, wds_len, wds_len]; omega)) rfl (by rw [List.all_append, flat_nums, flat_nums] <;> rfl)))
          fun _ => et_test (ev_neI (ev_lenQ (ev_ixL (n := 0) (ev_var rfl) ev_c (sq_of hf) rfl) (sq_of za)) (ev_lenQ (ev_ixL (n := 1) (ev_var rfl) ev_c (sq_of hf) rfl) (sq_of zb)))) ?_) (fun hb => ?_) (fun hb => ?_)
        · rw [← List.map_append, none_in, List.all_append, List.length_map, List.length_map]
          congr 2
          exact decide_eq_decide.mpr (by omega)
        · refine go_ret ev_c (rn (read_none h45 ?_) e2')
          rw [e3]
          show (wds a).all numOk = false ∨ (wds b).all numOk = false ∨ weighW ((wds a).map numV) ((wds b).map numV) = false
          cases ha : (wds a).all numOk with
          | false => exact .inl rfl
          | true =>
            cases hb2 : (wds b).all numOk with
            | false => exact .inr (.inl rfl)
            | true =>
              refine .inr (.inr ?_)
              rw [ha, hb2] at hb
              have ne : ¬ (wds a).length = (wds b).length := by simpa using hb
              rw [weighW_says (nums_bounds ha hb2), List.length_map, List.length_map, decide_eq_false ne]
              simp
        · rw [Bool.or_eq_false_iff, Bool.not_eq_false', Bool.not_eq_false', Bool.and_eq_true, decide_eq_true_eq] at hb
          obtain ⟨⟨ha, hb2⟩, hlen⟩ := hb
          rw [nums_ints ha] at za
          rw [nums_ints hb2] at zb
          have bd := nums_bounds ha hb2
          have lx : ((wds a).map numV).length = ((wds b).map numV).length := by rw [List.length_map, List.length_map, hlen]
          have l1 : ((wds a).map numV).length ≤ 1000 := by rw [List.length_map, wds_len]; omega
          have rs := read_some (l := l) h45 (by rw [e3]; exact ha) (by rw [e3]; exact hb2)
          have rz := fun h => read_none (l := l) h45 (.inr (.inr h))
          rw [e3] at rs rz
          have rs' : weighW ((wds a).map numV) ((wds b).map numV) = true → readR l = some ((wds a).map numV, (wds b).map numV) := rs
          have rz' : weighW ((wds a).map numV) ((wds b).map numV) = false → readR l = none := rz
          rw [weighW_says bd] at rs' rz'
          clear rs rz
          generalize (wds a).map numV = x at *
          generalize (wds b).map numV = y at *
          rw [decide_eq_true lx, Bool.true_and] at rs' rz'
          refine go_forL (xs := [.ref qa, .ref qb]) (fun i σ Hk => (∃ u3 u4 u5, σ = [some (.str (S l)), some (.ref ps), some (.ref pf), u3, u4, u5]) ∧ Ex H2 Hk ∧ (1 ≤ i → x.Pairwise (· < ·)) ∧ (2 ≤ i → y.Pairwise (· < ·))) (ev_var rfl) (sq_of hf) ⟨⟨_, _, _, rfl⟩, Ex.refl _, (fun h => by omega), (fun h => by omega)⟩ (fun i σ' Hk h => ex_l h.2.1 (sq_of hf)) ?_ ?_
          · rintro i v σ' Hk hi ⟨⟨u3, u4, u5, rfl⟩, ek, g1, g2⟩
            have hi2 : i < 2 := (List.getElem?_eq_some_iff.mp hi).1
            have cs : i = 0 ∨ i = 1 := by omega
            obtain ⟨ns, pn, rfl, hn, ln, k1, k2, k3⟩ : ∃ (ns : List Int) (pn : Addr), v = .ref pn ∧ SqL K Hk pn (ns.map V.int) ∧ ns.length ≤ 1000 ∧ (¬ ns.Pairwise (· < ·) → readR l = none) ∧ (ns.Pairwise (· < ·) → 1 ≤ i + 1 → x.Pairwise (· < ·)) ∧ (ns.Pairwise (· < ·) → 2 ≤ i + 1 → y.Pairwise (· < ·)) := by
              rcases cs with e | e
              · subst e
                exact ⟨x, qa, (Option.some.inj hi).symm, sq_of (ek _ _ za), l1, (fun h => rz' (by rw [decide_eq_false h] <;> rfl)), (fun h _ => h), (fun _ h => by omega)⟩
              · subst e
                exact ⟨y, qb, (Option.some.inj hi).symm, sq_of (ek _ _ zb), by omega, (fun h => rz' (by rw [decide_eq_false h]; simp)), (fun _ _ => g1 (by omega)), (fun h _ => h)⟩
            refine go_when (et_test (ev_neSS (ev_var rfl) (ev_var rfl) hn ln)) (fun h => ?_) (fun h => ?_)
            · rw [Bool.not_eq_true'] at h
              exact go_ret ev_c (rn (k1 (of_decide_eq_false h)) (e2'.trans ek))
            · rw [Bool.not_eq_false'] at h
              exact go_next (go_up rfl ⟨⟨_, _, _, rfl⟩, ek, k2 (of_decide_eq_true h), k3 (of_decide_eq_true h)⟩)
          · rintro σ' Hk ⟨⟨u3, u4, u5, rfl⟩, ek, g1, g2⟩
            have p1 := g1 (by show 1 ≤ 2; decide)
            have p2 := g2 (by show 2 ≤ 2; decide)
            rw [decide_eq_true p1, decide_eq_true p2, Bool.true_and, Bool.true_and] at rs' rz'
            have hfk := ek _ _ hf
            refine go_retR (R := RIn l) (er_if (b := x.any fun i => decide (i ∈ y)) (et_B (ev_is (ev_anyN (bs := x.map fun i => decide (i ∈ y)) ?_) (by rw [List.any_map] <;> rfl))) (fun h => er_ev ev_c fun H1 e => .inl ⟨rz' (by rw [h] <;> rfl), rfl⟩) (fun h => ?_)) fun v H3 e3 r => q' v H3 ((e2'.trans ek).trans e3) r
            · rw [List.map_map]
              exact el_mapL x V.int (fun i => .bl (decide (i ∈ y))) 0 (ev_ixL (n := 0) (ev_var rfl) ev_c (sq_of hfk) rfl) (sq_of (ek _ _ za)) (by omega) (fun _ => rfl) fun i hi => ev_is (ev_in (neg := false) (ev_var rfl) (ev_ixL (n := 1) (ev_var rfl) ev_c (sq_of hfk) rfl) (sq_of (ek _ _ zb)) rfl (all_flat y)) (by rw [if_neg Bool.false_ne_true, inV_ints])
            · refine er_tupP (eu_tup (ea_cons (ev_ixL (n := 0) (ev_var rfl) ev_c (sq_of hfk) rfl) (ea_cons (ev_ixL (n := 1) (ev_var rfl) ev_c (sq_of hfk) rfl) ea_nil)) (by simp)) fun p H3 e3 hp => .inr ⟨(x, y), rs' (by rw [h] <;> rfl), p, qa, qb, rfl, hp, e3 _ _ (ek _ _ za), e3 _ _ (ek _ _ zb)⟩
      · refine go_when (b := true) (et_is (et_test (ev_neI (ev_lenQ (ev_var rfl) (sq_of hs)) ev_c)) ?_) (fun _ => go_ret ev_c fun H3 e3 => q' _ H3 e3 (.inl ⟨z, rfl⟩)) (fun h => by cases h)
        rw [List.length_map, decide_eq_false (by omega)] <;> rfl
end Od

namespace Od
open PySem PySem.Spec PyProof.Rows L2 SX Evl
variable {P : Program} {w : World} {K : PySem.W.Frag} {mg : Str → Option Value} {base : Heap}
/-! ### law_refused -/
theorem sx_read_bad {H : Hp} {v : V} (h : BadT K v H ∨ ∃ l : List Nat, v = .str (S l) ∧ l.length ≤ 10000 ∧ l.count 32 ≤ 900 ∧ readR l = none) : SpE (spRead K) [v] H (.exc (He.ga K "BadText")) := fun H1 e Q E q => by
  refine ⟨v, rfl, ?_⟩
  rcases h with ⟨t, h1, h2⟩ | ⟨l, rfl, hl, hc, hn⟩
  · exact .inl ⟨⟨t, tyx_mono e h1, h2⟩, q⟩
  · exact .inr ⟨l, rfl, hl, hc, (fun _ => q), fun xy hx => by rw [hn] at hx; cases hx⟩
theorem ev_anyQ {σ : L2.St} {H : Hp} {ta : TE} {p : Addr} {bs : List Bool} (ha : Ev ta σ H (.ref p)) (h : SqL K H p (bs.map V.bl)) : Ev (tCB (rAny K) (tCons ta tNil)) σ H (.bl (bs.any _root_.id)) := fun H1 e Q q => ha H1 e _ fun H2 e2 => ⟨p, bs, rfl, ex_l (e.trans e2) h, q H2 e2⟩
def spRefused (K : PySem.W.Frag) : Sp := S1 fun a H Q => (BadT K a H ∨ ∃ l : List Nat, a = .str (S l) ∧ l.length ≤ 10000 ∧ l.count 32 ≤ 900 ∧ readR l = none) ∧ Go H (Q (.bl true))
theorem ok_law_refused (T : Txt K mg) : Cal CX0 P w K mg base 6 "_law_refused" (spRefused K) :=
  cal_mk T.f_law_refused T.g_law_refused sc_law_refused (fun _ _ _ _ _ _ us hl => match us, hl with | [_], _ => rfl) len1 fun cdv A outer s H vs Q E hr hsp => by
    obtain ⟨a, rfl, hb, q⟩ := hsp
    refine ⟨_, (pss_cons (ps_try_as2 (i := 1) (tb := fun W => (tSeq (tDrop (tCallS (spRead K) (WE W) (tCons (tVar 0) tNil))) tNext)) (ts := fun a cls d => (tSeq (tAsg (tLst (tCons (tCB (rIsX K a cls d) (tCons (tVar 1) (tCons (tC (.ref (He.ga K "BadCoin"))) tNil))) (tCons (tCB (rIsX K a cls d) (tCons (tVar 1) (tCons (tC (.ref (He.ga K "BadMarks"))) tNil))) (tCons (tCB (rIsX K a cls d) (tCons (tVar 1) (tCons (tC (.ref (He.ga K "BadOutcome"))) tNil))) tNil)))) (gName 2)) (tSeq (tAsg (tOp rCat (tVar 2) (tLst (tCons (tCB (rIsX K a cls d) (tCons (tVar 1) (tCons (tC (.ref (He.ga K "BadWeighing"))) tNil))) (tCons (tCB (rIsX K a cls d) (tCons (tVar 1) (tCons (tC (.ref (He.ga K "Never"))) tNil))) (tCons (tNotV (tCB (rIsX K a cls d) (tCons (tVar 1) (tCons (tC (.ty "ValueError")) tNil)))) tNil))))) (gName 2)) (tSeq (tRet (tAndV (tCB (rIsX K a cls d) (tCons (tVar 1) (tCons (tC (.ref (He.ga K "BadText"))) tNil))) (tNotV (tCB (rAny K) (tCons (tVar 2) tNil))))) tNext)))) rfl rfl sc_law_refused.nd rfl rfl ⟨rfl, by decide, .inl T.g_CoinError⟩ (fun W pn xe tk => by exact (pss_cons (ps_expr (pe_k2p (okx_read T) hr (by decide) (by rfl) (passAt2 tk) (pa_cons (pv 0) pa_nil)))
      pss_nil)) (fun a oe cls d pn k hz hf cp => by exact (pss_cons (ps_set (i := 2) sc_law_refused.nd rfl (Or.inl rfl) (pe_lst (pa_cons (pe_callB (call_isX2 K hz hf) (by rfl) T.n_isinstance (by decide +kernel) (pa_cons (pv 1) (pa_cons (pe_gR T.g_BadCoin) pa_nil))) (pa_cons (pe_callB (call_isX2 K hz hf) (by rfl) T.n_isinstance (by decide +kernel) (pa_cons (pv 1) (pa_cons (pe_gR T.g_BadMarks) pa_nil))) (pa_cons (pe_callB (call_isX2 K hz hf) (by rfl) T.n_isinstance (by decide +kernel) (pa_cons (pv 1) (pa_cons (pe_gR T.g_BadOutcome) pa_nil))) pa_nil)))))
      (pss_cons (ps_set (i := 2) sc_law_refused.nd rfl (Or.inl rfl) (pe_op op_cat (pv 2) (pe_lst (pa_cons (pe_callB (call_isX2 K hz hf) (by rfl) T.n_isinstance (by decide +kernel) (pa_cons (pv 1) (pa_cons (pe_gR T.g_BadWeighing) pa_nil))) (pa_cons (pe_callB (call_isX2 K hz hf) (by rfl) T.n_isinstance (by decide +kernel) (pa_cons (pv 1) (pa_cons (pe_gR T.g_Never) pa_nil))) (pa_cons (pe_not (pe_callB (call_isX2 K hz hf) (by rfl) T.n_isinstance (by decide +kernel) (pa_cons (pv 1) (pa_cons (pe_gTy (n := "ValueError") T.n_ValueError) pa_nil)))) pa_nil))))))
      (pss_cons (ps_ret (pe_and (pe_callB (call_isX2 K hz hf) (by rfl) T.n_isinstance (by decide +kernel) (pa_cons (pv 1) (pa_cons (pe_gR T.g_BadText) pa_nil))) (pe_one (pe_not (pe_callB (cr_anyH2 K (hotC2_of hz hf cp)) (by rfl) T.n_any (by decide +kernel) (pa_cons (pv 2) pa_nil))))))
      pss_nil)))))
      (pss_cons (ps_ret pe_bl)
      pss_nil)), ?_⟩
    refine go_tryAs0 (tb := fun W => tSeq (tDrop (tCallS (spRead K) (WE W) (tCons (tVar 0) tNil))) tNext) (go_dropX (r := .exc (He.ga K "BadText")) (ea_cons (ev_var rfl) ea_nil) (sx_read_bad hb) ?_)
    refine (show Go H _ from w_hits T.e_BadText_CoinError fun a H1 e1 ha => ?_)
    have C := T.ec_BadText
    refine go_asgL (xs := [false, false, false].map V.bl) (el_lst (ea_cons (ev_isX (ev_var rfl) ev_c (.own _) C T.t_BadText_BadCoin) (ea_cons (ev_isX (ev_var rfl) ev_c (.own _) C T.t_BadText_BadMarks) (ea_cons (ev_isX (ev_var rfl) ev_c (.own _) C T.t_BadText_BadOutcome) ea_nil))) (by simp)) fun p hp => ?_
    refine go_asgL (xs := [false, false, false, false, false, false].map V.bl) (el_catN (xs := [false, false, false].map V.bl) (ys := [false, false, false].map V.bl) (ev_var rfl) (el_lst (ea_cons (ev_isX (ev_var rfl) ev_c (.own _) C T.t_BadText_BadWeighing) (ea_cons (ev_isX (ev_var rfl) ev_c (.own _) C T.t_BadText_Never) (ea_cons (ev_notV (ev_isX (ev_var rfl) ev_c (.ty _) C T.t_BadText_ValueError)) ea_nil))) (by simp)) upd_same (by decide)) fun p2 hp2 => ?_
    exact go_ret (v := .bl true) (ev_is (ev_andV (ev_isX (ev_var rfl) ev_c (.own _) C T.t_BadText_BadText) fun _ => ev_notV (ev_anyQ (bs := [false, false, false, false, false, false]) (ev_var rfl) (sq_of upd_same))) rfl) (q.mono ((e1.trans (Ex.new hp)).trans (Ex.new hp2)))
theorem sv_refused {H : Hp} {v : V} (h : BadT K v H ∨ ∃ l : List Nat, v = .str (S l) ∧ l.length ≤ 10000 ∧ l.count 32 ≤ 900 ∧ readR l = none) : SpV (spRefused K) [v] H (.bl true) := sv1 fun H1 e Q q => ⟨h.imp (fun ⟨t, a, b⟩ => ⟨t, tyx_mono e a, b⟩) _root_.id, q⟩
/-! ### law_right -/
/-- two new lists in a new tuple, new from H on -/
def PairN (H : Hp) (xy : List Int × List Int) (v : V) (H2 : Hp) : Prop := ∃ px py p, v = .ref p ∧ H2 p = some (.tup [.ref px, .ref py]) ∧ H2 px = some (.lst (xy.1.map V.int)) ∧ H2 py = some (.lst (xy.2.map V.int)) ∧ H px = none ∧ H py = none ∧ px ≠ py
theorem er_read {σ : L2.St} {H : Hp} {ta : TA} {l : List Nat} {xy : List Int × List Int} {E : L2.St → XK} (h : EvA ta σ H [.str (S l)]) (hl : l.length ≤ 10000) (hc : l.count 32 ≤ 900) (hr : readR l = some xy) : EvR (tCallS (spRead K) E ta) σ H (PairN H xy) :=
  er_callX h fun H1 e1 Q E q => ⟨_, rfl, .inr ⟨l, rfl, hl, hc, (fun hn => by rw [hr] at hn; cases hn), fun xy' hx px py p H2 e2 a b c f g n => by
    rw [hr] at hx
    cases hx
    exact q _ H2 e2 ⟨px, py, p, rfl, a, b, c, fresh_back e1 f, fresh_back e1 g, n⟩⟩⟩
theorem er_law_in {σ : L2.St} {H : Hp} {ta : TA} {l : List Nat} (h : EvA ta σ H [.str (S l)]) (hl : l.length ≤ 10000) (hc : l.count 32 ≤ 900) : EvR (tCall spLawIn [] E0 ta) σ H (RIn l) := fun H1 e Q q => h H1 e _ fun H2 e2 => ⟨_, rfl, l, rfl, hl, hc, fun v H3 e3 r => q v H3 (e2.trans e3) r⟩
theorem lay_one (a : List Int) : PyData.canLay0 (dI a) = true := by
  unfold dI PyData.canLay0
  exact lay_ints a
theorem dep_one (a : List Int) : PyData.depth (dI a) ≤ 1 := by
  unfold dI
  simp [PyData.depth, depth_ints a]
theorem shaped_pair (a b : List Int) : SeqAt.shaped (.tuple [dI a, dI b]) = true := by
  unfold SeqAt.shaped
  rw [Bool.and_eq_true]
  refine ⟨?_, ?_⟩
  · unfold PyData.canLay0
    simp [PyData.canLayAll0, lay_one]
  · have h1 := dep_one a
    have h2 := dep_one b
    simp [PyData.depth, PyData.depthAll]
    omega
theorem eqv_pair (a b : List Int) : PyData.eqv (.tuple [dI a, dI b]) (.tuple [dI a, dI b]) = true := by
  unfold PyData.eqv
  unfold PyData.eqvAll
  rw [eqv_ints]
  unfold PyData.eqvAll
  rw [eqv_ints, decide_eq_true rfl, decide_eq_true rfl]
  simp [PyData.eqvAll]
theorem dp_pair {H : Hp} {v : V} {xy : List Int × List Int} (h : Pair5 H v xy) : Dp K H v (.tuple [dI xy.1, dI xy.2]) := by
  obtain ⟨p, p1, p2, rfl, a, b, c⟩ := h
  exact .tup (st_of a) (.cons (dp_ints (sq_of b)) (.cons (dp_ints (sq_of c)) .nil))
theorem pair_mono {H H1 : Hp} {v : V} {xy : List Int × List Int} (e : Ex H H1) (h : Pair5 H v xy) : Pair5 H1 v xy := by
  obtain ⟨p, p1, p2, rfl, a, b, c⟩ := h
  exact ⟨p, p1, p2, rfl, e _ _ a, e _ _ b, e _ _ c⟩
theorem ev_neP {σ : L2.St} {H : Hp} {ta tb : TE} {v z : V} {xy : List Int × List Int} (ha : Ev ta σ H v) (hb : Ev tb σ H z) (h1 : Pair5 H v xy) (h2 : Pair5 H z xy) : Ev (tOp (rNeD K) ta tb) σ H (.bl false) :=
  ev_op ha hb (rv_val fun H1 e Q q => ⟨_, _, dp_pair (pair_mono e h1), dp_pair (pair_mono e h2), shaped_pair _ _, shaped_pair _ _, by rw [eqv_pair]; exact q⟩)
theorem ev_eqRP {σ : L2.St} {H : Hp} {ta tb : TE} {z : V} {xy : List Int × List Int} {R : V → Hp → Prop} (ha : EvR ta σ H R) (hR : ∀ v H1, R v H1 → Pair5 H1 v xy) (hb : Ev tb σ H z) (h2 : Pair5 H z xy) : Ev (tOp (rEqD K) ta tb) σ H (.bl true) := fun H1 e Q q => ha H1 e _ fun v H2 e2 r => hb H2 (e.trans e2) _ fun H3 e3 =>
  ⟨_, _, dp_pair (pair_mono e3 (hR v H2 r)), dp_pair (pair_mono ((e.trans e2).trans e3) h2), shaped_pair _ _, shaped_pair _ _, by rw [eqv_pair]; exact q H3 (e2.trans e3)⟩
def spLawR : Sp := S1 fun a H Q => ∃ l : List Nat, a = .str (S l) ∧ l.length ≤ 10000 ∧ l.count 32 ≤ 900 ∧ Go H (Q (.bl true))
theorem ok_law_right (T : Txt K mg) : Cal CX0 P w K mg base 7 "_law_right" spLawR :=
  cal_mk T.f_law_right T.g_law_right sc_law_right (fun _ _ _ _ _ _ us hl => match us, hl with | [_], _ => rfl) len1 fun cdv A outer s H vs Q E hr hsp => by
    obtain ⟨a, rfl, l, rfl, hl, hc, q⟩ := hsp
    refine ⟨_, (pss_cons (ps_set (i := 1) sc_law_right.nd rfl (Or.inl rfl) (pe_k (ok_law_in T) hr (by decide) (by rfl) (pa_cons (pv 0) pa_nil)))
      (pss_cons (ps_if (pt_cmpR op_noneI (pv 1) pe_non (nomark _)) (pss_cons (ps_ret (pe_k (ok_law_refused T) hr (by decide) (by rfl) (pa_cons (pv 0) pa_nil)))
      pss_nil) pss_nil)
      (pss_cons (ps_set (i := 2) sc_law_right.nd rfl (Or.inl rfl) (pe_k2p (E := noE) (okx_read T) hr (by decide) (by rfl) pass2N0 (pa_cons (pv 0) pa_nil)))
      (pss_cons (ps_if (PW.pt (pw_or (pt_not (pt_val (pe_callB (call_isiK2 K) (by rfl) T.n_isinstance (by decide +kernel) (pa_cons (pv 2) (pa_cons (pe_gTy (n := "tuple") T.n_tuple) pa_nil))))) (pw_or (pt_cmpR (op_neDK K hr.units) (pv 2) (pv 1) (nomark _)) (pw_or1 (pt_cmpR op_neT (pe_kxp (E := noE) (okx_written T) hr (by decide) (by rfl) passN0 (pa_cons (pe_ix (ix_tupK K) (pv 2) pe_int (fun _ _ => rfl)) (pa_cons (pe_ix (ix_tupK K) (pv 2) pe_int (fun _ _ => rfl)) pa_nil))) (pv 0) (nomark _)))))) (pss_cons (ps_ret pe_bl)
      pss_nil) pss_nil)
      (pss_cons (ps_expr (pe_bm PySem.F.plainAttrs_list PySem.F.slot_list_append PySem.F.type_list_append mt_append (pe_ix (ix_tupK K) (pv 2) pe_int (fun _ _ => rfl)) (pa_cons pe_int pa_nil)))
      (pss_cons (ps_expr (pe_bm0 PySem.F.plainAttrs_list PySem.F.slot_list_clear PySem.F.type_list_clear mt_clear (pe_ix (ix_tupK K) (pv 2) pe_int (fun _ _ => rfl))))
      (pss_cons (ps_ret (pe_cmpR (op_eqDK K hr.units) (pe_k2p (E := noE) (okx_read T) hr (by decide) (by rfl) pass2N0 (pa_cons (pv 0) pa_nil)) (pv 1) (nomark _)))
      pss_nil))))))), ?_⟩
    refine go_asgR (R := RIn l) (er_law_in (ea_cons (ev_var rfl) ea_nil) hl hc) fun v H1 e1 hv => ?_
    rcases hv with ⟨hn, rfl⟩ | ⟨xy, hr, hP⟩
    · exact go_when (b := true) (et_is (et_test (ev_noneI (ev_var rfl) ev_c)) (decide_eq_true rfl)) (fun _ => go_ret (ev_call0 (ea_cons (ev_var rfl) ea_nil) (sv_refused (.inr ⟨l, rfl, hl, hc, hn⟩))) (q.mono e1)) (fun h => by cases h)
    · have nn : v ≠ .non := by
        obtain ⟨p, _, _, rfl, _⟩ := hP
        intro z; cases z
      refine go_when (b := false) (et_is (et_test (ev_noneI (ev_var rfl) ev_c)) (decide_eq_false nn)) (fun h => by cases h) (fun _ => ?_)
      refine go_asgR (er_read (xy := xy) (ea_cons (ev_var rfl) ea_nil) hl hc hr) fun v2 H2 e2 hv2 => ?_
      obtain ⟨px, py, p, rfl, t1, t2, t3, f1, f2, nxy⟩ := hv2
      obtain ⟨b1, b2, b3, b4, b5⟩ := read_back hr
      have wr : writR K xy.1 xy.2 = .val (.str (S l)) := by
        unfold writR
        rw [if_pos b2, b1]
      have sw := sx_written (K := K) t2 t3 (by omega) (by omega)
      rw [wr] at sw
      refine go_when (b := false) (et_is (et_or (et_not (et_B (ev_isT (ev_var rfl) ev_c (.ty _) (tyx_sqt (st_of t1)) (kit_ty (r := true) (by decide +kernel))))) fun _ => et_or (et_test (ev_neP (xy := xy) (ev_var rfl) (ev_var rfl) ⟨p, px, py, rfl, t1, t2, t3⟩ (pair_mono e2 hP))) fun _ => et_test (ev_neT (a := l) (ev_callX (ea_cons (ev_ixT (n := 0) (ev_var rfl) ev_c (st_of t1) rfl) (ea_cons (ev_ixT (n := 1) (ev_var rfl) ev_c (st_of t1) rfl) ea_nil)) sw) (ev_var rfl))) (by rw [decide_eq_true rfl] <;> rfl)) (fun h => by cases h) (fun _ => ?_)
      refine go_app t2 (ev_ixT (n := 0) (ev_var rfl) ev_c (st_of t1) rfl) ev_c (by rw [List.length_map]; omega) ?_
      have npx : p ≠ px := fun z => by rw [z, t2] at t1; cases t1
      have npy : p ≠ py := fun z => by rw [z, t3] at t1; cases t1
      have u1 : upd H2 px (.lst (xy.1.map V.int ++ [.int 0])) p = some (.tup [.ref px, .ref py]) := by rw [upd_ne npx]; exact t1
      have u3 : upd H2 px (.lst (xy.1.map V.int ++ [.int 0])) py = some (.lst (xy.2.map V.int)) := by rw [upd_ne nxy.symm]; exact t3
      refine go_clear u3 (ev_ixT (n := 1) (ev_var rfl) ev_c (st_of u1) rfl) ?_
      have e3 : Ex H1 (upd (upd H2 px (.lst (xy.1.map V.int ++ [.int 0]))) py (.lst [])) := fun b u hb => by
        rw [upd_ne (ne_of_none hb f2), upd_ne (ne_of_none hb f1)]
        exact e2 _ _ hb
      exact go_ret (ev_eqRP (er_read (xy := xy) (ea_cons (ev_var rfl) ea_nil) hl hc hr) (fun v H1 r => by
        obtain ⟨px, py, p, rfl, t1, t2, t3, _⟩ := r
        exact ⟨p, px, py, rfl, t1, t2, t3⟩) (ev_var rfl) (pair_mono e3 hP)) (q.mono (e1.trans e3))
theorem sv_law_right {H : Hp} {l : List Nat} (hl : l.length ≤ 10000) (hc : l.count 32 ≤ 900) : SpV spLawR [.str (S l)] H (.bl true) := sv1 fun H1 e Q q => ⟨l, rfl, hl, hc, q⟩
end Od

namespace Od
open PySem PySem.Spec PyProof.Rows L2 SX Evl
variable {P : Program} {w : World} {K : PySem.W.Frag} {mg : Str → Option Value} {base : Heap}
/-! ### law_few -/
def strOk (x : V) : Prop := ∃ m : List Nat, x = .str (S m) ∧ m.length ≤ 10000 ∧ m.count 32 ≤ 900
theorem all_nilS : ∀ x ∈ ([] : List V), strOk x := fun x hx => by cases hx
theorem all_consS {m : List Nat} {r : List V} (h1 : m.length ≤ 10000) (h2 : m.count 32 ≤ 900) (h : ∀ x ∈ r, strOk x) : ∀ x ∈ V.str (S m) :: r, strOk x := fun x hx => by
  rcases List.mem_cons.mp hx with z | z
  · exact ⟨m, z, h1, h2⟩
  · exact h x z
theorem all_appS {a b : List V} (h1 : ∀ x ∈ a, strOk x) (h2 : ∀ x ∈ b, strOk x) : ∀ x ∈ a ++ b, strOk x := fun x hx => (List.mem_append.mp hx).elim (h1 x) (h2 x)
def spFew : Sp := S0 fun H Q => ∀ p xs, H p = none → xs.length ≤ 100 → (∀ x ∈ xs, strOk x) → Go (upd H p (.lst xs)) (Q (.ref p))
theorem rep_flat5 (k : Nat) (c : Nat) : (List.replicate k [c]).flatten = List.replicate k c := by
  induction k with
  | zero => rfl
  | succ k ih => rw [List.replicate_succ, List.flatten_cons, ih, List.replicate_succ] <;> rfl
theorem ex_app2 {H H1 : Hp} {p : Addr} {o o2 : HO} (e : Ex H H1) (f : H1 p = none) : Ex H (upd (upd H1 p o) p o2) := fun b u hu => by
  have h := e _ _ hu
  rw [upd_ne (ne_of_none h f), upd_ne (ne_of_none h f)]
  exact h
theorem ok_law_few (T : Txt K mg) : Cal CX0 P w K mg base 1 "_law_few" spFew :=
  cal_mk T.f_law_few T.g_law_few sc_law_few (fun _ _ _ _ _ _ us hl => match us, hl with | [], _ => rfl) len0 fun cdv A outer s H vs Q E hr hsp => by
    obtain ⟨rfl, q⟩ := hsp
    refine ⟨_, (pss_cons (ps_set (i := 0) sc_law_few.nd rfl (Or.inl rfl) (pe_lst (pa_cons (pe_strS k_empty) (pa_cons (pe_strS k__2d_) (pa_cons (pe_strS k__20_) (pa_cons (pe_strS k__2d__2d_) (pa_cons (pe_strS k_0_20__7c__20_1) (pa_cons (pe_strS k_1_20__7c__20_0) (pa_cons (pe_strS k_0_20__7c__20_0) (pa_cons (pe_strS k_0_20_1_20__7c__20_2_20_3) (pa_cons (pe_strS k_1_20_0_20__7c__20_2_20_3) (pa_cons (pe_strS k_0_20_1_20__7c__20_3_20_2) (pa_cons (pe_strS k_0_20_1_20__7c__20_2) (pa_cons (pe_strS k_0_20__7c__20_1_20_2) pa_nil))))))))))))))
      (pss_cons (ps_set (i := 0) sc_law_few.nd rfl (Or.inl rfl) (pe_op op_cat (pv 0) (pe_lst (pa_cons (pe_strS k_0_7c_1) (pa_cons (pe_strS k_0_20__7c_1) (pa_cons (pe_strS k_0_7c__20_1) (pa_cons (pe_strS k__20__7c__20_) (pa_cons (pe_strS k_0_20__7c__20_) (pa_cons (pe_strS k__20__7c__20_0) (pa_cons (pe_strS k_0_20__7c__20_1_20__7c__20_2) (pa_cons (pe_strS k_00_20__7c__20_1) (pa_cons (pe_strS k_0_20__7c__20_01) (pa_cons (pe_strS k_0_20__20_1_20__7c__20_2_20_3) pa_nil)))))))))))))
      (pss_cons (ps_expr (pe_bm PySem.F.plainAttrs_list PySem.F.slot_list_append PySem.F.type_list_append mt_append (pv 0) (pa_cons (pe_strS k_0_20_1_20__7c__20__20_2_20_3) pa_nil)))
      (pss_cons (ps_set (i := 0) sc_law_few.nd rfl (Or.inl rfl) (pe_op op_cat (pv 0) (pe_lst (pa_cons (pe_strS k__20_0_20__7c__20_1) (pa_cons (pe_strS k_0_20__7c__20_1_20_) (pa_cons (pe_strS k_0_20__7c__20_1_a_) (pa_cons (pe_strS k_0_9__7c__20_1) (pa_cons (pe_strS k_0_20__7c__20__2d_1) (pa_cons (pe_strS k__2b_0_20__7c__20_1) (pa_cons (pe_strS k_1_5f_0_20__7c__20_2) (pa_cons (pe_strS k_x_20__7c__20_1) (pa_cons (pe_strS k_0_20_0_20__7c__20_1_20_2) pa_nil))))))))))))
      (pss_cons (ps_expr (pe_bm PySem.F.plainAttrs_list PySem.F.slot_list_append PySem.F.type_list_append mt_append (pv 0) (pa_cons (pe_strS k_0_20__7c__20_999999999) pa_nil)))
      (pss_cons (ps_ret (pe_op op_cat (pv 0) (pe_lst (pa_cons (pe_strS k_0_20__7c__20_1000000000) (pa_cons (pe_op op_addT (pe_op op_mulT (pe_strS k_1) pe_int) (pe_strS k__20__7c__20_2)) (pa_cons (pe_strS k__2d__20__7c__20__2d_) (pa_cons (pe_strS k_0) (pa_cons (pe_strS k_0_20_2_20__7c__20_2_20_3) (pa_cons (pe_strS k_0_20__7c__7c__20_1) pa_nil)))))))))
      pss_nil)))))), ?_⟩
    refine go_asgL (el_lst (ea_cons ev_c (ea_cons ev_c (ea_cons ev_c (ea_cons ev_c (ea_cons ev_c (ea_cons ev_c (ea_cons ev_c (ea_cons ev_c (ea_cons ev_c (ea_cons ev_c (ea_cons ev_c (ea_cons ev_c ea_nil)))))))))))) (by simp)) fun p1 f1 => ?_
    refine go_asgL (el_catN (ev_var rfl) (el_lst (ea_cons ev_c (ea_cons ev_c (ea_cons ev_c (ea_cons ev_c (ea_cons ev_c (ea_cons ev_c (ea_cons ev_c (ea_cons ev_c (ea_cons ev_c (ea_cons ev_c ea_nil)))))))))) (by simp)) upd_same (by simp)) fun p2 f2 => ?_
    refine go_app upd_same (ev_var rfl) ev_c (by simp) ?_
    refine go_asgL (el_catN (ev_var rfl) (el_lst (ea_cons ev_c (ea_cons ev_c (ea_cons ev_c (ea_cons ev_c (ea_cons ev_c (ea_cons ev_c (ea_cons ev_c (ea_cons ev_c (ea_cons ev_c ea_nil))))))))) (by simp)) upd_same (by simp)) fun p3 f3 => ?_
    refine go_app upd_same (ev_var rfl) ev_c (by simp) ?_
    refine go_retL (el_catN (ev_var rfl) (el_lst (ea_cons ev_c (ea_cons (ev_addT (a := List.replicate 4000 49) (b := [32, 124, 32, 50]) (ev_is (ev_mulT (m := [49]) ev_c ev_c (by decide) (by decide) (by decide)) (by rw [rep_flat5] <;> rfl)) ev_c (by simp)) (ea_cons ev_c (ea_cons ev_c (ea_cons ev_c (ea_cons ev_c ea_nil)))))) (by simp)) upd_same (by simp)) fun p fp => ?_
    have E3 := fun o o2 => ex_app2 (o := o) (o2 := o2) (ex_app2 (Ex.new f1) f2) f3
    refine (q p _ (fresh_back (E3 _ _) fp) (by simp) ?_).mono (ex_upd2 (E3 _ _))
    have c1 : ∀ {m : List Nat}, m.length ≤ 40 → m.length ≤ 10000 ∧ m.count 32 ≤ 900 := fun {m} h => by
      have := List.count_le_length (a := 32) (l := m)
      omega
    have one : ∀ {m : List Nat} {r : List V}, m.length ≤ 40 → (∀ x ∈ r, strOk x) → ∀ x ∈ V.str (S m) :: r, strOk x := fun h => all_consS (c1 h).1 (c1 h).2
    refine all_appS (all_appS (all_appS (all_appS (all_appS ?_ ?_) ?_) ?_) ?_) (one (by decide) (all_consS ?_ ?_ ?_))
    · repeat (first | exact all_nilS | refine one (by decide) ?_)
    · repeat (first | exact all_nilS | refine one (by decide) ?_)
    · repeat (first | exact all_nilS | refine one (by decide) ?_)
    · repeat (first | exact all_nilS | refine one (by decide) ?_)
    · repeat (first | exact all_nilS | refine one (by decide) ?_)
    · rw [List.length_append, List.length_replicate]; decide
    · rw [List.count_append, List.count_replicate]; decide
    · repeat (first | exact all_nilS | refine one (by decide) ?_)
theorem er_few {σ : L2.St} {H : Hp} : EvR (tCall spFew [] E0 tNil) σ H (fun v H2 => ∃ n, n ≤ 1000 ∧ ListR (fun x _ => strOk x) n v H2) := fun H1 e Q q => ⟨rfl, fun p xs hp hl hx H2 e2 => q _ H2 ((Ex.new hp).trans e2) ⟨xs.length, by omega, p, xs, rfl, e2 _ _ upd_same, rfl, hx⟩⟩
/-- all([e for x in a list of such things]), each e True -/
theorem ev_allR {σ : L2.St} {H : Hp} {tl te : TE} {j : Nat} {vs : List Nat} {R : V → Hp → Prop} (h : EvR tl σ H (fun v H2 => ∃ n, n ≤ 1000 ∧ ListR R n v H2)) (hw : ∀ x, wipe ((wipe σ vs).set j (some x)) vs = wipe σ vs) (mo : Mono R) (he : ∀ x H1, Ex H H1 → R x H1 → Ev te ((wipe σ vs).set j (some x)) H1 (.bl true)) :
    Ev (tCB (rAll K) (tCons (tLc (iList K tl) (gName j) tYes te vs) tNil)) σ H (.bl true) := fun H1 e Q q => h H1 e _ fun v H2 e2 r => by
  obtain ⟨n, hn, p, xs, rfl, hp, hl, hx⟩ := r
  have z : Ev (tCB (rAll K) (tCons (tLc (iList K (tC (.ref p))) (gName j) tYes te vs) tNil)) σ H2 (.bl true) := ev_is (ev_allN (bs := xs.map fun _ => true) (by
    rw [List.map_map]
    exact el_mapU (f := fun _ => V.bl true) ev_c (sq_of hp) (by omega) hw fun x hx1 => he x H2 (e.trans e2) (hx x hx1))) (by
    rw [List.all_map]
    have : xs.all (_root_.id ∘ fun _ => true) = true := List.all_eq_true.mpr fun _ _ => rfl
    rw [this])
  exact z H2 (Ex.refl H2) Q fun H3 e3 => q H3 (e2.trans e3)
end Od

namespace Od
open PySem PySem.Spec PyProof.Rows L2 SX Evl
variable {P : Program} {w : World} {K : PySem.W.Frag} {mg : Str → Option Value} {base : Heap}
/-! ### law_cell_at, law_draw -/
def spCellAt (K : PySem.W.Frag) : Sp := S2 fun a b H Q => ∃ (p : Addr) (xs : List Int) (k : Nat), a = .ref p ∧ SqL K H p (xs.map V.int) ∧ b = .int (k : Nat) ∧ Go H (Q (.int (xs.getD k 0)))
theorem ok_law_cell_at (T : Txt K mg) : Cal CX0 P w K mg base 1 "_law_cell_at" (spCellAt K) :=
  cal_mk T.f_law_cell_at T.g_law_cell_at sc_law_cell_at (fun _ _ _ _ _ _ us hl => match us, hl with | [_, _], _ => rfl) len2 fun cdv A outer s H vs Q E hr hsp => by
    obtain ⟨a, b, rfl, p, xs, k, rfl, hp, rfl, q⟩ := hsp
    refine ⟨_, (pss_cons (ps_if (pt_cmpR op_ltI (pv 1) (pe_callB (call_lenQK K) (by rfl) T.n_len (by decide +kernel) (pa_cons (pv 0) pa_nil)) (nomark _)) (pss_cons (ps_ret (pe_ix (ix_listK K) (pv 0) (pv 1) (fun _ _ => rfl)))
      pss_nil) pss_nil)
      (pss_cons (ps_ret pe_int)
      pss_nil)), ?_⟩
    refine go_when (et_test (ev_ltI (ev_var rfl) (ev_lenQ (ev_var rfl) hp))) (fun hb => ?_) (fun hb => ?_)
    · have h := of_decide_eq_true hb
      rw [List.length_map] at h
      have h2 : k < xs.length := by omega
      refine go_ret (ev_ixL (n := k) (ev_var rfl) (ev_var rfl) hp ?_) q
      rw [List.getElem?_map, List.getElem?_eq_getElem h2, List.getD_eq_getElem?_getD, List.getElem?_eq_getElem h2]
      rfl
    · have h := of_decide_eq_false hb
      rw [List.length_map] at h
      have e : xs.getD k 0 = 0 := by rw [List.getD_eq_getElem?_getD, List.getElem?_eq_none (by omega)]; rfl
      rw [e] at q
      exact go_ret ev_c q
theorem sv_cell_at {H : Hp} {p : Addr} {xs : List Int} {k : Nat} (h : SqL K H p (xs.map V.int)) : SpV (spCellAt K) [.ref p, .int (k : Nat)] H (.int (xs.getD k 0)) := sv2 fun H1 e Q q => ⟨p, xs, k, rfl, ex_l e h, rfl, q⟩
def spDraw : Sp := S3 fun a b c H Q => ∃ (x : Int) (k : Nat) (many : Int), a = .int x ∧ b = .int (k : Nat) ∧ c = .int many ∧ 0 < many ∧ Go H (Q (.int (drawI x k many)))
theorem ok_law_draw (T : Txt K mg) : Cal CX0 P w K mg base 1 "_law_draw" spDraw :=
  cal_mk T.f_law_draw T.g_law_draw sc_law_draw (fun _ _ _ _ _ _ us hl => match us, hl with | [_, _, _], _ => rfl) len3 fun cdv A outer s H vs Q E hr hsp => by
    obtain ⟨a, b, c, rfl, x, k, many, rfl, rfl, rfl, hm, q⟩ := hsp
    refine ⟨_, (pss_cons (ps_set (i := 3) sc_law_draw.nd rfl (Or.inl rfl) (pe_tup (pa_cons pe_int (pa_cons pe_int (pa_cons pe_int (pa_cons pe_int (pa_cons pe_int (pa_cons pe_int (pa_cons pe_int (pa_cons pe_int (pa_cons pe_int (pa_cons pe_int (pa_cons pe_int (pa_cons pe_int (pa_cons pe_int (pa_cons pe_int (pa_cons pe_int (pa_cons pe_int pa_nil))))))))))))))))))
      (pss_cons (ps_ret (pe_op op_modI (pe_op op_modI (pe_op op_addI (pe_op op_mulI (pv 0) pe_int) (pe_op op_mulI (pv 1) pe_int)) (pe_ix (ix_tupK K) (pv 3) (pe_op op_modI (pv 1) pe_int) (fun _ _ => rfl))) (pv 2)))
      pss_nil)), ?_⟩
    refine go_asgU (xs := primes.map V.int) (eu_tup (ea_cons ev_c (ea_cons ev_c (ea_cons ev_c (ea_cons ev_c (ea_cons ev_c (ea_cons ev_c (ea_cons ev_c (ea_cons ev_c (ea_cons ev_c (ea_cons ev_c (ea_cons ev_c (ea_cons ev_c (ea_cons ev_c (ea_cons ev_c (ea_cons ev_c (ea_cons ev_c ea_nil)))))))))))))))) (by decide)) fun p hp => ?_
    have hk : k % 16 < 16 := Nat.mod_lt _ (by decide)
    refine go_ret (ev_modI (ev_modI (ev_addI (ev_mulI (ev_var rfl) ev_c (.inr ⟨by decide, by decide⟩)) (ev_mulI (ev_var rfl) ev_c (.inr ⟨by decide, by decide⟩))) (ev_ixT (n := k % 16) (ev_var rfl) (ev_is (ev_modI (ev_var rfl) ev_c (by decide)) (by congr 1)) (st_of upd_same) (primes_at _ hk)) (primes_pos _ hk)) (ev_var rfl) hm) (q.mono (Ex.new hp))
theorem sv_draw {H : Hp} {x : Int} {k : Nat} {many : Int} (h : 0 < many) : SpV spDraw [.int x, .int (k : Nat), .int many] H (.int (drawI x k many)) := sv3 fun H1 e Q q => ⟨x, k, many, rfl, rfl, rfl, h, q⟩
end Od

namespace Od
open PySem PySem.Spec PyProof.Rows L2 SX Evl
variable {P : Program} {w : World} {K : PySem.W.Frag} {mg : Str → Option Value} {base : Heap}
/-! ### the law's own weighing -/
def sideK (xs : List Int) (i : Nat) : Int := drawI (xs.getD i 0) (i % 5 + 1) 4
def leftA (xs : List Int) (n : Nat) : List Int := ((List.range n).filter fun i => decide (sideK xs i = 0)).map fun i : Nat => ((i : Nat) : Int) * 7
def rightA (xs : List Int) (n : Nat) : List Int := ((List.range n).filter fun i => decide (sideK xs i = 1)).map fun i : Nat => ((i : Nat) : Int) * 7 + 1
theorem leftA_succ (xs : List Int) (n : Nat) : leftA xs (n + 1) = leftA xs n ++ if sideK xs n = 0 then [((n : Nat) : Int) * 7] else [] := by
  unfold leftA
  rw [List.range_succ, List.filter_append, List.map_append]
  congr 1
  by_cases h : sideK xs n = 0
  · rw [if_pos h]
    simp [h]
  · rw [if_neg h]
    simp [h]
theorem rightA_succ (xs : List Int) (n : Nat) : rightA xs (n + 1) = rightA xs n ++ if sideK xs n = 1 then [((n : Nat) : Int) * 7 + 1] else [] := by
  unfold rightA
  rw [List.range_succ, List.filter_append, List.map_append]
  congr 1
  by_cases h : sideK xs n = 1
  · rw [if_pos h]
    simp [h]
  · rw [if_neg h]
    simp [h]
theorem sidesK_len (xs : List Int) : ∀ n, (leftA xs n).length + (rightA xs n).length ≤ n
  | 0 => Nat.le_refl _
  | n + 1 => by
    have ih := sidesK_len xs n
    rw [leftA_succ, rightA_succ, List.length_append, List.length_append]
    by_cases h : sideK xs n = 0
    · rw [if_pos h, if_neg (by omega)]
      simp
      omega
    · rw [if_neg h]
      by_cases h2 : sideK xs n = 1
      · rw [if_pos h2]
        simp
        omega
      · rw [if_neg h2]
        simp
        omega
theorem leftA_mem {xs : List Int} {n : Nat} {x : Int} (h : x ∈ leftA xs n) : ∃ i : Nat, i < n ∧ x = ((i : Nat) : Int) * 7 := by
  unfold leftA at h
  obtain ⟨i, hi, rfl⟩ := List.mem_map.mp h
  exact ⟨i, List.mem_range.mp (List.mem_filter.mp hi).1, rfl⟩
theorem rightA_mem {xs : List Int} {n : Nat} {x : Int} (h : x ∈ rightA xs n) : ∃ i : Nat, i < n ∧ x = ((i : Nat) : Int) * 7 + 1 := by
  unfold rightA at h
  obtain ⟨i, hi, rfl⟩ := List.mem_map.mp h
  exact ⟨i, List.mem_range.mp (List.mem_filter.mp hi).1, rfl⟩
theorem leftA_lt (xs : List Int) (n : Nat) : (leftA xs n).Pairwise (· < ·) := by
  unfold leftA
  refine List.pairwise_map.mpr ?_
  have h : (List.range n).Pairwise (· < ·) := List.pairwise_lt_range
  exact (h.filter _).imp fun q => by omega
theorem rightA_lt (xs : List Int) (n : Nat) : (rightA xs n).Pairwise (· < ·) := by
  unfold rightA
  refine List.pairwise_map.mpr ?_
  have h : (List.range n).Pairwise (· < ·) := List.pairwise_lt_range
  exact (h.filter _).imp fun q => by omega
theorem law_weigh {xs : List Int} {n k : Nat} (hn : n ≤ 1000) (h1 : k ≤ (leftA xs n).length) (h2 : k ≤ (rightA xs n).length) : weighW ((leftA xs n).take k) ((rightA xs n).take k) = true := by
  have mL : ∀ x ∈ (leftA xs n).take k, ∃ i : Nat, i < n ∧ x = ((i : Nat) : Int) * 7 := fun x hx => leftA_mem (List.mem_of_mem_take hx)
  have mR : ∀ x ∈ (rightA xs n).take k, ∃ i : Nat, i < n ∧ x = ((i : Nat) : Int) * 7 + 1 := fun x hx => rightA_mem (List.mem_of_mem_take hx)
  rw [weighW_says fun x hx => ?_]
  · rw [decide_eq_true ((leftA_lt xs n).sublist (List.take_sublist _ _)), decide_eq_true ((rightA_lt xs n).sublist (List.take_sublist _ _)), decide_eq_true (by rw [List.length_take, List.length_take]; omega)]
    have : ((leftA xs n).take k).any (fun x => decide (x ∈ (rightA xs n).take k)) = false := by
      rw [List.any_eq_false]
      intro x hx hx2
      obtain ⟨i, _, e1⟩ := mL x hx
      obtain ⟨j, _, e2⟩ := mR x (of_decide_eq_true hx2)
      omega
    rw [this] <;> rfl
  · rcases List.mem_append.mp hx with z | z
    · obtain ⟨i, hi, rfl⟩ := mL x z
      omega
    · obtain ⟨i, hi, rfl⟩ := mR x z
      omega
/-! ### lists of two lists -/
theorem lay_two (a b : List Int) : SeqAt.shaped (.list [dI a, dI b]) = true := by
  unfold SeqAt.shaped
  rw [Bool.and_eq_true]
  refine ⟨?_, ?_⟩
  · unfold PyData.canLay0
    simp [PyData.canLayAll0, lay_one]
  · have h1 := dep_one a
    have h2 := dep_one b
    simp [PyData.depth, PyData.depthAll]
    omega
theorem eqv_two (a b : List Int) : PyData.eqv (.list [dI a, dI b]) (.list [dI a, dI b]) = true := by
  unfold PyData.eqv
  unfold PyData.eqvAll
  rw [eqv_ints]
  unfold PyData.eqvAll
  rw [eqv_ints, decide_eq_true rfl, decide_eq_true rfl]
  simp [PyData.eqvAll]
theorem ev_neTwo {σ : L2.St} {H : Hp} {ta tl tr : TE} {z x y pl pr : Addr} {l r : List Int} (ha : Ev ta σ H (.ref z)) (hz : SqL K H z [.ref x, .ref y]) (hx : SqL K H x (l.map V.int)) (hy : SqL K H y (r.map V.int))
    (h1 : Ev tl σ H (.ref pl)) (h2 : Ev tr σ H (.ref pr)) (hl : SqL K H pl (l.map V.int)) (hr : SqL K H pr (r.map V.int)) : Ev (tOp (rNeD K) ta (tLst (tCons tl (tCons tr tNil)))) σ H (.bl false) :=
  ev_opL ha (el_lst (ea_cons h1 (ea_cons h2 ea_nil)) (by simp)) fun q H1 hq e => rv_val fun H2 e2 Q k => ⟨.list [dI l, dI r], .list [dI l, dI r], .lst (ex_l (e.trans e2) hz) (.cons (dp_ints (ex_l (e.trans e2) hx)) (.cons (dp_ints (ex_l (e.trans e2) hy)) .nil)),
    .lst (sq_of (e2 _ _ hq)) (.cons (dp_ints (ex_l (e.trans e2) hl)) (.cons (dp_ints (ex_l (e.trans e2) hr)) .nil)), lay_two l r, lay_two l r, by rw [eqv_two]; exact k⟩
theorem el_is {te : TE} {σ : L2.St} {H : Hp} {xs ys : List V} (h : EvL te σ H xs) (e : xs = ys) : EvL te σ H ys := e ▸ h
theorem badT_mono : Mono (BadT K) := fun v H H1 e ⟨t, a, b⟩ => ⟨t, tyx_mono e a, b⟩
theorem go_ifAsg {σ : L2.St} {H : Hp} {D : Ends} {tz : TS} {i : Nat} {t : TT} {te : TE} {b : Bool} {v v0 z : V} (hs : σ[i]? = some (some v0)) (h : EvT t σ H b) (he : Ev te σ H v) (hz : (if b = true then v else v0) = z) (k : Go H (tz D (σ.set i (some z)))) : Go H (tSeq (tIfS t (tSeq (tAsg te (gName i)) tNext) tNext) tz D σ) := by
  refine go_when h (fun hb => ?_) (fun hb => ?_)
  · rw [if_pos hb] at hz
    subst hz
    exact go_asg he (go_next k)
  · rw [if_neg (by rw [hb]; exact Bool.false_ne_true)] at hz
    subst hz
    have e : σ.set i (some v0) = σ := by
      refine List.ext_getElem? fun n => ?_
      by_cases hn : i = n
      · subst hn
        rw [hs]
        have hl : i < σ.length := (List.getElem?_eq_some_iff.mp hs).1
        rw [List.getElem?_set_self hl]
      · rw [List.getElem?_set_ne hn]
    rw [e] at k
    exact k
def spLaw (K : PySem.W.Frag) : Sp := S1 fun a H Q => ∃ (p : Addr) (xs : List Int), a = .ref p ∧ SqL K H p (xs.map V.int) ∧ xs.length ≤ 63 ∧ Go H (Q (.bl true))
theorem bd_law (T : Txt K mg) : BodyOk P w K mg base 8 "law" s_law (He.ga K "law") ["_law_script", "_law_left", "_law_right_here", "_law_coin", "_law_side", "_law_many", "_law_text", "_law_handed", "_law_cell", "_law_k", "_law_at", "_law_sign", "_law_other", "_law_thing"] (spLaw K) := fun cdv A outer s H vs Q E hr hsp => by
    obtain ⟨a, rfl, p, xs, rfl, hp, hl, q⟩ := hsp
    refine ⟨_, (pss_cons (ps_par (by rfl) sc_law.nd (i := 1) (j := 2) rfl rfl (by decide) rfl rfl (pa_cons (pe_lst pa_nil) (pa_cons (pe_lst pa_nil) pa_nil)) (by rfl))
      (pss_cons (ps_for PassesOwn.never rfl (pi_range1 (by rfl) T.n_range (pa_cons (pe_callB (call_lenQK K) (by rfl) T.n_len (by decide +kernel) (pa_cons (pv 0) pa_nil)) pa_nil)) (pg_name (i := 3) sc_law.nd rfl (Or.inl rfl)) (pss_cons (ps_set (i := 4) sc_law.nd rfl (Or.inl rfl) (pe_k (ok_law_draw T) hr (by decide) (by rfl) (pa_cons (pe_ix (ix_listK K) (pv 0) (pv 3) (fun _ _ => rfl)) (pa_cons (pe_op op_addI (pe_op op_modI (pv 3) pe_int) pe_int) (pa_cons pe_int pa_nil)))))
      (pss_cons (ps_if (pt_cmpR op_eqI (pv 4) pe_int (nomark _)) (pss_cons (ps_expr (pe_bm PySem.F.plainAttrs_list PySem.F.slot_list_append PySem.F.type_list_append mt_append (pv 1) (pa_cons (pe_op op_mulI (pv 3) pe_int) pa_nil)))
      pss_nil) pss_nil)
      (pss_cons (ps_if (pt_cmpR op_eqI (pv 4) pe_int (nomark _)) (pss_cons (ps_expr (pe_bm PySem.F.plainAttrs_list PySem.F.slot_list_append PySem.F.type_list_append mt_append (pv 2) (pa_cons (pe_op op_addI (pe_op op_mulI (pv 3) pe_int) pe_int) pa_nil)))
      pss_nil) pss_nil)
      pss_nil))))
      (pss_cons (ps_set (i := 5) sc_law.nd rfl (Or.inl rfl) (pe_callB (call_minI rfl) (by rfl) T.n_min (by decide +kernel) (pa_cons (pe_callB (call_lenQK K) (by rfl) T.n_len (by decide +kernel) (pa_cons (pv 1) pa_nil)) (pa_cons (pe_callB (call_lenQK K) (by rfl) T.n_len (by decide +kernel) (pa_cons (pv 2) pa_nil)) pa_nil))))
      (pss_cons (ps_par (by rfl) sc_law.nd (i := 1) (j := 2) rfl rfl (by decide) rfl rfl (pa_cons (pe_slice (sl_listK K) (pv 1) po_none (po_some (pv 5))) (pa_cons (pe_slice (sl_listK K) (pv 2) po_none (po_some (pv 5))) pa_nil)) (by rfl))
      (pss_cons (ps_set (i := 6) sc_law.nd rfl (Or.inl rfl) (pe_op op_addT (pe_op op_addT (pe_m1 PySem.F.slot_str_join PySem.F.type_str_join mt_joinT (pe_strS k__20_) (pe_lc (own := [("_law_coin", 3)]) rfl sc_law.nd (pi_list (pv 1)) (blkOk_by (own := [("_law_coin", 3)]) (N := ["_law_script", "_law_left", "_law_right_here", "_law_coin", "_law_side", "_law_many", "_law_text", "_law_handed", "_law_cell", "_law_k", "_law_at", "_law_sign", "_law_other", "_law_thing"]) (sc := defScope s_law) (by decide +kernel)) (fun _ _ _ _ _ => (pg_name (i := 3) sc_law.nd rfl (Or.inl rfl))) (fun _ _ _ _ _ => pts_nil) (fun _ _ _ _ _ => (pe_callTy call_strI (by rfl) T.n_str (by decide +kernel) (pa_cons (pv 3) pa_nil))))) (pe_strS k__20__7c__20_)) (pe_m1 PySem.F.slot_str_join PySem.F.type_str_join mt_joinT (pe_strS k__20_) (pe_lc (own := [("_law_coin", 3)]) rfl sc_law.nd (pi_list (pv 2)) (blkOk_by (own := [("_law_coin", 3)]) (N := ["_law_script", "_law_left", "_law_right_here", "_law_coin", "_law_side", "_law_many", "_law_text", "_law_handed", "_law_cell", "_law_k", "_law_at", "_law_sign", "_law_other", "_law_thing"]) (sc := defScope s_law) (by decide +kernel)) (fun _ _ _ _ _ => (pg_name (i := 3) sc_law.nd rfl (Or.inl rfl))) (fun _ _ _ _ _ => pts_nil) (fun _ _ _ _ _ => (pe_callTy call_strI (by rfl) T.n_str (by decide +kernel) (pa_cons (pv 3) pa_nil)))))))
      (pss_cons (ps_if (pt_cmpR op_eqI (pv 5) pe_int (nomark _)) (pss_cons (ps_set (i := 6) sc_law.nd rfl (Or.inl rfl) (pe_strS k__2d_))
      pss_nil) pss_nil)
      (pss_cons (ps_set (i := 7) sc_law.nd rfl (Or.inl rfl) (pe_lst (pa_cons (pe_callTy call_listOf (by rfl) T.n_list (by decide +kernel) (pa_cons (pv 1) pa_nil)) (pa_cons (pe_callTy call_listOf (by rfl) T.n_list (by decide +kernel) (pa_cons (pv 2) pa_nil)) pa_nil))))
      (pss_cons (ps_if (PW.pt (pw_or (pt_cmpR op_neT (pe_kxp (E := noE) (okx_written T) hr (by decide) (by rfl) passN0 (pa_cons (pe_ix (ix_listK K) (pv 7) pe_int (fun _ _ => rfl)) (pa_cons (pe_ix (ix_listK K) (pv 7) pe_int (fun _ _ => rfl)) pa_nil))) (pv 6) (nomark _)) (pw_or (pt_cmpR (op_neDK K hr.units) (pv 7) (pe_lst (pa_cons (pv 1) (pa_cons (pv 2) pa_nil))) (nomark _)) (pw_or1 (pt_not (pt_val (pe_k (ok_law_right T) hr (by decide) (by rfl) (pa_cons (pv 6) pa_nil)))))))) (pss_cons (ps_ret pe_bl)
      pss_nil) pss_nil)
      (pss_cons (ps_set (i := 8) sc_law.nd rfl (Or.inl rfl) (pe_op op_addI (pe_k (ok_law_cell_at T) hr (by decide) (by rfl) (pa_cons (pv 0) (pa_cons pe_int pa_nil))) (pe_op op_mulI pe_int (pe_k (ok_law_cell_at T) hr (by decide) (by rfl) (pa_cons (pv 0) (pa_cons pe_int pa_nil))))))
      (pss_cons (ps_for PassesOwn.never rfl (pi_range1 (by rfl) T.n_range (pa_cons pe_int pa_nil)) (pg_name (i := 9) sc_law.nd rfl (Or.inl rfl)) (pss_cons (ps_set (i := 10) sc_law.nd rfl (Or.inl rfl) (pe_k (ok_law_draw T) hr (by decide) (by rfl) (pa_cons (pe_op op_addI (pv 8) (pv 9)) (pa_cons pe_int (pa_cons (pe_op op_addI (pe_callB call_lenT (by rfl) T.n_len (by decide +kernel) (pa_cons (pv 6) pa_nil)) pe_int) pa_nil)))))
      (pss_cons (ps_set (i := 11) sc_law.nd rfl (Or.inl rfl) (pe_ix (ix_tupK K) (pe_tup (pa_cons (pe_strS k_empty) (pa_cons (pe_ix ix_str (pe_strS k_0123456789_20__7c__2d_x_a_) (pe_k (ok_law_draw T) hr (by decide) (by rfl) (pa_cons (pe_op op_addI (pv 8) (pv 9)) (pa_cons pe_int (pa_cons pe_int pa_nil)))) (fun _ _ => rfl)) pa_nil))) (pe_k (ok_law_draw T) hr (by decide) (by rfl) (pa_cons (pe_op op_addI (pv 8) (pv 9)) (pa_cons pe_int (pa_cons pe_int pa_nil)))) (fun _ _ => rfl)))
      (pss_cons (ps_if (pt_not (pt_val (pe_k (ok_law_right T) hr (by decide) (by rfl) (pa_cons (pe_op op_addT (pe_op op_addT (pe_slice C8.sl_txt (pv 6) po_none (po_some (pv 10))) (pv 11)) (pe_slice C8.sl_txt (pv 6) (po_some (pe_op op_addI (pv 10) (pe_k (ok_law_draw T) hr (by decide) (by rfl) (pa_cons (pe_op op_addI (pv 8) (pv 9)) (pa_cons pe_int (pa_cons pe_int pa_nil)))))) po_none)) pa_nil)))) (pss_cons (ps_ret pe_bl)
      pss_nil) pss_nil)
      pss_nil))))
      (pss_cons (ps_if (pt_not (pt_val (pe_callB (cr_allK K rfl) (by rfl) T.n_all (by decide +kernel) (pa_cons (pe_lc (own := [("_law_other", 12)]) rfl sc_law.nd (pi_list (pe_kn (ok_law_few T) hr (by decide) (by rfl))) (blkOk_by (own := [("_law_other", 12)]) (N := ["_law_script", "_law_left", "_law_right_here", "_law_coin", "_law_side", "_law_many", "_law_text", "_law_handed", "_law_cell", "_law_k", "_law_at", "_law_sign", "_law_other", "_law_thing"]) (sc := defScope s_law) (by decide +kernel)) (fun _ _ _ _ _ => (pg_name (i := 12) sc_law.nd rfl (Or.inl rfl))) (fun _ _ _ _ _ => pts_nil) (fun _ _ _ _ _ => (pe_k (ok_law_right T) hr (by decide) (by rfl) (pa_cons (pv 12) pa_nil)))) pa_nil)))) (pss_cons (ps_ret pe_bl)
      pss_nil) pss_nil)
      (pss_cons (ps_ret (pe_callB (cr_allK K rfl) (by rfl) T.n_all (by decide +kernel) (pa_cons (pe_lc (own := [("_law_thing", 13)]) rfl sc_law.nd (pi_list (pe_lst (pa_cons pe_non (pa_cons pe_int (pa_cons (pe_lst (pa_cons (pe_strS k_0_20__7c__20_1) pa_nil)) (pa_cons pe_bl pa_nil)))))) (blkOk_by (own := [("_law_thing", 13)]) (N := ["_law_script", "_law_left", "_law_right_here", "_law_coin", "_law_side", "_law_many", "_law_text", "_law_handed", "_law_cell", "_law_k", "_law_at", "_law_sign", "_law_other", "_law_thing"]) (sc := defScope s_law) (by decide +kernel)) (fun _ _ _ _ _ => (pg_name (i := 13) sc_law.nd rfl (Or.inl rfl))) (fun _ _ _ _ _ => pts_nil) (fun _ _ _ _ _ => (pe_k (ok_law_refused T) hr (by decide) (by rfl) (pa_cons (pv 13) pa_nil)))) pa_nil)))
      pss_nil)))))))))))), ?_⟩
    refine go_parLL (xs := (leftA xs 0).map V.int) (ys := (rightA xs 0).map V.int) (el_lst ea_nil (Nat.zero_le _)) (el_lst ea_nil (Nat.zero_le _)) fun p0 p1 f0 f1 n01 => ?_
    refine go_forR (n := xs.length) (fun i σ Hk => (∃ y z, σ = [some (.ref p), some (.ref p0), some (.ref p1), y, z, none, none, none, none, none, none, none, none, none]) ∧ Hk p0 = some (.lst ((leftA xs i).map V.int)) ∧ Hk p1 = some (.lst ((rightA xs i).map V.int)) ∧ Ex H Hk)
      (ea_cons (ev_is (ev_lenQ (ev_var rfl) (ex_l (fun b u hb => by rw [upd_ne (ne_of_none hb f1), upd_ne (ne_of_none hb f0)]; exact hb) hp)) (by rw [List.length_map])) ea_nil) (by omega) ⟨⟨_, _, rfl⟩, by rw [upd_ne n01, upd_same], upd_same, fun b u hb => by rw [upd_ne (ne_of_none hb f1), upd_ne (ne_of_none hb f0)]; exact hb⟩ ?_ ?_
    · rintro i σ Hk hi ⟨⟨y, z, rfl⟩, h0, h1, ek⟩
      have hpk := ex_l ek hp
      have gx : (xs.map V.int)[i]? = some (.int (xs.getD i 0)) := by
        rw [List.getElem?_map, List.getElem?_eq_getElem hi, List.getD_eq_getElem?_getD, List.getElem?_eq_getElem hi]
        rfl
      refine go_asg (v := .int (sideK xs i)) (ev_call0 (ea_cons (ev_ixL (n := i) (ev_var rfl) (ev_var rfl) hpk gx) (ea_cons (ev_is (ev_addI (ev_modI (ev_var rfl) ev_c (by decide)) ev_c) (w := .int ((i % 5 + 1 : Nat) : Int)) (by congr 1)) (ea_cons ev_c ea_nil))) (sv_draw (by decide))) ?_
      have s0 := leftA_succ xs i
      have s1 := rightA_succ xs i
      have ln := sidesK_len xs i
      generalize sideK xs i = sd at *
      generalize leftA xs i = L0 at *
      generalize rightA xs i = L1 at *
      rw [s0, s1]
      refine go_when (et_test (ev_eqI (ev_var rfl) ev_c)) (fun hb => ?_) (fun hb => ?_)
      · have hb := of_decide_eq_true hb
        refine go_app h0 (ev_var rfl) (ev_mulI (ev_var rfl) ev_c (.inr ⟨by decide, by decide⟩)) (by rw [List.length_map]; omega) (go_next ?_)
        refine go_when (b := false) (et_is (et_test (ev_eqI (ev_var rfl) ev_c)) (decide_eq_false (by omega))) (fun hb => by cases hb) (fun _ => go_up rfl ⟨⟨_, _, rfl⟩, ?_, ?_, ?_⟩)
        · rw [upd_same, if_pos hb, List.map_append] <;> rfl
        · rw [upd_ne n01.symm, if_neg (by omega), List.append_nil]; exact h1
        · exact fun b u hu => by rw [upd_ne (ne_of_none hu f0)]; exact ek _ _ hu
      · have hb := of_decide_eq_false hb
        refine go_when (et_test (ev_eqI (ev_var rfl) ev_c)) (fun hc => ?_) (fun hc => ?_)
        · have hc := of_decide_eq_true hc
          refine go_app h1 (ev_var rfl) (ev_addI (ev_mulI (ev_var rfl) ev_c (.inr ⟨by decide, by decide⟩)) ev_c) (by rw [List.length_map]; omega) (go_next (go_up rfl ⟨⟨_, _, rfl⟩, ?_, ?_, ?_⟩))
          · rw [upd_ne n01, if_neg hb, List.append_nil]; exact h0
          · rw [upd_same, if_pos hc, List.map_append] <;> rfl
          · exact fun b u hu => by rw [upd_ne (ne_of_none hu f1)]; exact ek _ _ hu
        · have hc := of_decide_eq_false hc
          refine go_up rfl ⟨⟨_, _, rfl⟩, ?_, ?_, ek⟩
          · rw [if_neg hb, List.append_nil]; exact h0
          · rw [if_neg hc, List.append_nil]; exact h1
    · rintro σ Hk ⟨⟨y1, z1', rfl⟩, h0, h1, ek⟩
      have ln := sidesK_len xs xs.length
      refine go_asg (ev_is (ev_min (ev_lenQ (ev_var rfl) (sq_of h0)) (ev_lenQ (ev_var rfl) (sq_of h1))) (w := .int ((min (leftA xs xs.length).length (rightA xs xs.length).length : Nat) : Int)) (by rw [List.length_map, List.length_map]; congr 1; omega)) ?_
      have hw := law_weigh (xs := xs) (n := xs.length) (k := min (leftA xs xs.length).length (rightA xs xs.length).length) (by omega) (Nat.min_le_left _ _) (Nat.min_le_right _ _)
      have hm1 : min (leftA xs xs.length).length (rightA xs xs.length).length ≤ (leftA xs xs.length).length := Nat.min_le_left _ _
      have hm2 : min (leftA xs xs.length).length (rightA xs xs.length).length ≤ (rightA xs xs.length).length := Nat.min_le_right _ _
      generalize leftA xs xs.length = L0 at *
      generalize rightA xs xs.length = L1 at *
      generalize min L0.length L1.length = k at *
      refine go_parLL (xs := (L0.take k).map V.int) (ys := (L1.take k).map V.int) (el_is (el_slTo (ev_var rfl) (eo_some (ev_var rfl)) (sq_of h0) (by omega)) (by rw [Int.toNat_natCast, List.map_take])) (el_is (el_slTo (ev_var rfl) (eo_some (ev_var rfl)) (sq_of h1) (by omega)) (by rw [Int.toNat_natCast, List.map_take])) fun px py fx fy nxy => ?_
      have hx0 : upd (upd Hk px (.lst ((L0.take k).map V.int))) py (.lst ((L1.take k).map V.int)) px = some (.lst ((L0.take k).map V.int)) := by rw [upd_ne nxy, upd_same]
      have hy0 : upd (upd Hk px (.lst ((L0.take k).map V.int))) py (.lst ((L1.take k).map V.int)) py = some (.lst ((L1.take k).map V.int)) := upd_same
      have e1 : Ex H (upd (upd Hk px (.lst ((L0.take k).map V.int))) py (.lst ((L1.take k).map V.int))) := fun b u hb => by
        have z := ek _ _ hb
        rw [upd_ne (ne_of_none z fy), upd_ne (ne_of_none z fx)]
        exact z
      generalize upd (upd Hk px (.lst ((L0.take k).map V.int))) py (.lst ((L1.take k).map V.int)) = H1 at *
      have lx : (L0.take k).length = k := by rw [List.length_take]; omega
      have ly : (L1.take k).length = k := by rw [List.length_take]; omega
      have lk : k ≤ 31 := by omega
      generalize L0.take k = x at *
      generalize L1.take k = y at *
      obtain ⟨b1, b2, _, _⟩ := weighW_bounds hw
      have z1 := numsT_len (l := x) (by omega) b1
      have z2 := numsT_len (l := y) (by omega) b2
      refine go_asg (v := .str (S (numsT x ++ bar ++ numsT y))) (ev_addT (a := numsT x ++ bar) (b := numsT y) (ev_addT (a := numsT x) (b := bar) (ev_numsT ev_c (ev_var rfl) hx0 (by omega) b1 (fun _ => rfl) (fun _ => rfl)) ev_c (by show _ + 3 ≤ _; omega)) (ev_numsT ev_c (ev_var rfl) hy0 (by omega) b2 (fun _ => rfl) (fun _ => rfl)) (by rw [List.length_append]; show _ + 3 + _ ≤ _; omega)) ?_
      refine go_ifAsg (z := .str (S (textOf x y))) rfl (et_test (ev_eqI (ev_var rfl) ev_c)) ev_c ?_ ?_
      · unfold textOf
        by_cases hk0 : k = 0
        · have ex : x = [] := List.eq_nil_of_length_eq_zero (by omega)
          rw [if_pos (by rw [hk0] <;> rfl), if_pos ex]
        · have ex : ¬ x = [] := fun z => by rw [z] at lx; exact hk0 lx.symm
          rw [if_neg (by rw [decide_eq_false (by omega)]; exact Bool.false_ne_true), if_neg ex]
      have lt : (textOf x y).length ≤ 700 := by
        unfold textOf
        split
        · decide
        · rw [List.length_append, List.length_append]
          show _ + 3 + _ ≤ _
          omega
      have wr : writR K x y = .val (.str (S (textOf x y))) := by
        unfold writR
        rw [if_pos hw]
      generalize textOf x y = tx at *
      have cnt : ∀ m : List Nat, m.length ≤ 900 → m.length ≤ 10000 ∧ m.count 32 ≤ 900 := fun m h => by
        have := List.count_le_length (a := 32) (l := m)
        omega
      refine go_asgLL (el_listOf (ev_var rfl) (sq_of hx0)) (el_listOf (ev_var rfl) (sq_of hy0)) fun a b l fa fb fl nab nal nbl => ?_
      have kz : upd (upd (upd H1 a (.lst (x.map V.int))) b (.lst (y.map V.int))) l (.lst [.ref a, .ref b]) l = some (.lst [.ref a, .ref b]) := upd_same
      have ka : upd (upd (upd H1 a (.lst (x.map V.int))) b (.lst (y.map V.int))) l (.lst [.ref a, .ref b]) a = some (.lst (x.map V.int)) := by rw [upd_ne nal, upd_ne nab, upd_same]
      have kb : upd (upd (upd H1 a (.lst (x.map V.int))) b (.lst (y.map V.int))) l (.lst [.ref a, .ref b]) b = some (.lst (y.map V.int)) := by rw [upd_ne nbl, upd_same]
      have e2 : Ex H1 (upd (upd (upd H1 a (.lst (x.map V.int))) b (.lst (y.map V.int))) l (.lst [.ref a, .ref b])) := fun c u hc => by rw [upd_ne (ne_of_none hc fl), upd_ne (ne_of_none hc fb), upd_ne (ne_of_none hc fa)]; exact hc
      generalize upd (upd (upd H1 a (.lst (x.map V.int))) b (.lst (y.map V.int))) l (.lst [.ref a, .ref b]) = H2 at *
      have sw := sx_written (K := K) ka kb (by omega) (by omega)
      rw [wr] at sw
      refine go_when (b := false) (et_is (et_or (et_test (ev_neT (a := tx) (ev_callX (ea_cons (ev_ixL (n := 0) (ev_var rfl) ev_c (sq_of kz) rfl) (ea_cons (ev_ixL (n := 1) (ev_var rfl) ev_c (sq_of kz) rfl) ea_nil)) sw) (ev_var rfl))) fun _ => et_or (et_test (ev_neTwo (l := x) (r := y) (ev_var rfl) (sq_of kz) (sq_of ka) (sq_of kb) (ev_var rfl) (ev_var rfl) (sq_of (e2 _ _ hx0)) (sq_of (e2 _ _ hy0)))) fun _ =>
        et_not (et_B (ev_call0 (ea_cons (ev_var rfl) ea_nil) (sv_law_right (cnt tx (by omega)).1 (cnt tx (by omega)).2)))) (by rw [decide_eq_true rfl] <;> rfl)) (fun h => by cases h) (fun _ => ?_)
      have hp2 := ex_l (e1.trans e2) hp
      refine go_asg (ev_addI (ev_call0 (ea_cons (ev_var rfl) (ea_cons (ev_c (v := .int ((3 : Nat) : Int))) ea_nil)) (sv_cell_at hp2)) (ev_mulI ev_c (ev_call0 (ea_cons (ev_var rfl) (ea_cons (ev_c (v := .int ((0 : Nat) : Int))) ea_nil)) (sv_cell_at hp2)) (cmul_l (by decide) (by decide)))) ?_
      generalize xs.getD 3 0 + 7 * xs.getD 0 0 = cl
      have dr : ∀ (c : Int) (j m : Nat), 0 < m → ∃ d : Nat, d < m ∧ drawI c j ((m : Nat) : Int) = ((d : Nat) : Int) := fun c j m hm => by
        have a := draw_0 (c := c) (k := j) (many := ((m : Nat) : Int)) (by omega)
        have b := draw_lt (c := c) (k := j) (many := ((m : Nat) : Int)) (by omega)
        exact ⟨(drawI c j ((m : Nat) : Int)).toNat, by omega, by omega⟩
      refine go_forR (n := 3) (fun i σ Hq => (∃ u9 u10 u11, σ = [some (.ref p), some (.ref px), some (.ref py), y1, z1', some (.int (k : Nat)), some (.str (S tx)), some (.ref l), some (.int cl), u9, u10, u11, none, none]) ∧ Ex H2 Hq) (ea_cons (ev_c (v := .int ((3 : Nat) : Int))) ea_nil) (by decide) ⟨⟨_, _, _, rfl⟩, Ex.refl _⟩ ?_ ?_
      · rintro i σ Hq hi ⟨⟨u9, u10, u11, rfl⟩, eq⟩
        obtain ⟨at', _, hat⟩ := dr (cl + ((i : Nat) : Int)) 1 (tx.length + 1) (by omega)
        obtain ⟨d15, h15, hd15⟩ := dr (cl + ((i : Nat) : Int)) 2 15 (by decide)
        obtain ⟨d2, h2, hd2⟩ := dr (cl + ((i : Nat) : Int)) 3 2 (by decide)
        obtain ⟨d4, _, hd4⟩ := dr (cl + ((i : Nat) : Int)) 4 2 (by decide)
        refine go_asg (v := .int (at' : Nat)) (ev_is (ev_call0 (ea_cons (ev_addI (ev_var rfl) (ev_var rfl)) (ea_cons (ev_c (v := .int ((1 : Nat) : Int))) (ea_cons (ev_is (ev_addI (ev_lenT (ev_var rfl) (by omega)) ev_c) (w := .int ((tx.length + 1 : Nat) : Int)) (by congr 1)) ea_nil))) (sv_draw (by omega))) (by rw [hat])) ?_
        obtain ⟨sg, hsg, lsg⟩ : ∃ sg : List Nat, [V.str (S []), V.str (S [([48, 49, 50, 51, 52, 53, 54, 55, 56, 57, 32, 124, 45, 120, 10] : List Nat).getD d15 0])][d2]? = some (.str (S sg)) ∧ sg.length ≤ 1 := by
          have cs : d2 = 0 ∨ d2 = 1 := by omega
          rcases cs with e | e
          · subst e; exact ⟨[], rfl, by simp⟩
          · subst e; exact ⟨_, rfl, by simp⟩
        refine go_asg (v := .str (S sg)) (ev_ixU (n := d2) (eu_tup (ea_cons ev_c (ea_cons (ev_ixS (n := d15) ev_c (ev_is (ev_call0 (ea_cons (ev_addI (ev_var rfl) (ev_var rfl)) (ea_cons (ev_c (v := .int ((2 : Nat) : Int))) (ea_cons (ev_c (v := .int ((15 : Nat) : Int))) ea_nil))) (sv_draw (by decide))) (by rw [hd15])) (by decide) (by show d15 < 15; exact h15)) ea_nil)) (by simp)) (ev_is (ev_call0 (ea_cons (ev_addI (ev_var rfl) (ev_var rfl)) (ea_cons (ev_c (v := .int ((3 : Nat) : Int))) (ea_cons (ev_c (v := .int ((2 : Nat) : Int))) ea_nil))) (sv_draw (by decide))) (by rw [hd2])) hsg) ?_
        have lt1 : (tx.take at').length ≤ 700 := by rw [List.length_take]; omega
        have lt2 : (tx.drop (at' + d4)).length ≤ tx.length - at' := by rw [List.length_drop]; omega
        have lt3 : (tx.take at').length ≤ at' := by rw [List.length_take]; omega
        have lt4 : (tx.take at').length ≤ tx.length := by rw [List.length_take]; omega
        have lt5 : ((tx.take at' ++ sg) ++ tx.drop (at' + d4)).length ≤ 900 := by
          rw [List.length_append, List.length_append]
          omega
        refine go_when (b := false) (et_is (et_not (et_B (ev_call0 (ea_cons (ev_addT (a := tx.take at' ++ sg) (b := tx.drop (at' + d4)) (ev_addT (a := tx.take at') (b := sg) (ev_is (ev_slTo (ev_var rfl) (eo_some (ev_var rfl)) (by omega) (by omega)) (by rw [Int.toNat_natCast])) (ev_var rfl) (by omega)) (ev_is (ev_slFrom (i := ((at' + d4 : Nat) : Int)) (ev_var rfl) (eo_some (ev_is (ev_addI (ev_var rfl) (ev_is (ev_call0 (ea_cons (ev_addI (ev_var rfl) (ev_var rfl)) (ea_cons (ev_c (v := .int ((4 : Nat) : Int))) (ea_cons (ev_c (v := .int ((2 : Nat) : Int))) ea_nil))) (sv_draw (by decide))) (by rw [hd4]))) (by congr 1))) (by omega) (by omega)) (by rw [Int.toNat_natCast])) (by rw [List.length_append]; omega)) ea_nil) (sv_law_right (cnt _ lt5).1 (cnt _ lt5).2)))) rfl) (fun h => by cases h) (fun _ => go_next (go_up rfl ⟨⟨_, _, _, rfl⟩, eq⟩))
      · rintro σ Hq ⟨⟨u9, u10, u11, rfl⟩, eq⟩
        refine go_when (b := false) (et_is (et_not (et_B (ev_allR (R := fun x _ => strOk x) er_few (fun _ => rfl) (fun _ _ _ _ h => h) (fun x H1 e ⟨m, ex, h1, h2⟩ => by
          subst ex
          exact ev_call0 (ea_cons (ev_var rfl) ea_nil) (sv_law_right h1 h2))))) rfl) (fun h => by cases h) (fun _ => ?_)
        exact go_ret (ev_allR (R := BadT K) ((er_lstU (n := 4) badT_mono (eau_cons badT_mono (er_ev ev_c fun H1 e => ⟨_, .base .non, kit_ty (by decide +kernel)⟩) (eau_cons badT_mono (er_ev ev_c fun H1 e => ⟨_, .base (.int _), kit_ty (by decide +kernel)⟩) (eau_cons badT_mono (er_lst (el_lst (ea_cons ev_c ea_nil) (by simp)) fun p H1 e hp => ⟨_, tyx_sql (sq_of hp), kit_ty (by decide +kernel)⟩) (eau_cons badT_mono (er_ev ev_c fun H1 e => ⟨_, .base (.bl _), kit_ty (by decide +kernel)⟩) eau_nil)))) (by decide)).weak fun v H2 e r => ⟨4, by decide, r⟩) (fun _ => rfl) badT_mono (fun x H1 e h => ev_call0 (ea_cons (ev_var rfl) ea_nil) (sv_refused (.inl h)))) (q.mono ((e1.trans e2).trans eq))
end Od

namespace Od
open PySem PySem.Spec PyProof.Rows L2 SX Evl
/-! ### the head -/
abbrev RowO : PySem.W.OpenRow := PySem.W.OpenLaw.row PySem.Challenge.rw_oddcoin_k05_written
abbrev hk : PySem.W.Hook := hookQ 4 fas fns exs
def ob (s : PySem.W.SharedT) : AlQ := obsQG 4 fas fns exs (HandSHeadRun.getT s)
theorem ob_eq (s : PySem.W.SharedT) : ob s = hk.obs s.abs := obsQG_eq (HandSHeadRun.getT_eq s)
abbrev looseN : List Str := (["BadCoin", "BadMarks", "BadOutcome", "BadText", "BadWeighing", "CoinError", "FIGURES", "MOST", "Never", "__name__", "_law_cell_at", "_law_draw", "_law_few", "_law_in", "_law_number"] : List Str) ++ (["_law_refused", "_law_right", "greatest", "is_side", "is_weighing", "is_whole", "number_in", "read", "written"] : List Str)
theorem run (w : World) : HandSHeadRun.RunEq RowO (PySem.W.view RowO.prog [28]) hk ob 8000 looseN w := by
  intro os
  kernel_rfl
theorem theEnd {P : Program} {w : World} {K : PySem.W.Frag} {h : Heap} {mg : Str → Option Value} {f : Addr} (X : K.In h) (G : h.Ns mainGlobals mg) (hfa : mg ("law" : Str) = some (.ref f)) (c : SaysQ fas fns exs K) :
    ∃ fd : FuncData, (∀ (s : Shared) (v : Value), BindsTo s fd ⟨[v], []⟩ [("_law_script", v)]) ∧ ∀ base : Heap, K.In base → base.Ns mainGlobals mg → FnOk P w K mg base CX0 9 f fd ["_law_script"] (spLaw K) := by
  have T := txt_of X G c
  obtain ⟨fd, F⟩ := T.f_law
  have e := hfa.symm.trans T.g_law
  cases e
  have b := FunD.bindsA (ps := ["_law_script"]) F fun _ _ _ _ _ _ us hl => match us, hl with | [_], _ => rfl
  exact ⟨fd, fun s v => b s [v] rfl, fun base _ _ => BodyOk.fn F sc_law len1 (bd_law T)⟩
end Od
open PySem PySem.W PySem.Calls PyProof.Rows
theorem PySem.Challenge.cw_oddcoin_k05_written_holds : PySem.Challenge.rw_oddcoin_k05_written.Holds := by
  w_on; o_law
  refine HandSHeadRun.head_any (r := OpenLaw.row PySem.Challenge.rw_oddcoin_k05_written) (q := view (OpenLaw.row PySem.Challenge.rw_oddcoin_k05_written).prog [28]) (H := Od.hk) (ob := Od.ob) (M := 8000) (loose := Od.looseN) (d := HandSHeadRun.topDef (OpenLaw.row PySem.Challenge.rw_oddcoin_k05_written).prog 28) (kwd := []) Od.ob_eq
    (by kernel_rfl) (fun s => by kernel_rfl) Od.run (by kernel_rfl) (by kernel_rfl) (by kernel_rfl) (by rfl) (by first | assumption | decide +kernel) (by decide +kernel) ⟨rfl, rfl, rfl, rfl, rfl, by decide +kernel⟩ ?hw ?hc
  case hw => w_witness2
  case hc =>
    refine L2.walk_ofE (l := PySem.Challenge.rw_oddcoin_k05_written) (n := 63) (k := 9) (x := "_law_script") (CX := L2.CX0) rfl (by decide) (by kernel_rfl) ⟨rfl, by decide, by decide⟩ ?F (fun _ _ _ _ z => z)
    intro w mg fa h Y G hmg0
    obtain ⟨K, KX, c⟩ := Y
    have hmg : mg ("law" : PySem.Str) = some (.ref fa) := by
      have e : (HandSHeadRun.topDef (OpenLaw.row PySem.Challenge.rw_oddcoin_k05_written).prog 28).name = ("law" : PySem.Str) := by kernel_rfl
      rw [← e]
      exact hmg0
    obtain ⟨fd, hb, hF⟩ := Od.theEnd (P := (PySem.Challenge.rw_oddcoin_k05_written).prog) (w := w) KX G hmg c
    exact ⟨K, fd, Od.spLaw K, KX, hb, fun H a ns hl _ hS => ⟨.ref a, rfl, a, ns, rfl, hS, hl, fun _ _ => rfl⟩, hF⟩
