import PyProof.Rows.All
import Wide.All
import OpenK.AllK
import Wide.FinOn
import PyProof.EqAt
import PyProof.EqKinds
import PyProof.TupleCall
import Lean
import HandS.ForMost
import HandS.WordsExc
import HandS.Exc
import HandS.ExcOwn
import HandS.ExcIs
import HandS.TryOnly
import HandS.Defaults
import HandS.IsInst
import HandS.Head0
import HandS.Head1
import HandS.Head2
import HandS.HeadEnd
import HandS.HeadHook1
import HandS.HeadHook2
import HandS.Evl
import HandS.Codes
import HandS.StrMore
import HandS.TupLe
import HandS.SortInts
import HandS.Flow
import HandS.Style
import HandS.Walk
import PyProof.Rows.StrRev
import PyProof.Rows.StrStep
import KE.GoesMore
import HandS.New0
import HandS.SetFor
import HandS.Strs
import PyProof.Rows.CountFlat
import HandS.HotCalls
import PySem.Challenge.RW_oddcoin_k03_weighings
set_option Elab.async false
set_option linter.all false
set_option maxRecDepth 100000
set_option maxHeartbeats 4000000
namespace Od
open PySem PySem.Spec PyProof.Rows L2
/-! ### facts that the top leaves, and some truths more, read by one look -/
structure InsK (K : PySem.W.Frag) (C : Addr) : Prop where
  ha : PySem.W.findIn K (.ref C) "__class__" = some (some (.builtin "object.__class__"))
  hn : PySem.W.specialIn K (.builtin "object.__class__") "__get__" = some (some (.builtin "getset_descriptor.__get__"))
  ht : PySem.W.takesIn K (.builtin "object.__class__") = some true
  hm : PySem.W.mroIn K C (.type "object") = some true
def insB (K : PySem.W.Frag) (C : Addr) : Bool :=
  He.eqO (PySem.W.findIn K (.ref C) "__class__") (some (some (.builtin "object.__class__"))) &&
  (He.eqO (PySem.W.specialIn K (.builtin "object.__class__") "__get__") (some (some (.builtin "getset_descriptor.__get__"))) &&
  (decide (PySem.W.takesIn K (.builtin "object.__class__") = some true) && decide (PySem.W.mroIn K C (.type "object") = some true)))
theorem insB_ok {K : PySem.W.Frag} {C : Addr} (h : insB K C = true) : InsK K C := by
  obtain ⟨h1, h⟩ := He.ba h
  obtain ⟨h2, h⟩ := He.ba h
  obtain ⟨h3, h4⟩ := He.ba h
  exact ⟨He.eqO_ok h1, He.eqO_ok h2, of_decide_eq_true h3, of_decide_eq_true h4⟩
structure Mk0 (K : PySem.W.Frag) (C : Addr) : Prop where
  makes : PySem.W.makesIn K C = true
  init : PySem.W.findIn K (.ref C) "__init__" = some (some (.builtin "object.__init__"))
  kp : PySem.W.keepIn K (.ref C) = true
def mk0B (K : PySem.W.Frag) (C : Addr) : Bool :=
  PySem.W.makesIn K C && (He.eqO (PySem.W.findIn K (.ref C) "__init__") (some (some (.builtin "object.__init__"))) && PySem.W.keepIn K (.ref C))
theorem mk0B_ok {K : PySem.W.Frag} {C : Addr} (h : mk0B K C = true) : Mk0 K C := by
  obtain ⟨h1, h⟩ := He.ba h
  obtain ⟨h2, h3⟩ := He.ba h
  exact ⟨h1, He.eqO_ok h2, h3⟩
def excCB (K : PySem.W.Frag) (D : Addr) : Bool :=
  He.eqO (PySem.W.findIn K (.ref D) "__getattribute__") (some (some (.builtin "BaseException.__getattribute__"))) &&
  (He.eqO (PySem.W.findIn K (.ref D) "__getattr__") (some none) &&
  (decide (PySem.W.subIn K (.ref D) (.type "BaseException") = some true) && (PySem.W.hasDictIn K D && insB K D)))
theorem excCB_ok {K : PySem.W.Frag} {D : Addr} (h : excCB K D = true) : L2.ExcC K D := by
  obtain ⟨h1, h⟩ := He.ba h
  obtain ⟨h2, h⟩ := He.ba h
  obtain ⟨h3, h⟩ := He.ba h
  obtain ⟨h4, h5⟩ := He.ba h
  have i := insB_ok h5
  exact ⟨He.eqO_ok h1, He.eqO_ok h2, of_decide_eq_true h3, h4, i.ha, i.hn, i.ht, i.hm⟩
abbrev AlQ : Type := He.AlD × Bool
def obsQ (fa : List He.Fa) (fn : List He.DefD) (ex : PySem.W.Frag → List Bool) (K : PySem.W.Frag) : AlQ := (He.obsD fa fn K, (ex K).all id)
def valQ (fn : List He.DefD) : AlQ := (He.valD fn, true)
def SaysQ (fa : List He.Fa) (fn : List He.DefD) (ex : PySem.W.Frag → List Bool) (K : PySem.W.Frag) : Prop := He.SaysD fa fn K ∧ (ex K).all id = true
theorem SaysQ.ex {fa : List He.Fa} {fn : List He.DefD} {ex : PySem.W.Frag → List Bool} {K : PySem.W.Frag} (c : SaysQ fa fn ex K) (i : Nat) {b : Bool} (h : (ex K)[i]? = some b) : b = true :=
  List.all_eq_true.mp c.2 b (List.mem_of_getElem? h)
def obsQG (n : Nat) (fa : List He.Fa) (fn : List He.DefD) (ex : PySem.W.Frag → List Bool) (g : Addr → Option Obj) : AlQ := obsQ fa fn ex (He.frG g (He.asD g n))
def hookQ (n : Nat) (fa : List He.Fa) (fn : List He.DefD) (ex : PySem.W.Frag → List Bool) : PySem.W.Hook where
  α := AlQ
  obs := fun s => obsQG n fa fn ex s.heap.get?
  val := fun _ => valQ fn
  says := fun _ h => ∃ K : PySem.W.Frag, K.In h ∧ SaysQ fa fn ex K
  of := fun _ _ e => ⟨_, He.frG_in, congrArg (fun z : AlQ => z.1) e, congrArg (fun z : AlQ => z.2) e⟩
  keeps := fun _ _ _ ⟨K, hK, c⟩ k => ⟨K, PySem.W.Frag.In.keeps hK k, c⟩
theorem obsQG_eq {n : Nat} {fa : List He.Fa} {fn : List He.DefD} {ex : PySem.W.Frag → List Bool} {g : Addr → Option Obj} {s : Shared} (h : ∀ a, g a = s.heap.get? a) : obsQG n fa fn ex g = (hookQ n fa fn ex).obs s := by
  have e : g = s.heap.get? := funext h
  rw [e] <;> rfl
end Od

namespace Od
open PySem PySem.Spec PyProof.Rows L2 SX
open PySem.Builtin PySem.Builtin.Str
/-! ### texts as lists of signs -/
theorem get_take_count (m : List Nat) (c i : Nat) : (m.take (i + 1)).count c = (m.take i).count c + (if m[i]? = some c then 1 else 0) := by
  rw [List.take_add_one, List.count_append]
  cases h : m[i]? with
  | none => simp
  | some d =>
    by_cases e : d = c
    · subst e; simp
    · have : ¬ (some d = some c) := fun q => e (Option.some.inj q)
      rw [if_neg this]
      simp [e]
theorem count_run (m : List Nat) (c : Nat) : ∀ (k a : Nat) (st : Array Nat × Nat), a + k = m.length + 1 → st.fst.size = (m.take a).count c → st.snd ≤ a →
    (forIn (List.range' a k) st (StrLaws.occBody (S m) (S [c]) m.length (m.length + 1))).run.fst.size = m.count c
  | 0, a, st, h, h1, h2 => by
    have e : m.take a = m := List.take_of_length_le (by omega)
    rw [e] at h1
    simpa using h1
  | k + 1, a, st, h, h1, h2 => by
    rw [List.range'_succ, List.forIn_cons]
    have ec := get_take_count m c a
    have hs : (S [c]).length = 1 := rfl
    have one := StrLaws.subAt_one (S m) c a
    have el : (S m).length = m.length := S_len m
    rw [el] at one
    have ht : (S m).cps.toList = m := rfl
    rw [ht] at one
    have hcount : (m.take a).count c ≤ m.length := Nat.le_trans (List.count_le_length) (by simp; omega)
    unfold StrLaws.occBody
    by_cases hc : m[a]? = some c
    · have q := one.mpr hc
      rw [if_pos hc] at ec
      have cond : ((st.fst.size < m.length + 1 ∧ st.snd ≤ a) ∧ a + (S [c]).length ≤ m.length) ∧ subAt (S m) (S [c]) a = true :=
        ⟨⟨⟨by omega, h2⟩, q.1⟩, q.2⟩
      rw [if_pos cond]
      exact count_run m c k (a + 1) (st.fst.push a, a + (S [c]).length) (by omega) (by simp; omega) (by rw [hs]; omega)
    · rw [if_neg hc] at ec
      have cond : ¬ (((st.fst.size < m.length + 1 ∧ st.snd ≤ a) ∧ a + (S [c]).length ≤ m.length) ∧ subAt (S m) (S [c]) a = true) := fun z => hc (one.mp ⟨z.1.2, z.2⟩)
      rw [if_neg cond]
      exact count_run m c k (a + 1) (st.fst, st.snd) (by omega) (by show st.fst.size = _; omega) (by show st.snd ≤ _; omega)
theorem count_S (m : List Nat) (c : Nat) : Txt.count (S m) (S [c]) = ((m.count c : Nat) : Int) := by
  unfold Txt.count
  rw [StrLaws.occ_eq]
  have el : (S m).length = m.length := S_len m
  rw [el, Array.length_toList]
  exact congrArg (fun z : Nat => (z : Int)) (count_run m c (m.length + 1 - 0) 0 (#[], 0) (by omega) (by simp) (Nat.le_refl _))
theorem foldl_app (m : List Nat) : ∀ (n : Nat) (acc : Array Nat), ((List.replicate n m.toArray).foldl (· ++ ·) acc).toList = acc.toList ++ (List.replicate n m).flatten
  | 0, acc => by simp
  | n + 1, acc => by
    rw [List.replicate_succ, List.foldl_cons, foldl_app m n, List.replicate_succ, List.flatten_cons]
    simp
theorem mul_S (m : List Nat) {n : Int} (h : 0 ≤ n) : Txt.mul (S m) n = S (List.replicate n.toNat m).flatten := by
  unfold Txt.mul
  by_cases h1 : n < 1
  · have e : n.toNat = 0 := by omega
    rw [if_pos h1, e]
    rfl
  · rw [if_neg h1]
    by_cases h2 : (n == 1 || (S m).length == 0) = true
    · rw [if_pos h2]
      rw [Bool.or_eq_true, beq_iff_eq, beq_iff_eq] at h2
      rcases h2 with e | e
      · subst e
        show S m = S (List.replicate 1 m).flatten
        simp
      · rw [S_len] at e
        have e2 : m = [] := List.length_eq_zero_iff.mp e
        subst e2
        have e3 : (List.replicate n.toNat ([] : List Nat)).flatten = [] := by simp
        rw [e3]
    · rw [if_neg h2]
      refine Str.ext' (Array.ext' ?_)
      rw [foldl_app]
      simp
theorem len_rep (m : List Nat) (n : Nat) : ((List.replicate n m).flatten).length = n * m.length := by
  simp [List.length_flatten]
def rMulT : R2 := fun x y H Q => ∃ (m : List Nat) (n : Int), x = .str (S m) ∧ y = .int n ∧ 0 ≤ n ∧ n ≤ 10000 ∧ m.length ≤ 100 ∧ Q (.str (S (List.replicate n.toNat m).flatten)) H
theorem op_mulT {X : Cx} : OpR X (binaryOp .Mult) rMulT := by
  intro pins s σ H x y v u Q I rx ry h
  obtain ⟨m, n, rfl, rfl, h0, h1, hm, q⟩ := h
  obtain ⟨t, rfl⟩ := rx
  obtain ⟨t', rfl⟩ := ry
  have el : (S m).length = m.length := S_len m
  refine SB.mul ⟨?_, fun _ _ => ?_, fun _ _ => ?_⟩ fun t2 k => ⟨.str (Txt.mul (S m) n), H, I.tok _, ⟨_, rfl⟩, by rw [mul_S m h0]; exact q⟩
  · have a1 : ¬ n < -(2 ^ 63 : Int) := by omega
    have a2 : ¬ n ≥ (2 ^ 63 : Int) := by omega
    rw [decide_eq_false a1, decide_eq_false a2] <;> rfl
  · rw [el]
    have hn : 0 < n := by
      rcases Int.lt_or_eq_of_le h0 with z | z
      · exact z
      · omega
    have : (100 : Int) ≤ (2 ^ 63 - 1) / n := Int.le_ediv_of_mul_le hn (by omega)
    omega
  · rw [el]
    have : m.length * n.toNat ≤ 100 * 10000 := Nat.mul_le_mul hm (by omega)
    unfold tooLong
    have e : sizeLine = 16777216 := sizeLine_eq
    simp only [decide_eq_false_iff_not, Nat.not_lt, gt_iff_lt]
    first
      | omega
      | (rw [e]; omega)
/-! ### s[::-1] of a text -/
theorem rev_S (m : List Nat) (u : Tok) : Txt.sliceBy (S m) none none (-1, u) = S m.reverse := by
  refine Str.ext' (Array.ext' ?_)
  rw [PyProof.Rows.step_rev_list]
  show _ = m.reverse
  have el : (S m).length = m.length := S_len m
  rw [el]
  refine List.ext_getElem (by simp) fun i h1 h2 => ?_
  simp only [List.getElem_map, List.getElem_range, List.getElem_reverse]
  have hi : i < m.length := by simpa using h1
  have hb : m.length - 1 - i < m.length := by omega
  show m.toArray.getD (m.length - 1 - i) 0 = _
  simp [Array.getD, hb]
end Od

namespace Od
open PySem PySem.Spec PyProof.Rows L2 SX
open PySem.Builtin PySem.Builtin.Str
section
variable {X : Cx}
def tRevS (te : TE) : TE := fun σ H Q => te σ H fun x H1 => ∃ m : List Nat, x = .str (S m) ∧ m.length ≤ 100000 ∧ Q (.str (S m.reverse)) H1
theorem pe_revS {e : Expr} {te : TE} {k : Nat} {p1 p2 p3 pos : Pos} (he : PE X e te) : PE X (.Subscript e (.Slice none none (some (.UnaryOp .USub (.Constant (.int 1) k p1) p2)) p3) pos) (tRevS te) := by
  refine ⟨fun pins s σ H Q I h => ?_⟩
  refine Subscript_ (thn (he.run pins s σ H _ I h) fun v s1 ⟨x, H1, I1, r1, q1⟩ => ?_)
  obtain ⟨m, ex, hm, q⟩ := q1
  subst ex
  obtain ⟨t, rfl⟩ := r1
  have hst : PO X (some (.UnaryOp .USub (.Constant (.int 1) k p1) p2)) (tPart (tUn (rU fun i => .int (-i)) (tC (.int 1)))) := po_some (pe_un un_neg pe_int)
  refine wpAny_Slice (thn (po_none.run pins s1 σ H1 (fun o H2 => o = none ∧ H2 = H1) I1 ⟨rfl, rfl⟩) fun vl s2 ⟨l, H2, I2, pl, el, e2⟩ => ?_)
  subst el e2
  refine thn (po_none.run pins s2 σ H2 (fun o H3 => o = none ∧ H3 = H2) I2 ⟨rfl, rfl⟩) fun vu s3 ⟨u, H3, I3, pu, eu, e3⟩ => ?_
  subst eu e3
  refine thn (hst.run pins s3 σ H3 (fun o H4 => o = some (-1) ∧ H4 = H3) I3 ⟨1, rfl, -1, rfl, rfl, rfl⟩) fun vs s4 ⟨o, H4, I4, ps, eo, e4⟩ => ?_
  subst eo e4
  have I5 : Inv X pins σ H4 { s4 with heap := s4.heap.push { cls := .type "slice", data := .fields #[vl, vu, vs] } } := I4.kept (t' := s4.toks) fun b ob q => Heap.get?_push_of_some _ q
  show wpAny (model X.prog X.w) X.A (subscriptTail e (.Slice none none (some (.UnaryOp .USub (.Constant (.int 1) k p1) p2)) p3) (.str (S m) t) (.ref s4.heap.objs.size)) (EP X pins σ Q) X.xe { s4 with heap := s4.heap.push { cls := .type "slice", data := .fields #[vl, vu, vs] } }
  refine tail_any (ops := [.ref s4.heap.objs.size, .str (S m) t]) (typeIs_str _ _ _) (F.slot_str_getitem.lookup) ?_ (by with_unfolding_all rfl)
  obtain ⟨l', e1, e2⟩ := IsPart.raw pl
  obtain ⟨u', e3, e4⟩ := IsPart.raw pu
  obtain ⟨w', e5, e6⟩ := IsPart.raw ps
  cases l' with
  | some z => cases e2
  | none =>
    cases u' with
    | some z => cases e4
    | none =>
      cases w' with
      | none => cases e6
      | some z =>
        obtain ⟨i, ti⟩ := z
        have ei : i = -1 := Option.some.inj e6
        subst ei
        subst e1 e3 e5
        refine wpAny_getItem_str_slice (l := none) (u := none) (st := some (-1, ti)) ⟨_, Heap.get?_push_size _ rfl, rfl, rfl⟩ (show ((-1 : Int) == 0) = false by decide) ?_
        have hz : (S m).length ≤ sizeLine := by rw [S_len]; exact Nat.le_trans hm (by decide)
        have q2 : Q (.str (Txt.sliceBy (S m) none none (-1, ti))) H4 := by rw [rev_S]; exact q
        exact post_val_or_str ⟨Nat.le_trans (Txt.sliceBy_le (S m) _ _ (-1, ti) (show (-1 : Int) ≠ 0 by decide)) hz, fun t' c => ⟨.str _, H4, I5.tok _, ⟨_, rfl⟩, q2⟩⟩
/-! ### enumerate(text), enumerate(tuple) -/
/-- the items as they are told by y, each in a new pair -/
def ItE (n : Nat) (y : Nat → V) : It :=
  ⟨fun i _ => i < n, fun i H v H' => ∃ T, v = .ref T ∧ H T = none ∧ H' = upd H T (.tup [.int (i : Nat), y i]), fun i _ => i = n⟩
theorem turn_enumD {P : Program} {w : World} {K : PySem.W.Frag} {elts : List Expr} {kk : Nat} {tpos : Pos} {x : Str} {t : Tok} (e it : Addr) :
    Turn P w K (.Tuple elts kk tpos) (ItE x.cps.size fun i => .str ⟨#[x.cps.getD i 0]⟩) [e, it] e (fun i h => (∃ old, IsEnum h e it ((i : Nat) : Int) old) ∧ h.IsStrIter it (strIterType x) x t i ∧ e ≠ it) where
  mem := by simp
  obj := fun i h st b hb => by
    obtain ⟨⟨old, he⟩, ⟨o, ho, hc, hd⟩, _⟩ := st
    have e' : b = e ∨ b = it := by simpa using hb
    rcases e' with z | z
    · rw [z]; exact ⟨_, he, fun v q => nomatch q⟩
    · rw [z]; exact ⟨o, ho, fun v q => by rw [hd] at q; cases q⟩
  keep := fun i h h' st k => let ⟨⟨old, he⟩, ⟨o, ho, r⟩, hne⟩ := st; ⟨⟨old, k e (by simp) _ he⟩, ⟨o, k it (by simp) o ho, r⟩, hne⟩
  item := by
    intro X hP hw hK hc i pins s σ H E I hf st hg
    subst hP hw hK
    obtain ⟨⟨old, he⟩, hit, hne⟩ := st
    have hg' : i < x.cps.size := hg
    have hel : e < s.heap.objs.size := Heap.lt_size he
    have hil : it < s.heap.objs.size := by obtain ⟨_, q, _⟩ := hit; exact Heap.lt_size q
    have D := Draws.text (prog := X.prog) (w := X.w) (A := X.A.in1) (I.ok.hd hc) it x t
    refine wpAny_pyNext_enum_itemD D he hit hg' hne (by simp; exact hne) fun y h' tk hP ho hit' hT hsz hk => ?_
    obtain ⟨c, u, hc', rfl⟩ := hP
    have ec : x.cps.getD i 0 = c := by simp [Array.getD_eq_getD_getElem?, hc']
    refine ⟨_, rfl, wpAny_letOwnedTupleGo_enum (s := { s with heap := h', toks := tk + 1 }) ho fun h'' he' sb => ?_⟩
    have hT2 : h''.get? s.heap.objs.size = some { cls := .type "tuple", data := .seq #[.int i tk, .str ⟨#[c]⟩ u] } := (sb.2 _ (Nat.ne_of_gt hel)).trans hT
    have new : ObjOk X.prog X.w (upd H s.heap.objs.size (.tup [.int (i : Nat), .str ⟨#[c]⟩])) h'' s.heap.objs.size (.tup [.int (i : Nat), .str ⟨#[c]⟩]) :=
      ⟨by show 2 ≤ sizeLine; decide, [.int i tk, .str ⟨#[c]⟩ u], .cons ⟨_, rfl⟩ (.cons ⟨_, rfl⟩ .nil), ⟨_, hT2, rfl, _, rfl⟩⟩
    have I1 : Inv X pins σ (upd H s.heap.objs.size (.tup [.int (i : Nat), .str ⟨#[c]⟩])) { s with heap := h'', toks := tk + 1 } :=
      I.turnedNew (ch := [e, it]) (fun b ob hb q => (sb.2 b (fun z => hb (by simp [z]))).trans (hk b ob (fun z => hb (by simp [z])) (fun z => hb (by simp [z])) q)) hf (Nat.le_refl _) new
    refine ⟨.ref s.heap.objs.size, _, I1, rfl, ⟨_, rfl, I.hok.fresh (Nat.le_refl _), by show _ = upd _ _ (.tup [.int (i : Nat), .str ⟨#[x.cps.getD i 0]⟩]); rw [ec]⟩, ⟨⟨.str ⟨#[c]⟩ u, ?_⟩, ?_, hne⟩, fun b hb => ?_⟩
    · have e1 : ((i + 1 : Nat) : Int) = (i : Int) + 1 := by omega
      rw [e1]; exact he'
    · obtain ⟨o, ho2, r⟩ := hit'
      exact ⟨o, (sb.2 it (Ne.symm hne)).trans ho2, r⟩
    · have hb' : b < s.heap.objs.size := by
        have e' : b = e ∨ b = it := by simpa using hb
        rcases e' with z | z
        · rw [z]; exact hel
        · rw [z]; exact hil
      rw [upd_ne (Nat.ne_of_lt hb')]
      exact (hf b hb).1
  done := by
    intro X hP hw hK hc i pins s σ H E I hf st hg
    subst hP hw hK
    obtain ⟨⟨old, he⟩, hit, hne⟩ := st
    obtain ⟨f0, f1, f2, f3, f4, f5⟩ := hf it (by simp)
    have hx : i = x.cps.size := hg
    subst hx
    have D := Draws.text (prog := X.prog) (w := X.w) (A := X.A.in1) (I.ok.hd hc) it x t
    exact wpAny_pyNext_enum_endD D he hit fun h' eb => ⟨rfl, I.turned (t' := s.toks) (fun b o hb q => eb b o hb q) f0 f1 f3 f4 f5⟩
  self := fun A i s Q E st h => let ⟨⟨_, he⟩, _⟩ := st; wpAny_pyIter_enum he h
def iEnumS (te : TA) : TI := fun σ H R => te σ H fun vs H1 => ∃ m : List Nat, vs = [.str (S m)] ∧ R (ItE m.length fun i => .str (S [m.getD i 0])) H1
theorem pi_enumS {e : Expr} {ta : TA} {p pos tpos : Pos} {elts : List Expr} {kk : Nat} (hg : Gl X "enumerate") (hm : X.mg "enumerate" = none) (ha : PA X [e] ta) (hs : starEach [e] X.env = [(false, eval e X.env)] := by rfl) :
    PI X (.Tuple elts kk tpos) (.Call (.Name "enumerate" p) [e] [] pos) (iEnumS ta) := by
  refine ⟨fun pins s σ H R I h => ?_⟩
  refine Call_ (ld_blt I hg hm boot_enumerate (PyProof.Rows.callWith_type1 (thn (ha.run pos pins s σ H _ I h) fun us s1 ⟨vs, H1, I1, r1, q1⟩ => ?_) hs rfl))
  obtain ⟨m, ex, q⟩ := q1
  subst ex
  cases r1 with
  | cons r rr =>
    cases rr
    obtain ⟨t, rfl⟩ := r
    refine call_enumerate_str fun h' he hit hsz hk => wpAny_pyIter_enum he ?_
    have I2 : Inv X pins σ H1 { s1 with heap := h' } := I1.kept (t' := s1.toks) hk
    have hJ : (ItE (S m).cps.size fun i => .str ⟨#[(S m).cps.getD i 0]⟩) = ItE m.length fun i => .str (S [m.getD i 0]) := by
      have e1 : (S m).cps.size = m.length := S_len m
      have e2 : (fun i => V.str ⟨#[(S m).cps.getD i 0]⟩) = fun i => V.str (S [m.getD i 0]) := by
        funext i
        have e3 : (S m).cps.getD i 0 = m.getD i 0 := by
          show m.toArray.getD i 0 = m.getD i 0
          simp [Array.getD_eq_getD_getElem?, List.getD_eq_getElem?_getD]
        rw [e3]
      rw [e1, e2]
    have T := turn_enumD (P := X.prog) (w := X.w) (K := X.K) (elts := elts) (kk := kk) (tpos := tpos) (x := S m) (t := t) (s1.heap.objs.size + 1) s1.heap.objs.size
    rw [hJ] at T
    refine ⟨s1.heap.objs.size + 1, [s1.heap.objs.size + 1, s1.heap.objs.size], _, _, H1, rfl, I2, T, ⟨⟨.none, he⟩, hit, Nat.succ_ne_self _⟩, fun b hb => ?_, q⟩
    have e' : b = s1.heap.objs.size + 1 ∨ b = s1.heap.objs.size := by simpa using hb
    have hle : s1.heap.objs.size ≤ b := by
      rcases e' with z | z
      · rw [z]; exact Nat.le_add_right _ _
      · rw [z]; exact Nat.le_refl _
    exact I1.fpOk hle (I1.hok.fresh hle)
theorem walk_enumE {n : Nat} {y : Nat → V} : Walk (ItE n y) n (fun _ => True) (fun i H v H' => ∃ T, v = .ref T ∧ H T = none ∧ H' = upd H T (.tup [.int (i : Nat), y i])) :=
  ⟨fun _ _ hi _ => hi, fun _ _ => rfl, fun _ _ _ _ _ _ z => z⟩
end
end Od

namespace Od
open PySem PySem.Spec PyProof.Rows L2 SX Evl
/-! ## operators by names of their own -/
def rAddI : R2 := rI0 fun i j => .int (i + j)
def rSubI : R2 := rI0 fun i j => .int (i - j)
def rMulI : R2 := rI CMul fun i j => .int (i * j)
def rModI : R2 := rI (fun _ j => 0 < j) fun i j => .int (i % j)
def rDivI : R2 := rI CDiv fun i j => .int (i / j)
def rLtI : R2 := rI0 fun i j => .bl (decide (i < j))
def rLeI : R2 := rI0 fun i j => .bl (decide (i ≤ j))
def rGtI : R2 := rI0 fun i j => .bl (decide (j < i))
def rGeI : R2 := rI0 fun i j => .bl (decide (j ≤ i))
def rEqI : R2 := rI0 fun i j => .bl (decide (i = j))
def rNeI : R2 := rI0 fun i j => .bl (!decide (i = j))
def rNegI : V → Hp → VK → Prop := rU fun i => .int (-i)
def rEqB : R2 := fun x y H Q => ∃ a b, x = .bl a ∧ y = .bl b ∧ Q (.bl (decide (a = b))) H
def rNeB : R2 := fun x y H Q => ∃ a b, x = .bl a ∧ y = .bl b ∧ Q (.bl (!decide (a = b))) H
def rEqT : R2 := fun x y H Q => ∃ a b : List Nat, x = .str (S a) ∧ y = .str (S b) ∧ Q (.bl (decide (a = b))) H
def rNeT : R2 := fun x y H Q => ∃ a b : List Nat, x = .str (S a) ∧ y = .str (S b) ∧ Q (.bl (!decide (a = b))) H
def rAddT : R2 := fun x y H Q => ∃ a b : List Nat, x = .str (S a) ∧ y = .str (S b) ∧ a.length + b.length ≤ 100000 ∧ Q (.str (S (a ++ b))) H
def rInT : R2 := fun x y H Q => ∃ (c : Nat) (m : List Nat), x = .str (S [c]) ∧ y = .str (S m) ∧ Q (.bl (decide (c ∈ m))) H
def rNotInT : R2 := fun x y H Q => ∃ (c : Nat) (m : List Nat), x = .str (S [c]) ∧ y = .str (S m) ∧ Q (.bl (!decide (c ∈ m))) H
theorem S_eq (a b : List Nat) : decide (V.str (S a) = V.str (S b)) = decide (a = b) := by
  by_cases h : a = b
  · subst h; simp
  · rw [decide_eq_false h, decide_eq_false fun e => h (S_inj (V.str.inj e))]
section
variable {X : Cx}
theorem op_addI : OpR X (binaryOp .Add) rAddI := op_add
theorem op_subI : OpR X (binaryOp .Sub) rSubI := op_sub
theorem op_mulI : OpR X (binaryOp .Mult) rMulI := op_mul
theorem op_modI : OpR X (binaryOp .Mod) rModI := op_mod
theorem op_divI : OpR X (binaryOp .FloorDiv) rDivI := op_fdiv
theorem op_ltI : OpR X (compareOp .Lt) rLtI := op_lt
theorem op_leI : OpR X (compareOp .LtE) rLeI := op_le
theorem op_gtI : OpR X (compareOp .Gt) rGtI := op_gt
theorem op_geI : OpR X (compareOp .GtE) rGeI := op_ge
theorem un_negI : UnR X (unaryOp .USub) rNegI := un_neg
theorem dec_int (i j : Int) : decide (V.int i = V.int j) = decide (i = j) := by
  by_cases h : i = j
  · subst h; simp
  · rw [decide_eq_false h, decide_eq_false fun e => h (V.int.inj e)]
theorem dec_bl (i j : Bool) : decide (V.bl i = V.bl j) = decide (i = j) := by
  by_cases h : i = j
  · subst h; simp
  · rw [decide_eq_false h, decide_eq_false fun e => h (V.bl.inj e)]
theorem op_eqI : OpR X (compareOp .Eq) rEqI := fun pins s σ H x y v u Q I rx ry h => by
  obtain ⟨i, j, rfl, rfl, q⟩ := h
  exact op_eq pins s σ H _ _ v u Q I rx ry ⟨rfl, by rw [dec_int]; exact q⟩
theorem op_neI : OpR X (compareOp .NotEq) rNeI := fun pins s σ H x y v u Q I rx ry h => by
  obtain ⟨i, j, rfl, rfl, q⟩ := h
  exact op_ne pins s σ H _ _ v u Q I rx ry ⟨rfl, by rw [dec_int]; exact q⟩
theorem op_eqB : OpR X (compareOp .Eq) rEqB := fun pins s σ H x y v u Q I rx ry h => by
  obtain ⟨i, j, rfl, rfl, q⟩ := h
  exact op_eq pins s σ H _ _ v u Q I rx ry ⟨rfl, by rw [dec_bl]; exact q⟩
theorem op_neB : OpR X (compareOp .NotEq) rNeB := fun pins s σ H x y v u Q I rx ry h => by
  obtain ⟨i, j, rfl, rfl, q⟩ := h
  exact op_ne pins s σ H _ _ v u Q I rx ry ⟨rfl, by rw [dec_bl]; exact q⟩
theorem op_eqT : OpR X (compareOp .Eq) rEqT := fun pins s σ H x y v u Q I rx ry h => by
  obtain ⟨i, j, rfl, rfl, q⟩ := h
  exact op_eq pins s σ H _ _ v u Q I rx ry ⟨rfl, by rw [S_eq]; exact q⟩
theorem op_neT : OpR X (compareOp .NotEq) rNeT := fun pins s σ H x y v u Q I rx ry h => by
  obtain ⟨i, j, rfl, rfl, q⟩ := h
  exact op_ne pins s σ H _ _ v u Q I rx ry ⟨rfl, by rw [S_eq]; exact q⟩
theorem op_addT : OpR X (binaryOp .Add) rAddT := fun pins s σ H x y v u Q I rx ry h => by
  obtain ⟨a, b, rfl, rfl, hl, q⟩ := h
  exact op_add_str pins s σ H _ _ v u Q I rx ry ⟨_, _, rfl, rfl, by rw [S_len, S_len]; exact sz_of hl, by rw [S_cat]; exact q⟩
theorem op_inT : OpR X (compareOp .In) rInT := fun pins s σ H x y v u Q I rx ry h => by
  obtain ⟨c, m, rfl, rfl, q⟩ := h
  exact op_in_sign pins s σ H _ _ v u Q I rx ry ⟨c, S m, rfl, rfl, q⟩
theorem op_notInT : OpR X (compareOp .NotIn) rNotInT := fun pins s σ H x y v u Q I rx ry h => by
  obtain ⟨c, m, rfl, rfl, q⟩ := h
  exact op_notIn_sign pins s σ H _ _ v u Q I rx ry ⟨c, S m, rfl, rfl, q⟩
/-- a written text by its signs; a module's constants -/
theorem pe_strS {x : Str} {m : List Nat} {j : Nat} {pos : Pos} (e : x = S m) : PE X (.Constant (.str x) j pos) (tC (.str (S m))) := by
  rw [← e]
  exact pe_str
theorem pe_gS {x z : Str} {m : List Nat} {pos : Pos} (h : ∃ t, X.mg x = some (.str z t)) (e : z = S m) (hg : Gl X x := by rfl) (hd : (x == ("__debug__" : Str)) = false := by decide) : PE X (.Name x pos) (tC (.str (S m))) := by
  obtain ⟨t, h⟩ := h
  rw [← e]
  exact pe_glob hg h ⟨t, rfl⟩ hd
theorem pe_gI {x : Str} {z : Int} {pos : Pos} (h : ∃ t, X.mg x = some (.int z t)) (hg : Gl X x := by rfl) (hd : (x == ("__debug__" : Str)) = false := by decide) : PE X (.Name x pos) (tC (.int z)) := by
  obtain ⟨t, h⟩ := h
  exact pe_glob hg h ⟨t, rfl⟩ hd
theorem pe_gR {x : Str} {a : Addr} {pos : Pos} (h : X.mg x = some (.ref a)) (hg : Gl X x := by rfl) (hd : (x == ("__debug__" : Str)) = false := by decide) : PE X (.Name x pos) (tC (.ref a)) :=
  pe_glob hg h rfl hd
theorem pe_gTy {x : Str} {n : String} {pos : Pos} (h : X.mg x = none) (hv : bootBuiltins x = some (.type n) := by decide +kernel) (hg : Gl X x := by rfl) (hn : x ≠ "__name__" := by decide) (hd : (x == ("__debug__" : Str)) = false := by decide) : PE X (.Name x pos) (tC (.ty n)) :=
  pe_bltn hg h hv rfl hn hd
end
/-! ## built-in functions -/
def r1 (f : V → Hp → VK → Prop) : List V → Hp → VK → Prop := fun vs H Q => ∃ x, vs = [x] ∧ f x H Q
def rLenT : List V → Hp → VK → Prop := fun vs H Q => ∃ m : List Nat, vs = [.str (S m)] ∧ m.length ≤ 100000 ∧ Q (.int (m.length : Nat)) H
def rLenQ (K : PySem.W.Frag) : List V → Hp → VK → Prop := fun vs H Q => ∃ p ys, vs = [.ref p] ∧ (SqL K H p ys ∨ SqT K H p ys) ∧ Q (.int (ys.length : Nat)) H
def rMaxI : List V → Hp → VK → Prop := fun vs H Q => ∃ i j : Int, vs = [.int i, .int j] ∧ Q (.int (max i j)) H
def rMinI : List V → Hp → VK → Prop := fun vs H Q => ∃ i j : Int, vs = [.int i, .int j] ∧ Q (.int (min i j)) H
def rListOf (K : PySem.W.Frag) : List V → Hp → VK → Prop := fun vs H Q => ∃ p ys, vs = [.ref p] ∧ (SqL K H p ys ∨ SqT K H p ys) ∧ ∀ l, H l = none → Q (.ref l) (upd H l (.lst ys))
def rTupOf (K : PySem.W.Frag) : List V → Hp → VK → Prop := fun vs H Q => ∃ p ys, vs = [.ref p] ∧ SqL K H p ys ∧ ∀ l, H l = none → Q (.ref l) (upd H l (.tup ys))
section
variable {X : Cx}
theorem call_lenT : CallR X (.builtin "len") rLenT := fun pins s σ H xs us Q I r h => by
  obtain ⟨m, rfl, hm, q⟩ := h
  refine call_len_str pins s σ H _ us Q I r ⟨S m, rfl, by rw [S_len]; exact sz_of hm, ?_⟩
  rw [S_len]
  exact q
theorem call_lenQ : CallR X (.builtin "len") (rLenQ X.K) := call_len_seq
theorem call_maxI (hc : X.calm = true) : CallR X (.builtin "max") rMaxI := fun pins s σ H xs us Q I r h => by
  obtain ⟨i, j, rfl, q⟩ := h
  refine call_max2 hc pins s σ H _ us Q I r ⟨i, j, rfl, ?_⟩
  have e : (if j > i then j else i) = max i j := by
    split <;> omega
  rw [e]
  exact q
theorem call_minI (hc : X.calm = true) : CallR X (.builtin "min") rMinI := fun pins s σ H xs us Q I r h => by
  obtain ⟨i, j, rfl, q⟩ := h
  refine call_min2 hc pins s σ H _ us Q I r ⟨i, j, rfl, ?_⟩
  have e : (if j < i then j else i) = min i j := by
    split <;> omega
  rw [e]
  exact q
theorem call_listOf : CallR X (.type "list") (rListOf X.K) := call_list_of
theorem call_tupOf : CallR X (.type "tuple") (rTupOf X.K) := fun pins s σ H xs us Q I r h => by
  obtain ⟨p, ys, rfl, hp, q⟩ := h
  exact call_tuple_of pins s σ H _ us Q I r ⟨p, ys, rfl, .inl ⟨hp, q⟩⟩
end
/-! ## methods of texts -/
def rCountT : V → List V → Hp → VK → Prop := fun x xs H Q => ∃ (m : List Nat) (c : Nat), x = .str (S m) ∧ xs = [.str (S [c])] ∧ Q (.int (m.count c : Nat)) H
section
variable {X : Cx}
theorem mt_countT : MtR X "str.count" rCountT := fun pins s σ H x xs v us Q I rx rxs h => by
  obtain ⟨m, c, rfl, rfl, q⟩ := h
  exact mt_count pins s σ H _ _ v us Q I rx rxs ⟨S m, S [c], rfl, rfl, by rw [count_S]; exact q⟩
end
/-! ## what evaluates to what -/
section
variable {K : PySem.W.Frag} {σ : L2.St} {H H' : Hp} {ta tb tc te tx : TE} {t u : TT} {x y z v : V} {i j k : Int} {a b m : List Nat} {xs ys : List V} {p : Addr}
theorem ev_addI (ha : Ev ta σ H (.int i)) (hb : Ev tb σ H (.int j)) : Ev (tOp rAddI ta tb) σ H (.int (i + j)) := ev_op ha hb rv_I0
theorem ev_subI (ha : Ev ta σ H (.int i)) (hb : Ev tb σ H (.int j)) : Ev (tOp rSubI ta tb) σ H (.int (i - j)) := ev_op ha hb rv_I0
theorem ev_mulI (ha : Ev ta σ H (.int i)) (hb : Ev tb σ H (.int j)) (hc : CMul i j) : Ev (tOp rMulI ta tb) σ H (.int (i * j)) := ev_op ha hb (rv_I hc)
theorem ev_modI (ha : Ev ta σ H (.int i)) (hb : Ev tb σ H (.int j)) (hc : 0 < j) : Ev (tOp rModI ta tb) σ H (.int (i % j)) := ev_op ha hb (rv_I hc)
theorem ev_divI (ha : Ev ta σ H (.int i)) (hb : Ev tb σ H (.int j)) (hc : CDiv i j) : Ev (tOp rDivI ta tb) σ H (.int (i / j)) := ev_op ha hb (rv_I hc)
theorem ev_ltI (ha : Ev ta σ H (.int i)) (hb : Ev tb σ H (.int j)) : Ev (tOp rLtI ta tb) σ H (.bl (decide (i < j))) := ev_op ha hb rv_I0
theorem ev_leI (ha : Ev ta σ H (.int i)) (hb : Ev tb σ H (.int j)) : Ev (tOp rLeI ta tb) σ H (.bl (decide (i ≤ j))) := ev_op ha hb rv_I0
theorem ev_gtI (ha : Ev ta σ H (.int i)) (hb : Ev tb σ H (.int j)) : Ev (tOp rGtI ta tb) σ H (.bl (decide (j < i))) := ev_op ha hb rv_I0
theorem ev_geI (ha : Ev ta σ H (.int i)) (hb : Ev tb σ H (.int j)) : Ev (tOp rGeI ta tb) σ H (.bl (decide (j ≤ i))) := ev_op ha hb rv_I0
theorem ev_eqI (ha : Ev ta σ H (.int i)) (hb : Ev tb σ H (.int j)) : Ev (tOp rEqI ta tb) σ H (.bl (decide (i = j))) := ev_op ha hb rv_I0
theorem ev_neI (ha : Ev ta σ H (.int i)) (hb : Ev tb σ H (.int j)) : Ev (tOp rNeI ta tb) σ H (.bl (!decide (i = j))) := ev_op ha hb rv_I0
theorem ev_negI (ha : Ev ta σ H (.int i)) : Ev (tUn rNegI ta) σ H (.int (-i)) := ev_un ha ru_neg
theorem ev_eqB {a b : Bool} (ha : Ev ta σ H (.bl a)) (hb : Ev tb σ H (.bl b)) : Ev (tOp rEqB ta tb) σ H (.bl (decide (a = b))) := ev_op ha hb fun H1 _ _ q => ⟨a, b, rfl, rfl, q H1 (Ex.refl H1)⟩
theorem ev_neB {a b : Bool} (ha : Ev ta σ H (.bl a)) (hb : Ev tb σ H (.bl b)) : Ev (tOp rNeB ta tb) σ H (.bl (!decide (a = b))) := ev_op ha hb fun H1 _ _ q => ⟨a, b, rfl, rfl, q H1 (Ex.refl H1)⟩
theorem ev_eqT (ha : Ev ta σ H (.str (S a))) (hb : Ev tb σ H (.str (S b))) : Ev (tOp rEqT ta tb) σ H (.bl (decide (a = b))) := ev_op ha hb fun H1 _ _ q => ⟨a, b, rfl, rfl, q H1 (Ex.refl H1)⟩
theorem ev_neT (ha : Ev ta σ H (.str (S a))) (hb : Ev tb σ H (.str (S b))) : Ev (tOp rNeT ta tb) σ H (.bl (!decide (a = b))) := ev_op ha hb fun H1 _ _ q => ⟨a, b, rfl, rfl, q H1 (Ex.refl H1)⟩
theorem ev_addT (ha : Ev ta σ H (.str (S a))) (hb : Ev tb σ H (.str (S b))) (hl : a.length + b.length ≤ 100000) : Ev (tOp rAddT ta tb) σ H (.str (S (a ++ b))) := ev_op ha hb fun H1 _ _ q => ⟨a, b, rfl, rfl, hl, q H1 (Ex.refl H1)⟩
theorem ev_mulT (ha : Ev ta σ H (.str (S m))) (hb : Ev tb σ H (.int i)) (h0 : 0 ≤ i) (h1 : i ≤ 10000) (hl : m.length ≤ 100) : Ev (tOp rMulT ta tb) σ H (.str (S (List.replicate i.toNat m).flatten)) := ev_op ha hb fun H1 _ _ q => ⟨m, i, rfl, rfl, h0, h1, hl, q H1 (Ex.refl H1)⟩
theorem ev_inT {c : Nat} (ha : Ev ta σ H (.str (S [c]))) (hb : Ev tb σ H (.str (S m))) : Ev (tOp rInT ta tb) σ H (.bl (decide (c ∈ m))) := ev_op ha hb fun H1 _ _ q => ⟨c, m, rfl, rfl, q H1 (Ex.refl H1)⟩
theorem ev_notInT {c : Nat} (ha : Ev ta σ H (.str (S [c]))) (hb : Ev tb σ H (.str (S m))) : Ev (tOp rNotInT ta tb) σ H (.bl (!decide (c ∈ m))) := ev_op ha hb fun H1 _ _ q => ⟨c, m, rfl, rfl, q H1 (Ex.refl H1)⟩
theorem ite_and {p s : Bool} {A : Prop} {Q : V → Prop} (h : (Q (.bl s) → A)) (q : Q (.bl (p && s))) : if p = true then A else Q (.bl false) := by
  cases p with
  | true => rw [if_pos rfl]; exact h q
  | false => rw [if_neg Bool.false_ne_true]; exact q
theorem ev_leLt (ha : Ev ta σ H (.int i)) (hb : Ev tb σ H (.int j)) (hc : Ev tc σ H (.int k)) : Ev (tChain rLeI rLtI ta tb tc) σ H (.bl (decide (i ≤ j) && decide (j < k))) := fun H1 e Q q =>
  ha H1 e _ fun H2 e2 => hb H2 (e.trans e2) _ fun H3 e3 => ⟨i, j, rfl, rfl, _, rfl, by
    by_cases h : i ≤ j
    · rw [if_pos (decide_eq_true h)]
      rw [decide_eq_true h, Bool.true_and] at q
      exact hc H3 ((e.trans e2).trans e3) _ fun H4 e4 => ⟨j, k, rfl, rfl, q H4 ((e2.trans e3).trans e4)⟩
    · rw [if_neg (by rw [decide_eq_false h]; exact Bool.false_ne_true)]
      rw [decide_eq_false h, Bool.false_and] at q
      exact q H3 (e2.trans e3)⟩
theorem ev_ltLe (ha : Ev ta σ H (.int i)) (hb : Ev tb σ H (.int j)) (hc : Ev tc σ H (.int k)) : Ev (tChain rLtI rLeI ta tb tc) σ H (.bl (decide (i < j) && decide (j ≤ k))) := fun H1 e Q q =>
  ha H1 e _ fun H2 e2 => hb H2 (e.trans e2) _ fun H3 e3 => ⟨i, j, rfl, rfl, _, rfl, by
    by_cases h : i < j
    · rw [if_pos (decide_eq_true h)]
      rw [decide_eq_true h, Bool.true_and] at q
      exact hc H3 ((e.trans e2).trans e3) _ fun H4 e4 => ⟨j, k, rfl, rfl, q H4 ((e2.trans e3).trans e4)⟩
    · rw [if_neg (by rw [decide_eq_false h]; exact Bool.false_ne_true)]
      rw [decide_eq_false h, Bool.false_and] at q
      exact q H3 (e2.trans e3)⟩
theorem ev_leLe (ha : Ev ta σ H (.int i)) (hb : Ev tb σ H (.int j)) (hc : Ev tc σ H (.int k)) : Ev (tChain rLeI rLeI ta tb tc) σ H (.bl (decide (i ≤ j) && decide (j ≤ k))) := fun H1 e Q q =>
  ha H1 e _ fun H2 e2 => hb H2 (e.trans e2) _ fun H3 e3 => ⟨i, j, rfl, rfl, _, rfl, by
    by_cases h : i ≤ j
    · rw [if_pos (decide_eq_true h)]
      rw [decide_eq_true h, Bool.true_and] at q
      exact hc H3 ((e.trans e2).trans e3) _ fun H4 e4 => ⟨j, k, rfl, rfl, q H4 ((e2.trans e3).trans e4)⟩
    · rw [if_neg (by rw [decide_eq_false h]; exact Bool.false_ne_true)]
      rw [decide_eq_false h, Bool.false_and] at q
      exact q H3 (e2.trans e3)⟩
theorem ev_revS (ha : Ev te σ H (.str (S m))) (hm : m.length ≤ 100000) : Ev (tRevS te) σ H (.str (S m.reverse)) := fun H1 e Q q => ha H1 e _ fun H2 e2 => ⟨m, rfl, hm, q H2 e2⟩
/-! calls of built-ins -/
theorem ev_lenT (ha : Ev ta σ H (.str (S m))) (hm : m.length ≤ 100000) : Ev (tCB rLenT (tCons ta tNil)) σ H (.int (m.length : Nat)) := fun H1 e Q q => ha H1 e _ fun H2 e2 => ⟨m, rfl, hm, q H2 e2⟩
theorem ev_lenQ (ha : Ev ta σ H (.ref p)) (h : SqL K H p xs) : Ev (tCB (rLenQ K) (tCons ta tNil)) σ H (.int (xs.length : Nat)) := fun H1 e Q q =>
  ha H1 e _ fun H2 e2 => ⟨p, xs, rfl, .inl (ex_l (e.trans e2) h), q H2 e2⟩
theorem ev_lenQN (ha : EvL ta σ H xs) : Ev (tCB (rLenQ K) (tCons ta tNil)) σ H (.int (xs.length : Nat)) := fun H1 e Q q =>
  ha H1 e _ fun p H2 _ e2 h2 => ⟨p, xs, rfl, .inl (sq_of h2), q H2 e2⟩
theorem ev_max (ha : Ev ta σ H (.int i)) (hb : Ev tb σ H (.int j)) : Ev (tCB rMaxI (tCons ta (tCons tb tNil))) σ H (.int (max i j)) := fun H1 e Q q =>
  ha H1 e _ fun H2 e2 => hb H2 (e.trans e2) _ fun H3 e3 => ⟨i, j, rfl, q H3 (e2.trans e3)⟩
theorem ev_min (ha : Ev ta σ H (.int i)) (hb : Ev tb σ H (.int j)) : Ev (tCB rMinI (tCons ta (tCons tb tNil))) σ H (.int (min i j)) := fun H1 e Q q =>
  ha H1 e _ fun H2 e2 => hb H2 (e.trans e2) _ fun H3 e3 => ⟨i, j, rfl, q H3 (e2.trans e3)⟩
theorem ev_allN {bs : List Bool} (ha : EvL ta σ H (bs.map V.bl)) : Ev (tCB (rAll K) (tCons ta tNil)) σ H (.bl (bs.all id)) := fun H1 e Q q =>
  ha H1 e _ fun p H2 _ e2 h2 => ⟨p, bs, rfl, sq_of h2, q H2 e2⟩
theorem ev_anyN {bs : List Bool} (ha : EvL ta σ H (bs.map V.bl)) : Ev (tCB (rAny K) (tCons ta tNil)) σ H (.bl (bs.any id)) := fun H1 e Q q =>
  ha H1 e _ fun p H2 _ e2 h2 => ⟨p, bs, rfl, sq_of h2, q H2 e2⟩
theorem el_listOf (ha : Ev ta σ H (.ref p)) (h : SqL K H p xs) : EvL (tCB (rListOf K) (tCons ta tNil)) σ H xs := fun H1 e Q q =>
  ha H1 e _ fun H2 e2 => ⟨p, xs, rfl, .inl (ex_l (e.trans e2) h), fun l hl => q l _ (fresh_back e2 hl) (e2.trans (Ex.new hl)) upd_same⟩
theorem ev_isi {c : V} {tt uu : Value} {bb : Bool} (ha : Ev ta σ H x) (hb : Ev tb σ H c) (hc : ClsV c uu) (ht : ∀ H1, Ex H H1 → TyX K H1 x tt) (hk : PySem.W.kitOne K tt uu = some bb) : Ev (tCB (rIsi K) (tCons ta (tCons tb tNil))) σ H (.bl bb) := fun H1 e Q q =>
  ha H1 e _ fun H2 e2 => hb H2 (e.trans e2) _ fun H3 e3 => ⟨x, c, tt, uu, bb, rfl, hc, ht H3 ((e.trans e2).trans e3), hk, q H3 (e2.trans e3)⟩
/-! methods -/
theorem ev_countT {c : Nat} (ha : Ev ta σ H (.str (S m))) (hb : Ev tb σ H (.str (S [c]))) : Ev (tM1 rCountT ta tb) σ H (.int (m.count c : Nat)) := fun H1 e Q q =>
  ha H1 e _ fun H2 e2 => ⟨⟨_, rfl⟩, hb H2 (e.trans e2) _ fun H3 e3 => ⟨m, c, rfl, rfl, q H3 (e2.trans e3)⟩⟩
/-! items -/
theorem ev_ixL {n : Nat} (ha : Ev ta σ H (.ref p)) (hb : Ev tb σ H (.int (n : Nat))) (h : SqL K H p xs) (hn : xs[n]? = some v) : Ev (tOp (rIxL K) ta tb) σ H v := ev_op ha hb (rv_ixL h (atI_nat hn))
theorem ev_ixT {n : Nat} (ha : Ev ta σ H (.ref p)) (hb : Ev tb σ H (.int (n : Nat))) (h : SqT K H p xs) (hn : xs[n]? = some v) : Ev (tOp (rIxT K) ta tb) σ H v := ev_op ha hb (rv_ixT h (atI_nat hn))
/-- an item of a tuple just written -/
theorem ev_ixU {n : Nat} (ha : EvU ta σ H xs) (hb : Ev tb σ H (.int (n : Nat))) (hn : xs[n]? = some v) : Ev (tOp (rIxT K) ta tb) σ H v := fun H1 e Q q =>
  ha H1 e _ fun p H2 _ e2 hp => hb H2 (e.trans e2) _ fun H3 e3 => rv_ixT (st_of (e3 p _ hp)) (atI_nat hn) H3 (Ex.refl H3) Q fun H4 e4 => q H4 ((e2.trans e3).trans e4)
theorem ev_ixS {n : Nat} (ha : Ev ta σ H (.str (S m))) (hb : Ev tb σ H (.int (n : Nat))) (hl : m.length ≤ 100000) (hn : n < m.length) : Ev (tOp rIxS ta tb) σ H (.str (S [m.getD n 0])) := by
  have e : m[n]? = some (m.getD n 0) := by simp [List.getD_eq_getElem?_getD, List.getElem?_eq_getElem hn]
  exact ev_op ha hb (rv_ixS (by rw [S_len]; exact hl) (atI_nat (xs := m) e))
theorem ev_fld {C dx : Addr} {fs : List (Str × V)} {f : Str} (ha : Ev ta σ H (.ref p)) (h : H p = some (.ins C dx fs)) (c : Cls K C) (n : NoAttr K C f) (l : fs.lookup f = some v) : Ev (tFld K ta f) σ H v := fun H1 e Q q =>
  ha H1 e _ fun H2 e2 => ⟨p, C, dx, fs, v, rfl, e2 _ _ (e _ _ h), c, n, l, q H2 e2⟩
theorem ev_meth {C dx : Addr} {fs : List (Str × V)} {f : Str} {sp : Sp} {tr : TA} {vs : List V} {E : XK} (ha : Ev ta σ H (.ref p)) (h : H p = some (.ins C dx fs)) (l : fs.lookup f = none) (hr : EvA tr σ H vs) (hs : SpV sp (.ref p :: (vs ++ [])) H v) : Ev (tMeth C f sp [] E ta tr) σ H v := fun H1 e Q q =>
  ha H1 e _ fun H2 e2 => ⟨p, dx, fs, rfl, e2 _ _ (e _ _ h), l, hr H2 (e.trans e2) _ fun H3 e3 => hs H3 ((e.trans e2).trans e3) Q (fun H4 e4 => q H4 ((e2.trans e3).trans e4)) E⟩
theorem ev_call0 {sp : Sp} {vs : List V} {E : XK} {tr : TA} (h : EvA tr σ H vs) (hs : SpV sp (vs ++ []) H z) : Ev (tCall sp [] E tr) σ H z := ev_call h hs
theorem ev_in {neg : Bool} (ha : Ev ta σ H x) (hb : Ev tb σ H (.ref p)) (h : SqL K H p xs) (hx : flatV x = true) (hf : xs.all flatV = true) : Ev (tOp (rIn K neg) ta tb) σ H (.bl (if neg then !inV x xs else inV x xs)) := ev_op ha hb (rv_inL h hx hf)
end
/-! ## slices -/
section
variable {K : PySem.W.Frag} {σ : L2.St} {H H' : Hp} {te : TE} {tl th : TO} {m : List Nat} {i j : Int} {xs : List V} {p : Addr}
theorem cutV_to {xs : List V} {i : Int} (h : 0 ≤ i) : cutV xs none (some i) = xs.take i.toNat := by
  obtain ⟨n, rfl⟩ := Int.eq_ofNat_of_zero_le h
  unfold cutV
  rw [HT.sIx_none, show HT.sIx xs.length xs.length (some (n : Int)) = min n xs.length from HT.sIx_nat xs.length xs.length n]
  rw [List.drop_zero, Nat.sub_zero, Int.toNat_natCast]
  rcases Nat.le_total n xs.length with q | q
  · rw [Nat.min_eq_left q]
  · rw [Nat.min_eq_right q, List.take_length, List.take_of_length_le q]
theorem cutV_both {xs : List V} {i j : Int} (h : 0 ≤ i) (h2 : i ≤ j) : cutV xs (some i) (some j) = (xs.drop i.toNat).take (j - i).toNat := by
  obtain ⟨n, rfl⟩ := Int.eq_ofNat_of_zero_le h
  obtain ⟨k, rfl⟩ := Int.eq_ofNat_of_zero_le (Int.le_trans h h2)
  unfold cutV
  rw [show HT.sIx xs.length xs.length (some (k : Int)) = min k xs.length from HT.sIx_nat xs.length xs.length k, show HT.sIx xs.length 0 (some (n : Int)) = min n xs.length from HT.sIx_nat xs.length 0 n]
  have e : ((k : Int) - (n : Int)).toNat = k - n := by omega
  rw [e, Int.toNat_natCast]
  rcases Nat.le_total n xs.length with q | q
  · rw [Nat.min_eq_left q]
    rcases Nat.le_total k xs.length with q2 | q2
    · rw [Nat.min_eq_left q2]
    · rw [Nat.min_eq_right q2, List.take_of_length_le (by simp), List.take_of_length_le (by simp; omega)]
  · rw [Nat.min_eq_right q, List.drop_length, List.drop_eq_nil_of_le q, List.take_nil, List.take_nil]
theorem cutV_from {xs : List V} {i : Int} (h : 0 ≤ i) : cutV xs (some i) none = xs.drop i.toNat := by
  obtain ⟨n, rfl⟩ := Int.eq_ofNat_of_zero_le h
  unfold cutV
  rw [HT.sIx_none, show HT.sIx xs.length 0 (some (n : Int)) = min n xs.length from HT.sIx_nat xs.length 0 n, Int.toNat_natCast]
  rcases Nat.le_total n xs.length with q | q
  · rw [Nat.min_eq_left q, List.take_of_length_le (by simp)]
  · rw [Nat.min_eq_right q, List.drop_length, List.drop_eq_nil_of_le q, List.take_nil]
theorem el_slTo (h : Ev te σ H (.ref p)) (h2 : EvO th σ H (some i)) (hs : SqL K H p xs) (hi : 0 ≤ i) : EvL (tSl (rSlL K) te tNoPart th) σ H (xs.take i.toNat) := by
  rw [← cutV_to hi]
  exact el_sl h eo_none h2 hs
theorem el_slBoth (h : Ev te σ H (.ref p)) (h1 : EvO tl σ H (some i)) (h2 : EvO th σ H (some j)) (hs : SqL K H p xs) (hi : 0 ≤ i) (hj : i ≤ j) : EvL (tSl (rSlL K) te tl th) σ H ((xs.drop i.toNat).take (j - i).toNat) := by
  rw [← cutV_both hi hj]
  exact el_sl h h1 h2 hs
theorem el_slFrom (h : Ev te σ H (.ref p)) (h1 : EvO tl σ H (some i)) (hs : SqL K H p xs) (hi : 0 ≤ i) : EvL (tSl (rSlL K) te tl tNoPart) σ H (xs.drop i.toNat) := by
  rw [← cutV_from hi]
  exact el_sl h h1 eo_none hs
theorem ev_slTo (h : Ev te σ H (.str (S m))) (h2 : EvO th σ H (some i)) (hi : 0 ≤ i) (hm : m.length ≤ 100000) : Ev (tSl C8.rSlX te tNoPart th) σ H (.str (S (m.take i.toNat))) := fun H1 e Q q =>
  h H1 e _ fun H2 e2 => h2 H2 (e.trans e2) _ fun H3 e3 => ⟨S m, rfl, by rw [S_len]; exact sz_of hm, by rw [slice_to hi]; exact q H3 (e2.trans e3)⟩
theorem ev_slFrom (h : Ev te σ H (.str (S m))) (h2 : EvO tl σ H (some i)) (hi : 0 ≤ i) (hm : m.length ≤ 100000) : Ev (tSl C8.rSlX te tl tNoPart) σ H (.str (S (m.drop i.toNat))) := fun H1 e Q q =>
  h H1 e _ fun H2 e2 => h2 H2 (e.trans e2) _ fun H3 e3 => ⟨S m, rfl, by rw [S_len]; exact sz_of hm, by rw [slice_from hi]; exact q H3 (e2.trans e3)⟩
end
end Od

namespace Od
open PySem PySem.Spec PyProof.Rows L2 SX Evl
/-! ## from any heap that knows H on -/
abbrev Go (H : Hp) (p : Hp → Prop) : Prop := ∀ H1, Ex H H1 → p H1
theorem Go.mono {H H' : Hp} {p : Hp → Prop} (h : Go H p) (e : Ex H H') : Go H' p := fun H1 e1 => h H1 (e.trans e1)
theorem Go.here {H : Hp} {p : Hp → Prop} (h : Go H p) : p H := h H (Ex.refl H)
def NewL (xs : List V) (H : Hp) (Q : VK) : Prop := ∀ p, H p = none → Go (upd H p (.lst xs)) (Q (.ref p))
def NewU (xs : List V) (H : Hp) (Q : VK) : Prop := ∀ p, H p = none → Go (upd H p (.tup xs)) (Q (.ref p))
theorem ex_upd {H H2 : Hp} {p : Addr} {o : HO} (e : Ex H H2) (h : H2 p = some o) : Ex (upd H p o) H2 := fun a u ha => by
  by_cases q : a = p
  · subst q
    rw [upd_same] at ha
    rw [h]
    exact ha
  · rw [upd_ne q] at ha
    exact e a u ha
theorem ex_upd2 {H H2 : Hp} {p : Addr} {o : HO} (e : Ex H H2) : Ex (upd H p o) (upd H2 p o) := fun a u ha => by
  by_cases q : a = p
  · subst q
    rw [upd_same] at ha ⊢
    exact ha
  · rw [upd_ne q] at ha ⊢
    exact e a u ha
theorem NewL.mono {xs : List V} {H H' : Hp} {Q : VK} (h : NewL xs H Q) (e : Ex H H') : NewL xs H' Q := fun p hp => (h p (fresh_back e hp)).mono (ex_upd2 e)
theorem NewU.mono {xs : List V} {H H' : Hp} {Q : VK} (h : NewU xs H Q) (e : Ex H H') : NewU xs H' Q := fun p hp => (h p (fresh_back e hp)).mono (ex_upd2 e)
/-- evaluates to some value, in some heap, of which R holds -/
def EvR (te : TE) (σ : L2.St) (H : Hp) (R : V → Hp → Prop) : Prop := ∀ H1, Ex H H1 → ∀ Q : VK, (∀ v H2, Ex H1 H2 → R v H2 → Q v H2) → te σ H1 Q
section
variable {K : PySem.W.Frag} {σ : L2.St} {H H' : Hp} {ta tb tc te tx : TE} {t u : TT} {x y z v w : V} {D : Ends} {tu tw tz : TS} {g : TG} {i j : Nat} {xs ys : List V} {tr : TA} {R : V → Hp → Prop}
theorem EvR.mono (e : Ex H H') (h : EvR te σ H R) : EvR te σ H' R := fun H1 a Q q => h H1 (e.trans a) Q q
theorem go_asg (h : Ev te σ H v) (k : Go H (tz D (σ.set i (some v)))) : Go H (tSeq (tAsg te (gName i)) tz D σ) := fun H1 e => h H1 e _ fun H2 e2 => k H2 (e.trans e2)
theorem go_asgL (h : EvL te σ H xs) (k : ∀ p, H p = none → Go (upd H p (.lst xs)) (tz D (σ.set i (some (.ref p))))) : Go H (tSeq (tAsg te (gName i)) tz D σ) := fun H1 e => h H1 e _ fun p H2 hp e2 h2 => k p (fresh_back e hp) H2 (ex_upd (e.trans e2) h2)
theorem go_asgU (h : EvU te σ H xs) (k : ∀ p, H p = none → Go (upd H p (.tup xs)) (tz D (σ.set i (some (.ref p))))) : Go H (tSeq (tAsg te (gName i)) tz D σ) := fun H1 e => h H1 e _ fun p H2 hp e2 h2 => k p (fresh_back e hp) H2 (ex_upd (e.trans e2) h2)
theorem go_asgR (h : EvR te σ H R) (k : ∀ v H2, Ex H H2 → R v H2 → Go H2 (tz D (σ.set i (some v)))) : Go H (tSeq (tAsg te (gName i)) tz D σ) := fun H1 e => h H1 e _ fun v H2 e2 r => k v H2 (e.trans e2) r H2 (Ex.refl H2)
theorem go_ret (h : Ev te σ H v) (k : Go H (D.rt v)) : Go H (tSeq (tRet te) tz D σ) := fun H1 e => h H1 e _ fun H2 e2 => k H2 (e.trans e2)
theorem go_retL (h : EvL te σ H xs) (k : NewL xs H D.rt) : Go H (tSeq (tRet te) tz D σ) := fun H1 e => h H1 e _ fun p H2 hp e2 h2 => k p (fresh_back e hp) H2 (ex_upd (e.trans e2) h2)
theorem go_retU (h : EvU te σ H xs) (k : NewU xs H D.rt) : Go H (tSeq (tRet te) tz D σ) := fun H1 e => h H1 e _ fun p H2 hp e2 h2 => k p (fresh_back e hp) H2 (ex_upd (e.trans e2) h2)
theorem go_retR (h : EvR te σ H R) (k : ∀ v H2, Ex H H2 → R v H2 → D.rt v H2) : Go H (tSeq (tRet te) tz D σ) := fun H1 e => h H1 e _ fun v H2 e2 r => k v H2 (e.trans e2) r
theorem go_next (k : Go H (D.nx σ)) : Go H (tNext D σ) := k
theorem go_brk (k : Go H (D.bk σ)) : Go H (tSeq tBreak tz D σ) := k
theorem go_cont (k : Go H (D.ct σ)) : Go H (tSeq tCont tz D σ) := k
theorem go_pass (k : Go H (tz D σ)) : Go H (tSeq tNext tz D σ) := k
theorem go_if {b : Bool} (h : EvT t σ H b) (h1 : b = true → Go H (tu { D with nx := tz D } σ)) (h2 : b = false → Go H (tw { D with nx := tz D } σ)) : Go H (tSeq (tIfS t tu tw) tz D σ) := fun H1 e => h H1 e _ fun H2 e2 => by
  cases b with
  | true => rw [if_pos rfl]; exact h1 rfl H2 (e.trans e2)
  | false => rw [if_neg Bool.false_ne_true]; exact h2 rfl H2 (e.trans e2)
/-- an if without else -/
theorem go_when {b : Bool} (h : EvT t σ H b) (h1 : b = true → Go H (tu { D with nx := tz D } σ)) (h2 : b = false → Go H (tz D σ)) : Go H (tSeq (tIfS t tu tNext) tz D σ) := go_if h h1 h2
theorem go_drop (h : Ev te σ H v) (k : Go H (tz D σ)) : Go H (tSeq (tDrop te) tz D σ) := fun H1 e => h H1 e _ fun H2 e2 => k H2 (e.trans e2)
theorem go_aug {f : Int → Int → Int} {a b : Int} (hx : σ[i]? = some (some (.int a))) (h : Ev te σ H (.int b)) (k : Go H (tz D (σ.set i (some (.int (f a b)))))) : Go H (tSeq (tAug i te (ipI f)) tz D σ) := fun H1 e =>
  ⟨.int a, hx, h H1 e _ fun H2 e2 => ⟨a, b, rfl, rfl, k H2 (e.trans e2)⟩⟩
theorem go_augM {a b : Int} (hx : σ[i]? = some (some (.int a))) (h : Ev te σ H (.int b)) (hc : CMul a b) (k : Go H (tz D (σ.set i (some (.int (a * b)))))) : Go H (tSeq (tAug i te (rI CMul fun i j => .int (i * j))) tz D σ) := fun H1 e =>
  ⟨.int a, hx, h H1 e _ fun H2 e2 => ⟨a, b, rfl, rfl, hc, k H2 (e.trans e2)⟩⟩
theorem go_app {l : Addr} (hl : H l = some (.lst xs)) (ha : Ev ta σ H (.ref l)) (h : Ev te σ H v) (hz : xs.length < 100000) (k : Go (upd H l (.lst (xs ++ [v]))) (tz D σ)) :
    Go H (tSeq (tDrop (tBM K "list" rAppend ta (tCons te tNil))) tz D σ) := fun H0 e0 => ha H0 e0 _ fun H1 e1 =>
  ⟨Or.inl ⟨rfl, xs, sq_of (e1 l _ (e0 l _ hl))⟩, h H1 (e0.trans e1) _ fun H2 e2 => ⟨l, xs, v, rfl, rfl, e2 l _ (e1 l _ (e0 l _ hl)), sz_lt hz, k _ (ex_upd2 ((e0.trans e1).trans e2))⟩⟩
theorem go_setL {l : Addr} {n : Nat} (hl : H l = some (.lst xs)) (h : Ev te σ H v) (ho : Ev ta σ H (.ref l)) (hi : Ev tb σ H (.int (n : Int))) (hn : n < xs.length) (k : Go (upd H l (.lst (xs.set n v))) (tz D σ)) :
    Go H (tSeq (tAsg te (gSub ta tb rSetL)) tz D σ) := fun H0 e0 => h H0 e0 _ fun H1 e1 => ho H1 (e0.trans e1) _ fun H2 e2 => hi H2 ((e0.trans e1).trans e2) _ fun H3 e3 =>
  ⟨l, xs, (n : Int), n, rfl, rfl, (((e0.trans e1).trans e2).trans e3) l _ hl, ixN_nat hn, k _ (ex_upd2 (((e0.trans e1).trans e2).trans e3))⟩
theorem go_par (h : EvA tr σ H [v, w]) (k : Go H (tz D ((σ.set i (some v)).set j (some w)))) : Go H (tSeq (tPar i j tr) tz D σ) := fun H1 e => h H1 e _ fun H2 e2 => ⟨v, w, rfl, k H2 (e.trans e2)⟩
/-- both sides new lists -/
theorem go_parLL (h1 : EvL ta σ H xs) (h2 : EvL tb σ H ys) (k : ∀ p q, H p = none → H q = none → p ≠ q → Go (upd (upd H p (.lst xs)) q (.lst ys)) (tz D ((σ.set i (some (.ref p))).set j (some (.ref q))))) :
    Go H (tSeq (tPar i j (tCons ta (tCons tb tNil))) tz D σ) := fun H1 e => h1 H1 e _ fun p H2 hp e2 hp2 => h2 H2 (e.trans e2) _ fun q H3 hq e3 hq3 => ⟨.ref p, .ref q, rfl,
      k p q (fresh_back e hp) (fresh_back (e.trans e2) hq) (ne_of_none hp2 hq) H3 (ex_upd (ex_upd ((e.trans e2).trans e3) (e3 p _ hp2)) hq3)⟩
theorem go_unpack2 (h : EvR te σ H R) (k : ∀ v H2, Ex H H2 → R v H2 → ∃ p x y, v = .ref p ∧ SqT K H2 p [x, y] ∧ Go H2 (tz D ((σ.set i (some x)).set j (some y)))) :
    Go H (tSeq (tAsg te (gTup K 2 (gCons (gName i) (gCons (gName j) gNil)))) tz D σ) := fun H1 e => h H1 e _ fun v H2 e2 r => by
  obtain ⟨p, x, y, rfl, hp, k⟩ := k v H2 (e.trans e2) r
  exact ⟨p, [x, y], rfl, hp, rfl, x, [y], rfl, y, [], rfl, rfl, k H2 (Ex.refl H2)⟩
/-! ### loops -/
def Up (P : L2.St → Hp → Prop) : L2.St → Hp → Prop := fun σ H' => ∃ Hk, P σ Hk ∧ Ex Hk H'
theorem up_mk {P : L2.St → Hp → Prop} (h : P σ H) : Go H (Up P σ) := fun H1 e => ⟨H, h, e⟩
/-- a turn's end -/
theorem go_up {P : L2.St → Hp → Prop} (e : D.nx = Up P) (h : P σ H) : Go H (tNext D σ) := fun H1 e1 => by
  show D.nx σ H1
  rw [e]
  exact ⟨H, h, e1⟩
theorem go_upc {P : L2.St → Hp → Prop} (e : D.ct = Up P) (h : P σ H) : Go H (tSeq tCont tz D σ) := fun H1 e1 => by
  show D.ct σ H1
  rw [e]
  exact ⟨H, h, e1⟩
theorem go_forL {a : Addr} {tl : TE} (P : Nat → L2.St → Hp → Prop) (h : Ev tl σ H (.ref a)) (hx : SqL K H a xs) (h0 : P 0 σ H) (hl : ∀ i σ' Hk, P i σ' Hk → SqL K Hk a xs)
    (hs : ∀ i x σ' Hk, xs[i]? = some x → P i σ' Hk → Go Hk (tu { D with nx := Up (P (i + 1)), ct := Up (P (i + 1)), bk := tz D } (σ'.set j (some x)))) (hd : ∀ σ' Hk, P xs.length σ' Hk → Go Hk (tz D σ')) :
    Go H (tSeq (tFor (iList K tl) (gName j) tu) tz D σ) := fun H0 e0 => h H0 e0 _ fun H1 e => ⟨a, rfl, ⟨xs, ex_l (e0.trans e) hx⟩,
      for_list (D := { D with nx := tz D }) (fun i => Up (P i)) ⟨H, h0, e0.trans e⟩ (fun i σ' H' _ ⟨Hk, p, ek⟩ => ex_l ek (hl i σ' Hk p)) (fun i x σ' H' hi ⟨Hk, p, ek⟩ => hs i x σ' Hk hi p H' ek) (fun σ' H' ⟨Hk, p, ek⟩ => hd σ' Hk p H' ek)⟩
theorem go_forR {n : Nat} {tl : TA} (P : Nat → L2.St → Hp → Prop) (h : EvA tl σ H [.int (n : Nat)]) (hn : n ≤ 100000) (h0 : P 0 σ H)
    (hs : ∀ i σ' Hk, i < n → P i σ' Hk → Go Hk (tu { D with nx := Up (P (i + 1)), ct := Up (P (i + 1)), bk := tz D } (σ'.set j (some (.int (i : Nat)))))) (hd : ∀ σ' Hk, P n σ' Hk → Go Hk (tz D σ')) :
    Go H (tSeq (tFor (iRng1 tl) (gName j) tu) tz D σ) := fun H0 e0 => h H0 e0 _ fun H1 e => ⟨(n : Int), rfl, by omega, by omega,
      for_range (D := { D with nx := tz D }) (lo := 0) (n := (n : Int).toNat) (fun i => Up (P i)) ⟨H, h0, e0.trans e⟩ (fun i σ' H' hi ⟨Hk, p, ek⟩ => by
        have e0 : (0 : Int) + (i : Int) = (i : Int) := Int.zero_add _
        show tu { D with nx := Up (P (i + 1)), ct := Up (P (i + 1)), bk := tz D } (σ'.set j (some (.int ((0 : Int) + (i : Int))))) H'
        rw [e0]
        exact hs i σ' Hk (by omega) p H' ek) (fun σ' H' ⟨Hk, p, ek⟩ => hd σ' Hk (by rwa [Int.toNat_natCast] at p) H' ek)⟩
/-- over a tuple that was just written -/
theorem go_forU {tl : TE} (P : Addr → Nat → L2.St → Hp → Prop) (h : EvU tl σ H xs) (h0 : ∀ p, H p = none → P p 0 σ (upd H p (.tup xs))) (hl : ∀ p i σ' Hk, P p i σ' Hk → Hk p = some (.tup xs))
    (hs : ∀ p i x σ' Hk, xs[i]? = some x → P p i σ' Hk → Go Hk (tu { D with nx := Up (P p (i + 1)), ct := Up (P p (i + 1)), bk := tz D } (σ'.set j (some x)))) (hd : ∀ p σ' Hk, P p xs.length σ' Hk → Go Hk (tz D σ')) :
    Go H (tSeq (tFor (iTup K tl) (gName j) tu) tz D σ) := fun H0 e0 => h H0 e0 _ fun p H1 hp e hp1 => ⟨p, rfl, ⟨xs, st_of hp1⟩,
      for_tup (D := { D with nx := tz D }) (fun i => Up (P p i)) ⟨_, h0 p (fresh_back e0 hp), ex_upd (e0.trans e) hp1⟩ (fun i σ' H' _ ⟨Hk, q, ek⟩ => ex_t ek (st_of (hl p i σ' Hk q))) (fun i x σ' H' hi ⟨Hk, q, ek⟩ => hs p i x σ' Hk hi q H' ek) (fun σ' H' ⟨Hk, q, ek⟩ => hd p σ' Hk q H' ek)⟩
/-- for i, s in enumerate(text) -/
theorem go_forES {m : List Nat} {tl : TA} {j1 j2 : Nat} (P : Nat → L2.St → Hp → Prop) (h : EvA tl σ H [.str (S m)]) (h0 : P 0 σ H)
    (hs : ∀ i σ' Hk, i < m.length → P i σ' Hk → Go Hk (tu { D with nx := Up (P (i + 1)), ct := Up (P (i + 1)), bk := tz D } ((σ'.set j1 (some (.int (i : Nat)))).set j2 (some (.str (S [m.getD i 0])))))) (hd : ∀ σ' Hk, P m.length σ' Hk → Go Hk (tz D σ')) :
    Go H (tSeq (tFor (iEnumS tl) (gTup K 2 (gCons (gName j1) (gCons (gName j2) gNil))) tu) tz D σ) := fun H0 e0 => h H0 e0 _ fun H1 e => ⟨m, rfl,
      for_it (D := { D with nx := tz D }) walk_enumE (fun i => Up (P i)) ⟨H, h0, e0.trans e⟩ (fun _ _ _ _ _ => True.intro) (fun i x σ' H' H'' hi ⟨Hk, p, ek⟩ ⟨T, ev, hT, eH⟩ => by
        subst ev eH
        exact ⟨T, _, rfl, st_of upd_same, rfl, _, _, rfl, _, _, rfl, rfl, hs i σ' Hk hi p _ (ek.trans (Ex.new hT))⟩) (fun σ' H' ⟨Hk, p, ek⟩ => hd σ' Hk p H' ek)⟩
/-- while: P by a number that falls -/
theorem go_while {tt : TT} (P : Nat → L2.St → Hp → Prop) (m0 : Nat) (h0 : P m0 σ H)
    (hs : ∀ m σ' Hk, P m σ' Hk → ∃ b, EvT tt σ' Hk b ∧ (b = true → Go Hk (tu { D with nx := Up (fun σ2 H2 => ∃ m', m' < m ∧ P m' σ2 H2), ct := Up (fun σ2 H2 => ∃ m', m' < m ∧ P m' σ2 H2), bk := tz D } σ')) ∧ (b = false → Go Hk (tz D σ'))) :
    Go H (tSeq (tWhile tt tu) tz D σ) := fun H0 e0 => ⟨fun m => Up (P m), ⟨m0, H, h0, e0⟩, fun m σ' H' ⟨Hk, p, ek⟩ => by
    obtain ⟨b, hb, h1, h2⟩ := hs m σ' Hk p
    refine hb H' ek _ fun H1 e => ?_
    cases b with
    | true =>
      rw [if_pos rfl]
      exact ⟨_, fun σ2 H2 ⟨Hk2, ⟨m', l, q⟩, e2⟩ => ⟨m', l, Hk2, q, e2⟩, h1 rfl H1 (ek.trans e)⟩
    | false =>
      rw [if_neg Bool.false_ne_true]
      exact h2 rfl H1 (ek.trans e)⟩
/-! ### comprehensions -/
theorem given_at (n : Nat) {f f' : Nat → Bool} {v v' : Nat → V} (hf : ∀ i, i < n → f i = f' i) (hv : ∀ i, i < n → f i = true → v i = v' i) : given n f v = given n f' v' := by
  unfold given
  have e : (List.range n).filter f = (List.range n).filter f' := List.filter_congr fun i hi => hf i (List.mem_range.mp hi)
  rw [e]
  refine List.map_congr_left fun i hi => ?_
  obtain ⟨h1, h2⟩ := List.mem_filter.mp hi
  have h3 := List.mem_range.mp h1
  exact hv i h3 (by rw [hf i h3]; exact h2)
theorem given_list {α : Type} (d : α) : ∀ (l : List α) (p : α → Bool) (g : α → V), given l.length (fun i => p (l.getD i d)) (fun i => g (l.getD i d)) = (l.filter p).map g := by
  intro l p g
  unfold given
  have e : l = (List.range l.length).map fun i => l.getD i d := by
    refine List.ext_getElem (by simp) fun i h1 h2 => ?_
    simp [List.getD_eq_getElem?_getD, List.getElem?_eq_getElem h1]
  conv => rhs; rw [e, List.filter_map, List.map_map]
  rfl
/-- [e for x in xs if t], the items told by inj, the kept ones by p, the new ones by g -/
theorem el_compL {α : Type} (l : List α) (inj : α → V) (p : α → Bool) (g : α → V) {a : Addr} {tl : TE} {vs : List Nat} (d : α) (h : Ev tl σ H (.ref a)) (hx : SqL K H a (l.map inj)) (hz : l.length ≤ 40000)
    (hw : ∀ x, wipe ((wipe σ vs).set j (some x)) vs = wipe σ vs) (ht : ∀ x ∈ l, EvT t ((wipe σ vs).set j (some (inj x))) H (p x)) (he : ∀ x ∈ l, p x = true → Ev te ((wipe σ vs).set j (some (inj x))) H (g x)) :
    EvL (tLc (iList K tl) (gName j) t te vs) σ H ((l.filter p).map g) := by
  rw [← given_list d l p g]
  have key : ∀ (i : Nat) (x : V), (l.map inj)[i]? = some x → l.getD i d ∈ l ∧ x = inj (l.getD i d) := fun i x hi => by
    rw [List.getElem?_map] at hi
    cases q : l[i]? with
    | none => rw [q] at hi; cases hi
    | some y =>
      rw [q] at hi
      have e : l.getD i d = y := by simp [List.getD_eq_getElem?_getD, q]
      rw [e]
      exact ⟨List.mem_of_getElem? q, (Option.some.inj hi).symm⟩
  have := el_lcL (K := K) (t := t) (te := te) (vs := vs) (j := j) (fun i => p (l.getD i d)) (fun i => g (l.getD i d)) h hx (by rw [List.length_map]; exact hz) hw
    (fun i x H1 e1 hi => by
      obtain ⟨m, rfl⟩ := key i x hi
      exact (ht _ m).mono e1)
    (fun i x H1 e1 hi hf => by
      obtain ⟨m, rfl⟩ := key i x hi
      exact (he _ m hf).mono e1)
  rw [List.length_map] at this
  exact this
theorem et_yes : EvT tYes σ H true := fun H1 _ _ q => q H1 (Ex.refl H1)
theorem el_mapL {α : Type} (l : List α) (inj : α → V) (g : α → V) {a : Addr} {tl : TE} {vs : List Nat} (d : α) (h : Ev tl σ H (.ref a)) (hx : SqL K H a (l.map inj)) (hz : l.length ≤ 40000)
    (hw : ∀ x, wipe ((wipe σ vs).set j (some x)) vs = wipe σ vs) (he : ∀ x ∈ l, Ev te ((wipe σ vs).set j (some (inj x))) H (g x)) : EvL (tLc (iList K tl) (gName j) tYes te vs) σ H (l.map g) := by
  have e : l.filter (fun _ => true) = l := List.filter_eq_self.mpr fun _ _ => rfl
  have q := el_compL l inj (fun _ => true) g d h hx hz hw (fun _ _ => et_yes) (fun x hx _ => he x hx)
  rw [e] at q
  exact q
/-- over a list just made -/
theorem el_mapN {α : Type} (l : List α) (inj : α → V) (g : α → V) {tl : TE} {vs : List Nat} (d : α) (h : EvL tl σ H (l.map inj)) (hz : l.length ≤ 40000)
    (hw : ∀ x, wipe ((wipe σ vs).set j (some x)) vs = wipe σ vs) (he : ∀ x ∈ l, Ev te ((wipe σ vs).set j (some (inj x))) H (g x)) : EvL (tLc (iList K tl) (gName j) tYes te vs) σ H (l.map g) := fun H0 e0 Q q =>
  h H0 e0 _ fun a H1 ha e1 hx => el_mapL (K := K) (H := H1) (tl := tC (.ref a)) l inj g d ev_c (sq_of hx) hz hw (fun x hx => (he x hx).mono (e0.trans e1)) H1 (Ex.refl H1) Q (fun p H2 hp e2 h2 => q p H2 (fresh_back e1 hp) (e1.trans e2) h2)
/-- over range(n) -/
theorem el_compR {n : Nat} {tl : TA} (p : Nat → Bool) (g : Nat → V) {vs : List Nat} (h : EvA tl σ H [.int (n : Nat)]) (hn : n ≤ 40000)
    (hw : ∀ x, wipe ((wipe σ vs).set j (some x)) vs = wipe σ vs) (ht : ∀ i, i < n → EvT t ((wipe σ vs).set j (some (.int (i : Nat)))) H (p i)) (he : ∀ i, i < n → p i = true → Ev te ((wipe σ vs).set j (some (.int (i : Nat)))) H (g i)) :
    EvL (tLc (iRng1 tl) (gName j) t te vs) σ H (((List.range n).filter p).map g) := by
  have q := el_lcR1 (t := t) (te := te) (vs := vs) (j := j) (n := (n : Int)) p g h (by omega) hw (fun i H1 e1 hi => (ht i (by omega)).mono e1) (fun i H1 e1 hi hf => (he i (by omega) hf).mono e1)
  rw [Int.toNat_natCast] at q
  exact q
theorem el_mapR {n : Nat} {tl : TA} (g : Nat → V) {vs : List Nat} (h : EvA tl σ H [.int (n : Nat)]) (hn : n ≤ 40000)
    (hw : ∀ x, wipe ((wipe σ vs).set j (some x)) vs = wipe σ vs) (he : ∀ i, i < n → Ev te ((wipe σ vs).set j (some (.int (i : Nat)))) H (g i)) : EvL (tLc (iRng1 tl) (gName j) tYes te vs) σ H ((List.range n).map g) := by
  have e : (List.range n).filter (fun _ => true) = List.range n := List.filter_eq_self.mpr fun _ _ => rfl
  have q := el_compR (fun _ => true) g h hn hw (fun _ _ => et_yes) (fun i hi _ => he i hi)
  rw [e] at q
  exact q
/-- for i, s in enumerate(text) -/
theorem el_compE {m : List Nat} {tl : TA} {j1 j2 : Nat} (p : Nat → Bool) (g : Nat → V) {vs : List Nat} (h : EvA tl σ H [.str (S m)]) (hm : m.length ≤ 40000)
    (hw : ∀ x y, wipe (((wipe σ vs).set j1 (some x)).set j2 (some y)) vs = wipe σ vs)
    (ht : ∀ i, i < m.length → EvT t (((wipe σ vs).set j1 (some (.int (i : Nat)))).set j2 (some (.str (S [m.getD i 0])))) H (p i))
    (he : ∀ i, i < m.length → p i = true → Ev te (((wipe σ vs).set j1 (some (.int (i : Nat)))).set j2 (some (.str (S [m.getD i 0])))) H (g i)) :
    EvL (tLc (iEnumS tl) (gTup K 2 (gCons (gName j1) (gCons (gName j2) gNil))) t te vs) σ H (((List.range m.length).filter p).map g) := fun H0 e0 Q q => h H0 e0 _ fun H1 e => ⟨m, rfl, fun Dl hD =>
  lc_it walk_enumE (Cw H1 p g Dl) ⟨hD, Ex.new hD, upd_same⟩ (fun _ _ _ _ => True.intro) (fun i x H' H'' hi pc ⟨T, ev, hT, eH⟩ => by
    subst ev eH
    have pc2 : Cw H1 p g Dl i (upd H' T (.tup [.int (i : Nat), .str (S [m.getD i 0])])) := ⟨pc.1, pc.2.1.trans (Ex.new hT), Ex.new hT _ _ pc.2.2⟩
    exact ⟨T, _, rfl, st_of upd_same, rfl, _, _, rfl, _, _, rfl, rfl, hw _ _, cw_turn pc2 (by omega) ((ht i hi).mono (e0.trans e)) (fun hf => (he i hi hf).mono (e0.trans e))⟩)
    (fun H' pc => q Dl H' (fresh_back e pc.1) (e.trans pc.2.1) pc.2.2)⟩
end
/-! ## promises -/
def S1 (R : V → Hp → VK → Prop) : Sp := fun vs H Q _ => ∃ a, vs = [a] ∧ R a H Q
def S2 (R : V → V → Hp → VK → Prop) : Sp := fun vs H Q _ => ∃ a b, vs = [a, b] ∧ R a b H Q
def S3 (R : V → V → V → Hp → VK → Prop) : Sp := fun vs H Q _ => ∃ a b c, vs = [a, b, c] ∧ R a b c H Q
def S4 (R : V → V → V → V → Hp → VK → Prop) : Sp := fun vs H Q _ => ∃ a b c d, vs = [a, b, c, d] ∧ R a b c d H Q
theorem len1 {R : V → Hp → VK → Prop} (vs : List V) (H : Hp) (Q : VK) (E : XK) (h : S1 R vs H Q E) : vs.length = 1 := by
  obtain ⟨a, rfl, _⟩ := h
  rfl
theorem len2 {R : V → V → Hp → VK → Prop} (vs : List V) (H : Hp) (Q : VK) (E : XK) (h : S2 R vs H Q E) : vs.length = 2 := by
  obtain ⟨a, b, rfl, _⟩ := h
  rfl
theorem len3 {R : V → V → V → Hp → VK → Prop} (vs : List V) (H : Hp) (Q : VK) (E : XK) (h : S3 R vs H Q E) : vs.length = 3 := by
  obtain ⟨a, b, c, rfl, _⟩ := h
  rfl
theorem len4 {R : V → V → V → V → Hp → VK → Prop} (vs : List V) (H : Hp) (Q : VK) (E : XK) (h : S4 R vs H Q E) : vs.length = 4 := by
  obtain ⟨a, b, c, d, rfl, _⟩ := h
  rfl
theorem sv1 {R : V → Hp → VK → Prop} {a z : V} {H : Hp} (h : ∀ H1, Ex H H1 → ∀ Q, Go H1 (Q z) → R a H1 Q) : SpV (S1 R) [a] H z := fun H1 e Q q _ => ⟨a, rfl, h H1 e Q q⟩
theorem sv2 {R : V → V → Hp → VK → Prop} {a b z : V} {H : Hp} (h : ∀ H1, Ex H H1 → ∀ Q, Go H1 (Q z) → R a b H1 Q) : SpV (S2 R) [a, b] H z := fun H1 e Q q _ => ⟨a, b, rfl, h H1 e Q q⟩
theorem sv3 {R : V → V → V → Hp → VK → Prop} {a b c z : V} {H : Hp} (h : ∀ H1, Ex H H1 → ∀ Q, Go H1 (Q z) → R a b c H1 Q) : SpV (S3 R) [a, b, c] H z := fun H1 e Q q _ => ⟨a, b, c, rfl, h H1 e Q q⟩
theorem sv4 {R : V → V → V → V → Hp → VK → Prop} {a b c d z : V} {H : Hp} (h : ∀ H1, Ex H H1 → ∀ Q, Go H1 (Q z) → R a b c d H1 Q) : SpV (S4 R) [a, b, c, d] H z := fun H1 e Q q _ => ⟨a, b, c, d, rfl, h H1 e Q q⟩
/-- a promise that hands back a new list -/
theorem newL_spl {xs : List V} {H1 : Hp} {Q : VK} (q : ∀ p H2, H1 p = none → Ex H1 H2 → H2 p = some (.lst xs) → Q (.ref p) H2) : NewL xs H1 Q := fun p hp H2 e => q p H2 hp ((Ex.new hp).trans e) (e p _ upd_same)
theorem newU_spl {xs : List V} {H1 : Hp} {Q : VK} (q : ∀ p H2, H1 p = none → Ex H1 H2 → H2 p = some (.tup xs) → Q (.ref p) H2) : NewU xs H1 Q := fun p hp H2 e => q p H2 hp ((Ex.new hp).trans e) (e p _ upd_same)
/-- a def of the module that may be called by its name -/
structure Cal (CX : CXT) (P : Program) (w : World) (K : PySem.W.Frag) (mg : Str → Option Value) (base : Heap) (k : Nat) (x : Str) (sp : Sp) : Prop where
  ex : ∃ (f : Addr) (fd : FuncData) (ps : List Str), FnOk P w K mg base CX k f fd ps sp ∧ mg x = some (.ref f) ∧ PySem.W.keepIn K (.ref f) = true ∧ Binds K fd ps []
section
variable {P : Program} {w : World} {K : PySem.W.Frag} {mg : Str → Option Value} {base : Heap}
theorem cal_mk {x : Str} {st : Stmt} {f : Addr} {N ps : List Str} {k : Nat} {sp : Sp} (F : ∃ fd, FunD K x x (defArgs st) (defBody st) (defScope st) [] [] f fd) (g : mg x = some (.ref f)) (S : FnScope N ps (defScope st))
    (b : ∀ (kV doc pm : Value) (an : Option Addr) (cdv ct : Value) (us : List Value), us.length = ps.length → bindArgs (PySem.W.fnOf x x (defArgs st) (defBody st) (defScope st) .none kV doc pm an cdv ct) ⟨us, []⟩ = pure (ps.zip us))
    (len : ∀ vs H Q E, sp vs H Q E → vs.length = ps.length)
    (body : ∀ (cdv : Value) (A : Around) (outer : List Env) (s : Shared) (H : Hp) (vs : List V) (Q : VK) (E : XK), Room k (A.deeper (envOfC x (defScope st) s.heap.objs.size f cdv)) → sp vs H Q E →
      ∃ t, PSs (cxOf CX0 P w K mg base N x (defScope st) f cdv A outer s H E).nox (defBody st) t ∧ Go H (t { nx := fun _ H' => Q .non H', rt := Q } (start N vs))) : Cal CX0 P w K mg base (k + 1) x sp := by
  obtain ⟨fd, F⟩ := F
  refine ⟨f, fd, ps, F.ok S len (fun cdv A outer s H vs Q E hr hsp => ?_), g, F.kp, F.bindsN b⟩
  obtain ⟨t, h, q⟩ := body cdv A outer s H vs Q E hr hsp
  exact ⟨t, h.nox, q.here⟩
end
section
variable {X : Cx} {k j : Nat} {C : Addr} {x m : Str} {sp : Sp} {p pos apos : Pos} {e o : Expr} {es : List Expr} {ta : TE} {t : TA}
theorem pe_k (c : Cal CX0 X.prog X.w X.K X.mg X.base k x sp) (hr : Room j X.A) (hk : k ≤ j) (hg : Gl X x) (ha : PA X (e :: es) t)
    (hdb : (x == ("__debug__" : Str)) = false := by decide) (he : starEach (e :: es) X.env = (false, eval e X.env) :: starEach es X.env := by rfl) (hpl : (backTo pos (starEach es X.env)).any (·.1) = false := by rfl) :
    PE X (.Call (.Name x p) (e :: es) [] pos) (tCall sp [] E0 t) := by
  obtain ⟨f, fd, ps, F, hm, kp, b⟩ := c.ex
  exact pe_call F (hr.mono hk) hg hm kp b .nil pass0 ha hdb he hpl
end
end Od

namespace Od
open PySem PySem.Spec PyProof.Rows L2 SX Evl
open PySem.Builtin PySem.Builtin.Str
/-! ## types of values -/
theorem tyx_mono {K : PySem.W.Frag} {H H1 : Hp} (e : Ex H H1) {x : V} {t : Value} (h : TyX K H x t) : TyX K H1 x t := by
  cases h with
  | base b =>
    cases b with
    | non => exact .base .non
    | bl x => exact .base (.bl x)
    | int x => exact .base (.int x)
    | str x => exact .base (.str x)
    | flt x => exact .base (.flt x)
    | lst q => exact .base (.lst (e _ _ q))
    | frz q => exact .base (.frz (e _ _ q))
    | tup q => exact .base (.tup (e _ _ q))
    | dK q => exact .base (.dK (e _ _ q))
    | dT q => exact .base (.dT (e _ _ q))
    | ins q c a n t m => exact .base (.ins (e _ _ q) c a n t m)
  | byt b => exact .byt b
  | set q => exact .set (e _ _ q)
  | kList q c => exact .kList q c
  | kTuple q c => exact .kTuple q c
  | kDict q c => exact .kDict q c
  | fTuple q => exact .fTuple (e _ _ q)
  | fDict q => exact .fDict (e _ _ q)
theorem tyx_sql {K : PySem.W.Frag} {H : Hp} {a : Addr} {xs : List V} (h : SqL K H a xs) : TyX K H (.ref a) (.type "list") := by
  rcases h with (h | ⟨o, h⟩) | ⟨o, its, n, q, c, _⟩
  · exact .base (.lst h)
  · exact .base (.frz h)
  · exact .kList q c
theorem tyx_sqt {K : PySem.W.Frag} {H : Hp} {a : Addr} {xs : List V} (h : SqT K H a xs) : TyX K H (.ref a) (.type "tuple") := by
  rcases h with (h | ⟨o, h⟩) | ⟨o, its, n, q, c, _⟩
  · exact .base (.tup h)
  · exact .fTuple h
  · exact .kTuple q c
section
variable {K : PySem.W.Frag} {σ : L2.St} {H H' : Hp} {ta tb tc te tx : TE} {t u : TT} {x : V} {j : Nat}
theorem ev_isT {c : V} {tt uu : Value} {bb : Bool} (ha : Ev ta σ H x) (hb : Ev tb σ H c) (hc : ClsV c uu) (ht : TyX K H x tt) (hk : PySem.W.kitOne K tt uu = some bb) : Ev (tCB (rIsi K) (tCons ta (tCons tb tNil))) σ H (.bl bb) :=
  ev_isi ha hb hc (fun H1 e => tyx_mono e ht) hk
/-- [e for s in text] -/
theorem el_mapS {m : List Nat} (g : Nat → V) {tl : TE} {vs : List Nat} (h : Ev tl σ H (.str (S m))) (hz : m.length ≤ 40000)
    (hw : ∀ x, wipe ((wipe σ vs).set j (some x)) vs = wipe σ vs) (he : ∀ c ∈ m, Ev te ((wipe σ vs).set j (some (.str (S [c])))) H (g c)) : EvL (tLc (iStr tl) (gName j) tYes te vs) σ H (m.map g) := fun H0 e0 Q q =>
  h H0 e0 _ fun H1 e => ⟨S m, rfl, fun Dl hD => by
    have e2 : m.map g = given m.length (fun _ => true) fun i => g (m.getD i 0) := by
      rw [given_list 0 m (fun _ => true) g, List.filter_eq_self.mpr fun _ _ => rfl]
    have hs : (S m).cps.size = m.length := S_len m
    have W := walk_str (z := S m)
    rw [hs] at W
    refine lc_it W (Cw H1 (fun _ => true) (fun i => g (m.getD i 0)) Dl) ⟨hD, Ex.new hD, upd_same⟩ (fun _ _ _ _ => True.intro) (fun i x H' H'' hi pc ⟨eH, c, hc, ev⟩ => ?_) (fun H' pc => q Dl H' (fresh_back e pc.1) (e.trans pc.2.1) (by rw [e2]; exact pc.2.2))
    subst ev eH
    have hc2 : m[i]? = some c := by
      have z : (S m).cps[i]? = some c := hc
      simpa using z
    have ec : m.getD i 0 = c := by simp [List.getD_eq_getElem?_getD, hc2]
    refine ⟨hw _, cw_turn pc (by omega) et_yes fun _ => ?_⟩
    rw [ec]
    exact (he c (List.mem_of_getElem? hc2)).mono (e0.trans e)⟩
end
/-! ## join of texts -/
def rJoinT (K : PySem.W.Frag) : V → List V → Hp → VK → Prop := fun x xs H Q => ∃ (a : List Nat) (p : Addr) (ys : List (List Nat)), x = .str (S a) ∧ xs = [.ref p] ∧ SqL K H p (ys.map fun y => .str (S y)) ∧
  (ys.map (·.length)).sum + ys.length * a.length ≤ 100000 ∧ Q (.str (S (TL.joinL a ys))) H
section
variable {X : Cx}
theorem mt_joinT : MtR X "str.join" (rJoinT X.K) := fun pins s σ H x xs v us Q I rx rxs h => by
  obtain ⟨a, p, ys, rfl, rfl, hp, hl, q⟩ := h
  refine mt_join pins s σ H _ _ v us Q I rx rxs ⟨S a, p, ys.map S, rfl, rfl, .inl (by rw [List.map_map]; exact hp), ?_, by rw [join_S]; exact q⟩
  rw [lens, List.length_map, S_len]
  omega
end
theorem joinL_nil : ∀ ys : List (List Nat), TL.joinL [] ys = ys.flatten
  | [] => rfl
  | [y] => by
    show y = [y].flatten
    simp
  | y :: z :: r => by
    show y ++ ([] ++ TL.joinL [] (z :: r)) = _
    rw [joinL_nil (z :: r)]
    simp
theorem joinL_one (f : α → Nat) (l : List α) : TL.joinL [] (l.map fun i => [f i]) = l.map f := by
  rw [joinL_nil]
  induction l with
  | nil => rfl
  | cons a r ih => rw [List.map_cons, List.flatten_cons, ih, List.map_cons] <;> rfl
section
variable {K : PySem.W.Frag} {σ : L2.St} {H H' : Hp} {ta tb : TE}
/-- ''.join([one sign for each of ..]), the list just made -/
theorem ev_joinOne {α : Type} (l : List α) (f : α → Nat) (ha : Ev ta σ H (.str (S []))) (hb : EvL tb σ H (l.map fun i => .str (S [f i]))) (hl : l.length ≤ 100000) : Ev (tM1 (rJoinT K) ta tb) σ H (.str (S (l.map f))) := fun H1 e Q q =>
  ha H1 e _ fun H2 e2 => ⟨⟨_, rfl⟩, hb H2 (e.trans e2) _ fun p H3 _ e3 hp => ⟨[], p, l.map fun i => [f i], rfl, rfl, sq_of (by rw [List.map_map]; exact hp), by
    have z : ∀ l : List α, (((l.map fun i => [f i]).map (·.length)).sum) = l.length := fun l => by
      induction l with
      | nil => rfl
      | cons a r ih => simp only [List.map_cons, List.sum_cons, ih, List.length_cons, List.length_nil]; omega
    rw [z]
    simp
    exact hl, by rw [joinL_one]; exact q H3 (e2.trans e3)⟩⟩
theorem ev_join {ys : List (List Nat)} {a : List Nat} (ha : Ev ta σ H (.str (S a))) (hb : EvL tb σ H (ys.map fun y => .str (S y))) (hl : (ys.map (·.length)).sum + ys.length * a.length ≤ 100000) : Ev (tM1 (rJoinT K) ta tb) σ H (.str (S (TL.joinL a ys))) := fun H1 e Q q =>
  ha H1 e _ fun H2 e2 => ⟨⟨_, rfl⟩, hb H2 (e.trans e2) _ fun p H3 _ e3 hp => ⟨a, p, ys, rfl, rfl, sq_of hp, hl, q H3 (e2.trans e3)⟩⟩
end
end Od
namespace Od
open PySem PySem.Spec PyProof.Rows L2 SX Evl
/-! ## rules whose reading names the written part apart from the context (for what stands within a comprehension) -/
section
variable {X : Cx} {e : Expr} {f : Str} {ta : TE} {pos : Pos}
theorem op_inK (K : PySem.W.Frag) (h : X.K = K := by rfl) : OpR X (compareOp .In) (rIn K false) := h ▸ op_in_seq
theorem op_notInK (K : PySem.W.Frag) (h : X.K = K := by rfl) : OpR X (compareOp .NotIn) (rIn K true) := h ▸ op_notIn_seq
theorem op_eqDK (K : PySem.W.Frag) (hu : X.A.units + 64 < cLine) (h : X.K = K := by rfl) : OpR X (compareOp .Eq) (rEqD K) := h ▸ op_eqD hu
theorem op_neDK (K : PySem.W.Frag) (hu : X.A.units + 64 < cLine) (h : X.K = K := by rfl) : OpR X (compareOp .NotEq) (rNeD K) := h ▸ op_neD hu
theorem call_lenQK (K : PySem.W.Frag) (h : X.K = K := by rfl) : CallR X (.builtin "len") (rLenQ K) := h ▸ call_lenQ
theorem call_isiK2 (K : PySem.W.Frag) (h : X.K = K := by rfl) : CallR X (.builtin "isinstance") (rIsi K) := h ▸ call_isi
theorem cr_allK (K : PySem.W.Frag) (hc : X.calm = true) (h : X.K = K := by rfl) : CallR X (.builtin "all") (rAll K) := h ▸ cr_all hc
theorem cr_anyK (K : PySem.W.Frag) (hc : X.calm = true) (h : X.K = K := by rfl) : CallR X (.builtin "any") (rAny K) := h ▸ cr_any hc
theorem ix_listK (K : PySem.W.Frag) (h : X.K = K := by rfl) : IxR X (rIxL K) := h ▸ ix_list
theorem ix_tupK (K : PySem.W.Frag) (h : X.K = K := by rfl) : IxR X (rIxT K) := h ▸ ix_tup
theorem sl_listK (K : PySem.W.Frag) (h : X.K = K := by rfl) : SlR X (rSlL K) := h ▸ sl_list
theorem pe_fldK (K : PySem.W.Frag) (he : PE X e ta) (hb : attributeBase e f X.env (eval e X.env) = eval e X.env) (h : X.K = K := by rfl) : PE X (.Attribute e f pos) (tFld K ta f) := h ▸ pe_fld he hb
end
end Od
namespace Od
open PySem PySem.Spec PyProof.Rows L2 SX Evl
section
variable {K : PySem.W.Frag} {σ σ2 : L2.St} {H H' : Hp} {ta tb tc te tx : TE} {t u : TT} {x : V} {i j : Nat} {D : Ends} {tu tw tz : TS} {xs ys : List V}
/-- an if without else that leaves known slots, whichever way -/
theorem go_whenS {b : Bool} (h : EvT t σ H b) (σ2 : L2.St) (h1 : b = true → Go H (tz D σ2) → Go H (tu { D with nx := tz D } σ)) (h2 : b = false → σ = σ2) (k : Go H (tz D σ2)) : Go H (tSeq (tIfS t tu tNext) tz D σ) :=
  go_when h (fun e => h1 e k) (fun e => by rw [h2 e]; exact k)
/-- xs * k, xs just written -/
theorem el_rep {k : Int} (ha : EvL ta σ H xs) (hb : Ev tb σ H (.int k)) (h1 : -(2 ^ 63) ≤ k) (h2 : k < 2 ^ 63) (h3 : xs.length * k.toNat ≤ 100000) : EvL (tOp rRep ta tb) σ H (List.replicate k.toNat xs).flatten := fun H1 e Q q =>
  ha H1 e _ fun p H2 _ e2 hp => hb H2 (e.trans e2) _ fun H3 e3 => ⟨p, k, xs, rfl, rfl, e3 p _ hp, h1, h2, sz_of h3, fun l hl => q l _ (fresh_back (e2.trans e3) hl) ((e2.trans e3).trans (Ex.new hl)) upd_same⟩
/-- xs + ys, both tracked | new -/
theorem el_cat {p q : Addr} (ha : Ev ta σ H (.ref p)) (hb : Ev tb σ H (.ref q)) (hp : H p = some (.lst xs)) (hq : H q = some (.lst ys)) (hl : xs.length + ys.length ≤ 100000) : EvL (tOp rCat ta tb) σ H (xs ++ ys) := fun H1 e Q k =>
  ha H1 e _ fun H2 e2 => hb H2 (e.trans e2) _ fun H3 e3 => ⟨p, q, xs, ys, rfl, rfl, ((e.trans e2).trans e3) p _ hp, ((e.trans e2).trans e3) q _ hq, sz_of hl, fun l hl => k l _ (fresh_back (e2.trans e3) hl) ((e2.trans e3).trans (Ex.new hl)) upd_same⟩
theorem el_catN {p : Addr} (ha : Ev ta σ H (.ref p)) (hb : EvL tb σ H ys) (hp : H p = some (.lst xs)) (hl : xs.length + ys.length ≤ 100000) : EvL (tOp rCat ta tb) σ H (xs ++ ys) := fun H1 e Q k =>
  ha H1 e _ fun H2 e2 => hb H2 (e.trans e2) _ fun q H3 _ e3 hq => ⟨p, q, xs, ys, rfl, rfl, ((e.trans e2).trans e3) p _ hp, hq, sz_of hl, fun l hl => k l _ (fresh_back (e2.trans e3) hl) ((e2.trans e3).trans (Ex.new hl)) upd_same⟩
theorem el_catNN (ha : EvL ta σ H xs) (hb : EvL tb σ H ys) (hl : xs.length + ys.length ≤ 100000) : EvL (tOp rCat ta tb) σ H (xs ++ ys) := fun H1 e Q k =>
  ha H1 e _ fun p H2 _ e2 hp => hb H2 (e.trans e2) _ fun q H3 _ e3 hq => ⟨p, q, xs, ys, rfl, rfl, e3 p _ hp, hq, sz_of hl, fun l hl => k l _ (fresh_back (e2.trans e3) hl) ((e2.trans e3).trans (Ex.new hl)) upd_same⟩
theorem el_catNq {q : Addr} (ha : EvL ta σ H xs) (hb : Ev tb σ H (.ref q)) (hq : H q = some (.lst ys)) (hl : xs.length + ys.length ≤ 100000) : EvL (tOp rCat ta tb) σ H (xs ++ ys) := fun H1 e Q k =>
  ha H1 e _ fun p H2 _ e2 hp => hb H2 (e.trans e2) _ fun H3 e3 => ⟨p, q, xs, ys, rfl, rfl, e3 p _ hp, ((e.trans e2).trans e3) q _ hq, sz_of hl, fun l hl => k l _ (fresh_back (e2.trans e3) hl) ((e2.trans e3).trans (Ex.new hl)) upd_same⟩
theorem el_mapE {m : List Nat} {tl : TA} {j1 j2 : Nat} (g : Nat → V) {vs : List Nat} (h : EvA tl σ H [.str (S m)]) (hm : m.length ≤ 40000)
    (hw : ∀ x y, wipe (((wipe σ vs).set j1 (some x)).set j2 (some y)) vs = wipe σ vs)
    (he : ∀ i, i < m.length → Ev te (((wipe σ vs).set j1 (some (.int (i : Nat)))).set j2 (some (.str (S [m.getD i 0])))) H (g i)) :
    EvL (tLc (iEnumS tl) (gTup K 2 (gCons (gName j1) (gCons (gName j2) gNil))) tYes te vs) σ H ((List.range m.length).map g) := by
  have e : (List.range m.length).filter (fun _ => true) = List.range m.length := List.filter_eq_self.mpr fun _ _ => rfl
  have q := el_compE (K := K) (fun _ => true) g h hm hw (fun _ _ => et_yes) (fun i hi _ => he i hi)
  rw [e] at q
  exact q
end
theorem sl1 {R : V → Hp → VK → Prop} {a : V} {xs : List V} {H : Hp} (h : ∀ H1, Ex H H1 → ∀ Q, NewL xs H1 Q → R a H1 Q) : SpL (S1 R) [a] H xs := fun H1 e Q q _ => ⟨a, rfl, h H1 e Q (newL_spl q)⟩
theorem sl2 {R : V → V → Hp → VK → Prop} {a b : V} {xs : List V} {H : Hp} (h : ∀ H1, Ex H H1 → ∀ Q, NewL xs H1 Q → R a b H1 Q) : SpL (S2 R) [a, b] H xs := fun H1 e Q q _ => ⟨a, b, rfl, h H1 e Q (newL_spl q)⟩
theorem sl3 {R : V → V → V → Hp → VK → Prop} {a b c : V} {xs : List V} {H : Hp} (h : ∀ H1, Ex H H1 → ∀ Q, NewL xs H1 Q → R a b c H1 Q) : SpL (S3 R) [a, b, c] H xs := fun H1 e Q q _ => ⟨a, b, c, rfl, h H1 e Q (newL_spl q)⟩
theorem sl4 {R : V → V → V → V → Hp → VK → Prop} {a b c d : V} {xs : List V} {H : Hp} (h : ∀ H1, Ex H H1 → ∀ Q, NewL xs H1 Q → R a b c d H1 Q) : SpL (S4 R) [a, b, c, d] H xs := fun H1 e Q q _ => ⟨a, b, c, d, rfl, h H1 e Q (newL_spl q)⟩
theorem el_call0 {σ : L2.St} {H : Hp} {xs : List V} {sp : Sp} {vs : List V} {E : XK} {tr : TA} (h : EvA tr σ H vs) (hs : SpL sp (vs ++ []) H xs) : EvL (tCall sp [] E tr) σ H xs := el_call h hs
end Od
namespace Od
open PySem PySem.Spec PyProof.Rows L2 SX Evl
section
variable {X : Cx} {pos : Pos}
theorem pg_tupK (K : PySem.W.Frag) (n : Nat) {es : List Expr} {k : Nat} {t : TGs} (hc : X.calm = true) (h : PGs X es t)
    (hn : (assignEach es X.env).length = n := by rfl) (hst : (assignEach es X.env).findIdx? (·.1) = none := by rfl) (e : X.K = K := by rfl) : PG X (.Tuple es k pos) (gTup K n t) := e ▸ pg_tup hc h hn hst
end
end Od

namespace Od
open PySem PySem.Spec PyProof.Rows L2 SX Evl
/-! ## the program as functions of plain data: a text of marks is the list of its signs (101 e, 104 h, 108 l, 103 g) -/
abbrev tEven : List Nat := [101, 118, 101, 110]
abbrev tLeft : List Nat := [108, 101, 102, 116]
abbrev tRight : List Nat := [114, 105, 103, 104, 116]
/-- what are marks -/
def Marks (m : List Nat) : Prop := (∀ c ∈ m, c = 101 ∨ c = 104 ∨ c = 108 ∨ c = 103) ∧ ¬ (101 ∈ m ∧ (104 ∈ m ∨ 108 ∈ m))
def marksB (m : List Nat) : Bool := (m.all fun c => decide (c ∈ [101, 104, 108, 103])) && !(decide (101 ∈ m) && (decide (104 ∈ m) || decide (108 ∈ m)))
def tiltB (m : List Nat) : Bool := decide (104 ∈ m) || decide (108 ∈ m)
def casesN (m : List Nat) : Nat := 2 * m.count 101 + m.count 104 + m.count 108 + if tiltB m then 0 else 1
/-- the fewest weighings with as many outcomes -/
def wf (n : Nat) : Nat := if h : n ≤ 1 then 0 else wf ((n + 2) / 3) + 1
  termination_by n
  decreasing_by omega
theorem wf_le : ∀ (k n : Nat), n ≤ 3 ^ k ↔ wf n ≤ k
  | 0, n => by
    rw [wf]
    split
    · rename_i h
      exact ⟨fun _ => Nat.le_refl _, fun _ => h⟩
    · rename_i h
      exact ⟨fun q => absurd q h, fun q => absurd q (by omega)⟩
  | k + 1, n => by
    rw [wf]
    split
    · rename_i h
      exact ⟨fun _ => Nat.zero_le _, fun _ => Nat.le_trans h (Nat.one_le_pow _ _ (by decide))⟩
    · rename_i h
      have ih := wf_le k ((n + 2) / 3)
      rw [Nat.add_le_add_iff_right, ← ih, Nat.pow_succ]
      omega
theorem wf_gt (k n : Nat) : 3 ^ k < n ↔ k < wf n := by
  have h := wf_le k n
  omega
def isIntV : V → Bool
  | .int _ => true
  | _ => false
def intOf : V → Int
  | .int i => i
  | _ => 0
/-- rising counts from above last on to c -/
def riseB (c : Int) : Int → List Int → Bool
  | _, [] => true
  | last, x :: r => decide (last < x) && decide (x ≤ c) && riseB c x r
def sideV (xs : List V) (c : Int) : Bool := xs.all isIntV && riseB c (-1) (xs.map intOf)
def sideN (ns : List Int) (c : Int) : Bool := riseB c (-1) ns
theorem sideV_ints (ns : List Int) (c : Int) : sideV (ns.map V.int) c = sideN ns c := by
  unfold sideV sideN
  rw [List.map_map]
  have e1 : (ns.map V.int).all isIntV = true := by
    rw [List.all_eq_true]
    intro x hx
    obtain ⟨n, _, rfl⟩ := List.mem_map.mp hx
    rfl
  have e2 : ns.map (intOf ∘ V.int) = ns := by
    conv => rhs; rw [← List.map_id ns]
    exact List.map_congr_left fun _ _ => rfl
  rw [e1, e2, Bool.true_and]
/-- whether two lists are a weighing of c coins -/
def weighB (c : Int) (l r : List Int) : Bool := sideN l c && sideN r c && decide (l.length = r.length) && !(l.any fun x => decide (x ∈ r))
def leftover (c : Nat) (s : Int) (o : List Nat) : Nat :=
  if o = tEven then (if s = 0 then c else 103) else if 0 < s ∧ (c = 101 ∨ c = 104) then 104 else if s < 0 ∧ (c = 101 ∨ c = 108) then 108 else 103
def sideOf (l r : List Int) (o : List Nat) (i : Int) : Int :=
  if i ∈ (if o = tRight then l else r) then -1 else if i ∈ (if o = tRight then r else l) then 1 else 0
def behindL (m : List Nat) (l r : List Int) (o : List Nat) : List Nat := (List.range m.length).map fun i => leftover (m.getD i 0) (sideOf l r o (i : Nat)) o
def manyN (m : List Nat) (l r : List Int) (o : List Nat) : Nat :=
  2 * (behindL m l r o).count 101 + (behindL m l r o).count 104 + (behindL m l r o).count 108 + if decide (o = tEven) && !tiltB m then 1 else 0
end Od
namespace Od
open PySem PySem.Spec PyProof.Rows L2 SX Evl
/-- a thing handed in where a list of counts is due: no list, or a list of these flat things -/
def Thing (K : PySem.W.Frag) (H : Hp) (a : V) : Option (List V) → Prop
  | none => ∃ t, TyX K H a t ∧ PySem.W.kitOne K t (.type "list") = some false
  | some xs => ∃ p, a = .ref p ∧ SqL K H p xs ∧ xs.all flatV = true ∧ xs.length ≤ 40000
theorem Thing.mono {K : PySem.W.Frag} {H H1 : Hp} {a : V} {o : Option (List V)} (e : Ex H H1) (h : Thing K H a o) : Thing K H1 a o := by
  cases o with
  | none =>
    obtain ⟨t, h1, h2⟩ := h
    exact ⟨t, tyx_mono e h1, h2⟩
  | some xs =>
    obtain ⟨p, h1, h2, h3⟩ := h
    exact ⟨p, h1, ex_l e h2, h3⟩
def sideO (o : Option (List V)) (c : Int) : Bool := match o with
  | none => false
  | some xs => sideV xs c
def weighO (c : Int) (l r : Option (List V)) : Bool := match l, r with
  | some l, some r => sideV l c && (sideV r c && (decide (l.length = r.length) && !(l.any fun x => inV x r)))
  | _, _ => false
theorem all_flat (ns : List Int) : (ns.map V.int).all flatV = true := by
  rw [List.all_eq_true]
  intro x hx
  obtain ⟨n, _, rfl⟩ := List.mem_map.mp hx
  rfl
theorem thing_ints {K : PySem.W.Frag} {H : Hp} {p : Addr} {ns : List Int} (h : SqL K H p (ns.map V.int)) (hl : ns.length ≤ 40000) : Thing K H (.ref p) (some (ns.map V.int)) :=
  ⟨p, rfl, h, all_flat ns, by rw [List.length_map]; exact hl⟩
theorem inV_ints (x : Int) (r : List Int) : inV (.int x) (r.map V.int) = decide (x ∈ r) := by
  unfold inV
  rw [List.any_map]
  cases h : decide (x ∈ r) with
  | true =>
    rw [List.any_eq_true]
    exact ⟨x, of_decide_eq_true h, by show (x == x) = true; simp⟩
  | false =>
    rw [List.any_eq_false]
    intro y hy q
    have e : (y == x) = true := q
    have e2 : y = x := by simpa using e
    subst e2
    exact of_decide_eq_false h hy
theorem weighO_ints (c : Int) (l r : List Int) : weighO c (some (l.map V.int)) (some (r.map V.int)) = weighB c l r := by
  unfold weighO weighB
  have e : ((l.map V.int).any fun x => inV x (r.map V.int)) = l.any fun x => decide (x ∈ r) := by
    rw [List.any_map]
    congr 1
    funext x
    exact inV_ints x r
  show (sideV (l.map V.int) c && (sideV (r.map V.int) c && (decide ((l.map V.int).length = (r.map V.int).length) && !((l.map V.int).any fun x => inV x (r.map V.int))))) = _
  rw [sideV_ints, sideV_ints, e, List.length_map, List.length_map, Bool.and_assoc, Bool.and_assoc]
theorem ints_of {xs : List V} (h : xs.all isIntV = true) : xs = (xs.map intOf).map V.int := by
  rw [List.map_map]
  conv => lhs; rw [← List.map_id xs]
  refine List.map_congr_left fun x hx => ?_
  have q := List.all_eq_true.mp h x hx
  cases x with
  | int i => rfl
  | _ => cases q
theorem drop_at {α : Type} {l : List α} {i : Nat} {x : α} (h : l[i]? = some x) : l.drop i = x :: l.drop (i + 1) := by
  obtain ⟨h1, h2⟩ := List.getElem?_eq_some_iff.mp h
  rw [List.drop_eq_getElem_cons h1, h2]
end Od
namespace Od
open PySem PySem.Spec PyProof.Rows L2 SX Evl
/-! ## the sides, as they are stored one by one -/
def putAll (v : Int) (f : List Int) (xs : List Int) : List Int := xs.foldl (fun f x => f.set x.toNat v) f
theorem putAll_len (v : Int) : ∀ (xs f : List Int), (putAll v f xs).length = f.length
  | [], f => rfl
  | x :: r, f => by
    show (putAll v (f.set x.toNat v) r).length = _
    rw [putAll_len v r, List.length_set]
theorem putAll_get (v : Int) : ∀ (xs f : List Int) (i : Nat), i < f.length → (∀ x ∈ xs, 0 ≤ x) → (putAll v f xs)[i]? = if (i : Int) ∈ xs then some v else f[i]?
  | [], f, i, _, _ => by simp [putAll]
  | x :: r, f, i, hi, h0 => by
    show (putAll v (f.set x.toNat v) r)[i]? = _
    have hx := h0 x List.mem_cons_self
    rw [putAll_get v r (f.set x.toNat v) i (by rw [List.length_set]; exact hi) fun y hy => h0 y (List.mem_cons_of_mem _ hy)]
    by_cases h : (i : Int) ∈ r
    · rw [if_pos h, if_pos (List.mem_cons_of_mem _ h)]
    · rw [if_neg h]
      by_cases e : x.toNat = i
      · have e2 : (i : Int) = x := by omega
        rw [if_pos (by rw [e2]; exact List.mem_cons_self), e, List.getElem?_set_self hi]
      · have e2 : ¬ (i : Int) = x := by omega
        rw [if_neg (by simp [e2, h]), List.getElem?_set_ne e]
theorem putAll_take (v : Int) {xs f : List Int} {i : Nat} {x : Int} (h : xs[i]? = some x) : putAll v f (xs.take (i + 1)) = (putAll v f (xs.take i)).set x.toNat v := by
  unfold putAll
  rw [List.take_add_one, h, List.foldl_append]
  rfl
def sidesL (n : Nat) (l r : List Int) (o : List Nat) : List Int := putAll (-1) (putAll 1 (List.replicate (n + 1) 0) (if o = tRight then r else l)) (if o = tRight then l else r)
theorem sidesL_get {n : Nat} {l r : List Int} {o : List Nat} (hl : ∀ x ∈ l, 0 ≤ x) (hr : ∀ x ∈ r, 0 ≤ x) {i : Nat} (hi : i < n + 1) : (sidesL n l r o)[i]? = some (sideOf l r o (i : Nat)) := by
  unfold sidesL sideOf
  have h1 : ∀ x ∈ (if o = tRight then r else l), 0 ≤ x := by
    split
    · exact hr
    · exact hl
  have h2 : ∀ x ∈ (if o = tRight then l else r), 0 ≤ x := by
    split
    · exact hl
    · exact hr
  rw [putAll_get _ _ _ i (by rw [putAll_len, List.length_replicate]; exact hi) h2, putAll_get _ _ _ i (by rw [List.length_replicate]; exact hi) h1]
  have e : (List.replicate (n + 1) (0 : Int))[i]? = some 0 := by
    rw [List.getElem?_replicate, if_pos hi]
  rw [e]
  by_cases a1 : (i : Int) ∈ (if o = tRight then l else r)
  · rw [if_pos a1, if_pos a1]
  · rw [if_neg a1, if_neg a1]
    by_cases a2 : (i : Int) ∈ (if o = tRight then r else l)
    · rw [if_pos a2, if_pos a2]
    · rw [if_neg a2, if_neg a2]
end Od

namespace Od
open PySem PySem.Spec PyProof.Rows L2 SX Evl
/-! ## == of lists of ints -/
def dI (ns : List Int) : PyData := .list (ns.map PyData.int)
theorem lay_ints : ∀ ns : List Int, PyData.canLayAll0 (ns.map PyData.int) = true
  | [] => by simp [PyData.canLayAll0]
  | n :: r => by
    rw [List.map_cons]
    unfold PyData.canLayAll0
    rw [lay_ints r]
    simp [PyData.canLay0]
theorem depth_ints : ∀ ns : List Int, PyData.depthAll (ns.map PyData.int) = 0
  | [] => by simp [PyData.depthAll]
  | n :: r => by
    rw [List.map_cons]
    simp [PyData.depthAll, depth_ints r, PyData.depth]
theorem shaped_ints (ns : List Int) : SeqAt.shaped (dI ns) = true := by
  unfold SeqAt.shaped dI
  rw [Bool.and_eq_true]
  refine ⟨?_, ?_⟩
  · unfold PyData.canLay0
    exact lay_ints ns
  · simp [PyData.depth, depth_ints ns]
theorem eqv_intsAll : ∀ xs ys : List Int, PyData.eqvAll (xs.map PyData.int) (ys.map PyData.int) = decide (xs = ys)
  | [], [] => by simp [PyData.eqvAll]
  | [], y :: s => by simp [PyData.eqvAll]
  | x :: r, [] => by simp [PyData.eqvAll]
  | x :: r, y :: s => by
    rw [List.map_cons, List.map_cons]
    unfold PyData.eqvAll
    rw [eqv_intsAll r s]
    unfold PyData.eqv
    by_cases h : x = y
    · subst h
      by_cases h2 : r = s
      · subst h2; simp
      · simp [h2]
    · have e : (x == y) = false := by simpa using h
      rw [e]
      simp [h]
theorem eqv_ints (xs ys : List Int) : PyData.eqv (dI xs) (dI ys) = decide (xs = ys) := by
  unfold dI PyData.eqv
  exact eqv_intsAll xs ys
theorem dpAll_ints {K : PySem.W.Frag} {H : Hp} : ∀ ns : List Int, DpAll K H (ns.map V.int) (ns.map PyData.int)
  | [] => .nil
  | n :: r => .cons (.int n) (dpAll_ints r)
theorem dp_ints {K : PySem.W.Frag} {H : Hp} {p : Addr} {ns : List Int} (h : SqL K H p (ns.map V.int)) : Dp K H (.ref p) (dI ns) := .lst h (dpAll_ints ns)
section
variable {K : PySem.W.Frag} {σ σ2 : L2.St} {H H' : Hp} {ta tb tc te tx tv : TE} {t u : TT} {x y : V} {i j : Nat} {D : Ends} {tu tw tz : TS} {xs ys : List Int} {p q : Addr}
theorem rv_eqD (hx : SqL K H p (xs.map V.int)) (hy : SqL K H q (ys.map V.int)) : RV (rEqD K) (.ref p) (.ref q) H (.bl (decide (xs = ys))) := rv_val fun H1 e Q q => ⟨dI xs, dI ys, dp_ints (ex_l e hx), dp_ints (ex_l e hy), shaped_ints xs, shaped_ints ys, by rw [eqv_ints]; exact q⟩
theorem rv_neD (hx : SqL K H p (xs.map V.int)) (hy : SqL K H q (ys.map V.int)) : RV (rNeD K) (.ref p) (.ref q) H (.bl (!decide (xs = ys))) := rv_val fun H1 e Q q => ⟨dI xs, dI ys, dp_ints (ex_l e hx), dp_ints (ex_l e hy), shaped_ints xs, shaped_ints ys, by rw [eqv_ints]; exact q⟩
theorem ev_eqRR (ha : Ev ta σ H (.ref p)) (hb : Ev tb σ H (.ref q)) (hx : SqL K H p (xs.map V.int)) (hy : SqL K H q (ys.map V.int)) : Ev (tOp (rEqD K) ta tb) σ H (.bl (decide (xs = ys))) := ev_op ha hb (rv_eqD hx hy)
theorem ev_neRR (ha : Ev ta σ H (.ref p)) (hb : Ev tb σ H (.ref q)) (hx : SqL K H p (xs.map V.int)) (hy : SqL K H q (ys.map V.int)) : Ev (tOp (rNeD K) ta tb) σ H (.bl (!decide (xs = ys))) := ev_op ha hb (rv_neD hx hy)
theorem ev_eqRN (ha : Ev ta σ H (.ref p)) (hb : EvL tb σ H (ys.map V.int)) (hx : SqL K H p (xs.map V.int)) : Ev (tOp (rEqD K) ta tb) σ H (.bl (decide (xs = ys))) := ev_opL ha hb fun q H1 hq e => rv_eqD (ex_l e hx) (sq_of hq)
theorem ev_neRN (ha : Ev ta σ H (.ref p)) (hb : EvL tb σ H (ys.map V.int)) (hx : SqL K H p (xs.map V.int)) : Ev (tOp (rNeD K) ta tb) σ H (.bl (!decide (xs = ys))) := ev_opL ha hb fun q H1 hq e => rv_neD (ex_l e hx) (sq_of hq)
theorem ev_eqNN (ha : EvL ta σ H (xs.map V.int)) (hb : EvL tb σ H (ys.map V.int)) : Ev (tOp (rEqD K) ta tb) σ H (.bl (decide (xs = ys))) := ev_opLL ha hb fun p q H1 hp hq e => rv_eqD (sq_of hp) (sq_of hq)
theorem ev_neNN (ha : EvL ta σ H (xs.map V.int)) (hb : EvL tb σ H (ys.map V.int)) : Ev (tOp (rNeD K) ta tb) σ H (.bl (!decide (xs = ys))) := ev_opLL ha hb fun p q H1 hp hq e => rv_neD (sq_of hp) (sq_of hq)
/-! ## sorted -/
def srt (ns : List Int) : List Int := ns.mergeSort (fun a b => decide (a ≤ b))
theorem srt_perm (ns : List Int) : (srt ns).Perm ns := List.mergeSort_perm ns _
theorem srt_pair (ns : List Int) : (srt ns).Pairwise (· ≤ ·) := by
  have h := List.pairwise_mergeSort (le := fun a b : Int => decide (a ≤ b)) (by intro a b c; simp; omega) (by intro a b; simp; omega) ns
  exact h.imp fun q => of_decide_eq_true q
theorem srt_eq {ns ms : List Int} (h : ms.Perm ns) (hs : ms.Pairwise (· ≤ ·)) : ms = srt ns :=
  List.Perm.eq_of_pairwise (fun a b _ _ h1 h2 => by have h3 : a ≤ b := h1; have h4 : b ≤ a := h2; omega) hs (srt_pair ns) (h.trans (srt_perm ns).symm)
theorem el_sortedN (ha : EvL ta σ H (xs.map V.int)) : EvL (tCB (rSortedI K) (tCons ta tNil)) σ H ((srt xs).map V.int) := fun H1 e Q k =>
  ha H1 e _ fun p H2 hp e2 h2 => ⟨p, xs, rfl, sq_of h2, fun ms l hm hs hl => by
    rw [srt_eq hm hs]
    exact k l _ (fresh_back e2 hl) (e2.trans (Ex.new hl)) upd_same⟩
theorem el_sorted (ha : Ev ta σ H (.ref p)) (hx : SqL K H p (xs.map V.int)) : EvL (tCB (rSortedI K) (tCons ta tNil)) σ H ((srt xs).map V.int) := fun H1 e Q k =>
  ha H1 e _ fun H2 e2 => ⟨p, xs, rfl, ex_l (e.trans e2) hx, fun ms l hm hs hl => by
    rw [srt_eq hm hs]
    exact k l _ (fresh_back e2 hl) (e2.trans (Ex.new hl)) upd_same⟩
/-! ## instances -/
theorem go_fld {C dx : Addr} {fs : List (Str × V)} {f : Str} (hv : Ev tv σ H y) (ha : Ev ta σ H (.ref p)) (h : H p = some (.ins C dx fs)) (c : Cls K C) (n : NoAttr K C f) (l : fs.length < 1000) (k : Go (upd H p (.ins C dx (putF f y fs))) (tz D σ)) :
    Go H (tSeq (sFld K ta tv f) tz D σ) := fun H1 e => hv H1 e _ fun H2 e2 => ha H2 (e.trans e2) _ fun H3 e3 => ⟨p, C, dx, fs, rfl, ((e.trans e2).trans e3) _ _ h, c, n, l, k _ (ex_upd2 ((e.trans e2).trans e3))⟩
theorem go_fldL {C dx : Addr} {fs : List (Str × V)} {f : Str} {zs : List V} (hv : EvL tv σ H zs) (ha : Ev ta σ H (.ref p)) (h : H p = some (.ins C dx fs)) (c : Cls K C) (n : NoAttr K C f) (l : fs.length < 1000)
    (k : ∀ q, H q = none → Go (upd (upd H q (.lst zs)) p (.ins C dx (putF f (.ref q) fs))) (tz D σ)) :
    Go H (tSeq (sFld K ta tv f) tz D σ) := fun H1 e => hv H1 e _ fun q H2 hq e2 h2 => ha H2 (e.trans e2) _ fun H3 e3 => ⟨p, C, dx, fs, rfl, ((e.trans e2).trans e3) _ _ h, c, n, l,
      k q (fresh_back e hq) _ (ex_upd2 (ex_upd ((e.trans e2).trans e3) (e3 _ _ h2)))⟩
end
/-! ## classes: made, their methods -/
structure MakX (P : Program) (w : World) (K : PySem.W.Frag) (mg : Str → Option Value) (base : Heap) (k : Nat) (x : Str) (C : Addr) (sp : Sp) : Prop where
  ex : ∃ (f : Addr) (fd : FuncData) (ps : List Str), Mk K C f ∧ FnOk P w K mg base CX0 k f fd ps sp ∧ mg x = some (.ref C) ∧ Binds K fd ps []
structure MetX (P : Program) (w : World) (K : PySem.W.Frag) (mg : Str → Option Value) (base : Heap) (k : Nat) (C : Addr) (m : Str) (sp : Sp) : Prop where
  ex : ∃ (f : Addr) (fd : FuncData) (ps : List Str), Cls K C ∧ Meth K C m f ∧ FnOk P w K mg base CX0 k f fd ps sp ∧ Binds K fd ps []
section
variable {P : Program} {w : World} {K : PySem.W.Frag} {mg : Str → Option Value} {base : Heap}
theorem mak_mk {x qual : Str} {C : Addr} {st : Stmt} {f : Addr} {N ps : List Str} {k : Nat} {sp : Sp} (F : ∃ fd, FunD K "__init__" qual (defArgs st) (defBody st) (defScope st) [] [] f fd) (M : Mk K C f) (g : mg x = some (.ref C)) (S : FnScope N ps (defScope st))
    (b : ∀ (kV doc pm : Value) (an : Option Addr) (cdv ct : Value) (us : List Value), us.length = ps.length → bindArgs (PySem.W.fnOf "__init__" qual (defArgs st) (defBody st) (defScope st) .none kV doc pm an cdv ct) ⟨us, []⟩ = pure (ps.zip us))
    (len : ∀ vs H Q E, sp vs H Q E → vs.length = ps.length)
    (body : ∀ (cdv : Value) (A : Around) (outer : List Env) (s : Shared) (H : Hp) (vs : List V) (Q : VK) (E : XK), Room k (A.deeper (envOfC qual (defScope st) s.heap.objs.size f cdv)) → sp vs H Q E →
      ∃ t, PSs (cxOf CX0 P w K mg base N qual (defScope st) f cdv A outer s H E).nox (defBody st) t ∧ Go H (t { nx := fun _ H' => Q .non H', rt := Q } (start N vs))) : MakX P w K mg base (k + 1) x C sp := by
  obtain ⟨fd, F⟩ := F
  refine ⟨f, fd, ps, M, F.ok S len (fun cdv A outer s H vs Q E hr hsp => ?_), g, F.bindsN b⟩
  obtain ⟨t, h, q⟩ := body cdv A outer s H vs Q E hr hsp
  exact ⟨t, h.nox, q.here⟩
theorem met_mk {m qual : Str} {C : Addr} {st : Stmt} {f : Addr} {N ps : List Str} {k : Nat} {sp : Sp} (F : ∃ fd, FunD K m qual (defArgs st) (defBody st) (defScope st) [] [] f fd) (c : Cls K C) (M : Meth K C m f) (S : FnScope N ps (defScope st))
    (b : ∀ (kV doc pm : Value) (an : Option Addr) (cdv ct : Value) (us : List Value), us.length = ps.length → bindArgs (PySem.W.fnOf m qual (defArgs st) (defBody st) (defScope st) .none kV doc pm an cdv ct) ⟨us, []⟩ = pure (ps.zip us))
    (len : ∀ vs H Q E, sp vs H Q E → vs.length = ps.length)
    (body : ∀ (cdv : Value) (A : Around) (outer : List Env) (s : Shared) (H : Hp) (vs : List V) (Q : VK) (E : XK), Room k (A.deeper (envOfC qual (defScope st) s.heap.objs.size f cdv)) → sp vs H Q E →
      ∃ t, PSs (cxOf CX0 P w K mg base N qual (defScope st) f cdv A outer s H E).nox (defBody st) t ∧ Go H (t { nx := fun _ H' => Q .non H', rt := Q } (start N vs))) : MetX P w K mg base (k + 1) C m sp := by
  obtain ⟨fd, F⟩ := F
  refine ⟨f, fd, ps, c, M, F.ok S len (fun cdv A outer s H vs Q E hr hsp => ?_), F.bindsN b⟩
  obtain ⟨t, h, q⟩ := body cdv A outer s H vs Q E hr hsp
  exact ⟨t, h.nox, q.here⟩
end
section
variable {X : Cx} {k j : Nat} {C : Addr} {x m : Str} {sp : Sp} {p pos apos : Pos} {e o : Expr} {es : List Expr} {ta : TE} {t : TA}
theorem pe_mkc (c : MakX X.prog X.w X.K X.mg X.base k x C sp) (hr : Room j X.A) (hk : k + 1 ≤ j) (hg : Gl X x) (ha : PA X (e :: es) t)
    (hdb : (x == ("__debug__" : Str)) = false := by decide) (he : starEach (e :: es) X.env = (false, eval e X.env) :: starEach es X.env := by rfl) (hpl : (backTo pos (starEach es X.env)).any (·.1) = false := by rfl) :
    PE X (.Call (.Name x p) (e :: es) [] pos) (tMake C sp [] E0 t) := by
  obtain ⟨f, fd, ps, M, F, hm, b⟩ := c.ex
  exact pe_make M F (hr.mono hk) hg hm b .nil pass0 ha hdb he hpl
theorem pe_mtc {pl : Sem Bool} (c : MetX X.prog X.w X.K X.mg X.base k C m sp) (hr : Room j X.A) (hk : k ≤ j) (he : PE X o ta) (ha : PA X (e :: es) t)
    (hst : starEach (e :: es) X.env = (false, eval e X.env) :: starEach es X.env := by rfl) (hpl : (backTo pos (starEach es X.env)).any (·.1) = false := by rfl)
    (ht : eval (.Call (.Attribute o m apos) (e :: es) [] pos) X.env = (do
      let ov ← eval o X.env
      standAt apos.atName
      let (f, first) ← holding [ov] (getMethod ov m pl)
      callWith pos f first (backTo pos (starEach (e :: es) X.env)) (backToKw pos (keywordEach [] X.env))) := by rfl) :
    PE X (.Call (.Attribute o m apos) (e :: es) [] pos) (tMeth C m sp [] E0 ta t) := by
  obtain ⟨f, fd, ps, hc, hm, F, b⟩ := c.ex
  exact pe_meth (pl := pl) he hc hm F (hr.mono hk) b .nil pass0 ha hst hpl ht
theorem pe_either {e : Expr} {t1 t2 : TE} (h1 : PE X e t1) (h2 : PE X e t2) : PE X e (fun σ H Q => t1 σ H Q ∨ t2 σ H Q) := ⟨fun pins s σ H Q I h => by
  rcases h with h | h
  · exact h1.run pins s σ H Q I h
  · exact h2.run pins s σ H Q I h⟩
/-- C(), C without an __init__ of its own -/
def tMake0 (C : Addr) : TE := fun _ H Q => ∀ x dx, H x = none → H dx = none → dx ≠ x → Q (.ref x) (upd (upd H dx (.own x)) x (.ins C dx []))
end
end Od
namespace Od
open PySem PySem.Spec PyProof.Rows L2 SX Evl
theorem lk0 {f : Str} {v : V} {r : List (Str × V)} : List.lookup f ((f, v) :: r) = some v := by simp [List.lookup]
theorem lk1 {f g : Str} {v x : V} {r : List (Str × V)} (h : (f == g) = false) (q : List.lookup f r = some v) : List.lookup f ((g, x) :: r) = some v := by
  simp [List.lookup, h, q]
theorem lkn {f g : Str} {x : V} {r : List (Str × V)} (h : (f == g) = false) (q : List.lookup f r = none) : List.lookup f ((g, x) :: r) = none := by
  simp [List.lookup, h, q]
theorem put_new {f g : Str} {v x : V} {r : List (Str × V)} (h : ¬ g = f) : putF f v ((g, x) :: r) = (g, x) :: putF f v r := by
  show (if g = f then _ else _) = _
  rw [if_neg h]
theorem fs_left {f : V} {r : List (Str × V)} : putF "left" f [] = ([("left", f)] : List (Str × V)) := rfl
theorem fs_right {f g : V} : putF "right" g ([("left", f)] : List (Str × V)) = ([("left", f), ("right", g)] : List (Str × V)) := by
  rw [put_new (by decide +kernel)]
  rfl
theorem fs_many {f g h : V} : putF "many" h ([("left", f), ("right", g)] : List (Str × V)) = ([("left", f), ("right", g), ("many", h)] : List (Str × V)) := by
  rw [put_new (by decide +kernel), put_new (by decide +kernel)]
  rfl
end Od

namespace Od
open PySem PySem.Spec PyProof.Rows L2 SX Evl
section
variable {X : Cx} {C : Addr} {x : Str} {p pos : Pos}
theorem run_make00 {pins : List (Addr × Obj)} {σ : L2.St} {H : Hp} {s : Shared} {Q : VK} (M : Mk0 X.K C) (top : PySem.W.mroIn X.K C (.type "object") = some true) (I : Inv X pins σ H s)
    (h : ∀ x dx, H x = none → H dx = none → dx ≠ x → Q (.ref x) (upd (upd H dx (.own x)) x (.ins C dx []))) :
    wpAny (model X.prog X.w) X.A (call (.ref C) []) (EP X pins σ Q) X.xe s := by
  have hq := h (s.heap.objs.size + 1) s.heap.objs.size (I.hok.fresh (Nat.le_succ _)) (I.hok.fresh (Nat.le_refl _)) (Nat.ne_of_lt (Nat.lt_succ_self _))
  have I2 := Inv.made (C := C) I
  refine wpAny_call (make_map0 I.kIn M.makes M.init (fun self => PySem.W.Looks.of_pure (PySem.W.oi_bind _)) ?_)
  have hx : ((s.heap.push PySem.W.emptyDict).push (PySem.W.instObj C s.heap.objs.size)).get? (s.heap.objs.size + 1) = some (PySem.W.instObj C s.heap.objs.size) := by
    have z := Heap.get?_push_size (s.heap.push PySem.W.emptyDict) (o := PySem.W.instObj C s.heap.objs.size) rfl
    rw [Heap.size_push] at z
    exact z
  have t1 : PySem.W.Looks (model X.prog X.w) ((s.heap.push PySem.W.emptyDict).push (PySem.W.instObj C s.heap.objs.size)) (typeOf (.ref (s.heap.objs.size + 1))) (.ref C) := NwA.type_at hx rfl
  have t2 : PySem.W.Looks (model X.prog X.w) ((s.heap.push PySem.W.emptyDict).push (PySem.W.instObj C s.heap.objs.size)) (isInstance (.ref (s.heap.objs.size + 1)) (.type "object")) true := t1.andThen (PySem.W.looks_mroIn I2.kIn top)
  refine codeAny_call_builtin PySem.W.oi_plain PySem.W.entry_oi (@PySem.W.check_slot (model X.prog X.w) _ _ _ "object.__init__" "object" "__init__" (.ref (s.heap.objs.size + 1)) [] [] _ PySem.W.oi_kind PySem.W.oi_split t2 (NwA.oi_args_any (.ref (s.heap.objs.size + 1)) [] []) ?_)
  rw [PySem.W.oi_run]
  exact wpAny_pure (And.intro rfl ⟨V.ref (s.heap.objs.size + 1), _, I2, rfl, hq⟩)
theorem pe_make00 (M : Mk0 X.K C) (top : PySem.W.mroIn X.K C (.type "object") = some true) (hg : Gl X x) (hm : X.mg x = some (.ref C)) (hdb : (x == ("__debug__" : Str)) = false := by decide) : PE X (.Call (.Name x p) [] [] pos) (tMake0 C) := by
  refine ⟨fun pins s σ H Q I h => ?_⟩
  refine wpAny_Call_Name_kw (ld_glob I hg hm ?_ hdb)
  exact PySem.W.callWith_K0 I.kIn M.kp (run_make00 M top I h)
end
end Od

namespace Od
open PySem PySem.Spec PyProof.Rows L2 SX Evl
open PySem.Builtin PySem.Builtin.Str
/-! ## strip(signs) -/
def stripL (g m : List Nat) : List Nat := (m.drop (m.takeWhile fun c => decide (c ∈ g)).length).take (m.length - ((m.drop (m.takeWhile fun c => decide (c ∈ g)).length).reverse.takeWhile fun c => decide (c ∈ g)).length - (m.takeWhile fun c => decide (c ∈ g)).length)
theorem strip_S (m g : List Nat) : Txt.stripChars (S m) (S g) = S (stripL g m) := by
  unfold Txt.stripChars
  rw [PyProof.Rows.stripBy_eq]
  have e : ((S g).cps.contains : Nat → Bool) = fun c => decide (c ∈ g) := by
    funext c
    show g.toArray.contains c = _
    rw [List.contains_toArray]
    simp
  rw [e]
  refine TL.ext_tl ?_
  show (strSub _ _ _).cps.toList = _
  rw [StrLaws.strSub_toList]
  unfold stripLo stripHi stripL
  rw [if_pos rfl, if_pos rfl, S_len]
theorem tw_all {p : Nat → Bool} : ∀ l : List Nat, (∀ c ∈ l, p c = true) → l.takeWhile p = l
  | [], _ => rfl
  | c :: r, h => by
    rw [List.takeWhile_cons, if_pos (h c List.mem_cons_self), tw_all r fun d hd => h d (List.mem_cons_of_mem _ hd)]
theorem drop_tw {p : Nat → Bool} : ∀ l : List Nat, l.drop (l.takeWhile p).length = l.dropWhile p
  | [] => rfl
  | c :: r => by
    rw [List.takeWhile_cons, List.dropWhile_cons]
    by_cases h : p c = true
    · rw [if_pos h, if_pos h, List.length_cons, List.drop_succ_cons, drop_tw r]
    · rw [if_neg h, if_neg h] <;> rfl
theorem tw_len {p : Nat → Bool} : ∀ l : List Nat, (l.takeWhile p).length = l.length → ∀ c ∈ l, p c = true
  | [], _, _, hc => by cases hc
  | d :: r, h, c, hc => by
    rw [List.takeWhile_cons] at h
    by_cases q : p d = true
    · rw [if_pos q, List.length_cons, List.length_cons] at h
      rcases List.mem_cons.mp hc with e | e
      · rw [e]; exact q
      · exact tw_len r (by omega) c e
    · rw [if_neg q] at h
      simp at h
theorem dw_head {p : Nat → Bool} : ∀ (l : List Nat) {c : Nat} {r : List Nat}, l.dropWhile p = c :: r → p c = false
  | [], c, r, h => by cases h
  | d :: s, c, r, h => by
    rw [List.dropWhile_cons] at h
    by_cases q : p d = true
    · rw [if_pos q] at h
      exact dw_head s h
    · rw [if_neg q] at h
      have e : d = c := (List.cons.inj h).1
      rw [← e]
      exact Bool.not_eq_true _ ▸ q
theorem stripL_nil (g m : List Nat) : decide (stripL g m = []) = m.all fun c => decide (c ∈ g) := by
  cases h : (m.all fun c => decide (c ∈ g)) with
  | true =>
    have e := tw_all (p := fun c => decide (c ∈ g)) m (List.all_eq_true.mp h)
    have : stripL g m = [] := by
      unfold stripL
      rw [e, List.drop_length, List.take_nil]
    rw [this]
    rfl
  | false =>
    refine decide_eq_false fun q => ?_
    unfold stripL at q
    have hl := congrArg List.length q
    rw [List.length_take, List.length_drop, List.length_nil] at hl
    have d1 : (m.takeWhile fun c => decide (c ∈ g)).length ≤ m.length := by
      have := congrArg List.length (List.takeWhile_append_dropWhile (p := fun c => decide (c ∈ g)) (l := m))
      rw [List.length_append] at this
      omega
    have e2 := drop_tw (p := fun c => decide (c ∈ g)) m
    have d2 : ((m.drop (m.takeWhile fun c => decide (c ∈ g)).length).reverse.takeWhile fun c => decide (c ∈ g)).length ≤ (m.drop (m.takeWhile fun c => decide (c ∈ g)).length).reverse.length := by
      have := congrArg List.length (List.takeWhile_append_dropWhile (p := fun c => decide (c ∈ g)) (l := (m.drop (m.takeWhile fun c => decide (c ∈ g)).length).reverse))
      rw [List.length_append] at this
      omega
    have d3 : (m.drop (m.takeWhile fun c => decide (c ∈ g)).length).reverse.length = m.length - (m.takeWhile fun c => decide (c ∈ g)).length := by
      rw [List.length_reverse, List.length_drop]
    have d4 : ((m.drop (m.takeWhile fun c => decide (c ∈ g)).length).reverse.takeWhile fun c => decide (c ∈ g)).length = (m.drop (m.takeWhile fun c => decide (c ∈ g)).length).reverse.length := by omega
    have all := tw_len _ d4
    rw [e2] at all
    cases hd : m.dropWhile fun c => decide (c ∈ g) with
    | nil =>
      rw [hd] at e2
      have hz := congrArg List.length e2
      rw [List.length_drop, List.length_nil] at hz
      have full := tw_len m (p := fun c => decide (c ∈ g)) (by omega)
      rw [List.all_eq_true.mpr full] at h
      cases h
    | cons c r =>
      have n := dw_head m hd
      have y := all c (by rw [hd, List.mem_reverse]; exact List.mem_cons_self)
      rw [n] at y
      cases y
def rStripT : V → List V → Hp → VK → Prop := fun x xs H Q => ∃ (m g : List Nat), x = .str (S m) ∧ xs = [.str (S g)] ∧ m.length ≤ 100000 ∧ Q (.str (S (stripL g m))) H
theorem mt_stripT {X : Cx} : MtR X "str.strip" rStripT := fun pins s σ H x xs v us Q I rx rxs h => by
  obtain ⟨m, g, rfl, rfl, hm, q⟩ := h
  exact mt_stripChars pins s σ H _ _ v us Q I rx rxs ⟨S m, S g, rfl, rfl, by rw [S_len]; exact sz_of hm, by rw [strip_S]; exact q⟩
theorem ev_stripT {σ : L2.St} {H : Hp} {ta tb : TE} {m g : List Nat} (ha : Ev ta σ H (.str (S m))) (hb : Ev tb σ H (.str (S g))) (hm : m.length ≤ 100000) : Ev (tM1 rStripT ta tb) σ H (.str (S (stripL g m))) := fun H1 e Q q =>
  ha H1 e _ fun H2 e2 => ⟨⟨_, rfl⟩, hb H2 (e.trans e2) _ fun H3 e3 => ⟨m, g, rfl, rfl, hm, q H3 (e2.trans e3)⟩⟩
/-! ## answers -/
inductive Ans where
  | heavy (i : Int) | light (i : Int) | nothing | opn (l r : List Int) (n : Int)
def OpnAt (K : PySem.W.Frag) (H : Hp) (v : V) (pl pr : Addr) (l r : List Int) (n : Int) : Prop :=
  ∃ p dx, v = .ref p ∧ H p = some (.ins (He.ga K "Open") dx [("left", .ref pl), ("right", .ref pr), ("many", .int n)]) ∧ H pl = some (.lst (l.map V.int)) ∧ H pr = some (.lst (r.map V.int))
def AnsAt (K : PySem.W.Frag) (H : Hp) (v : V) : Ans → Prop
  | .heavy i => ∃ p dx, v = .ref p ∧ H p = some (.ins (He.ga K "Heavy") dx [("coin", .int i)])
  | .light i => ∃ p dx, v = .ref p ∧ H p = some (.ins (He.ga K "Light") dx [("coin", .int i)])
  | .nothing => ∃ p dx, v = .ref p ∧ H p = some (.ins (He.ga K "Nothing") dx [])
  | .opn l r n => ∃ pl pr, OpnAt K H v pl pr l r n
theorem OpnAt.mono {K : PySem.W.Frag} {H H1 : Hp} {v : V} {pl pr : Addr} {l r : List Int} {n : Int} (e : Ex H H1) (h : OpnAt K H v pl pr l r n) : OpnAt K H1 v pl pr l r n := by
  obtain ⟨p, dx, h0, h1, h2, h3⟩ := h
  exact ⟨p, dx, h0, e _ _ h1, e _ _ h2, e _ _ h3⟩
theorem AnsAt.mono {K : PySem.W.Frag} {H H1 : Hp} {v : V} {a : Ans} (e : Ex H H1) (h : AnsAt K H v a) : AnsAt K H1 v a := by
  cases a with
  | heavy i => obtain ⟨p, dx, h0, h1⟩ := h; exact ⟨p, dx, h0, e _ _ h1⟩
  | light i => obtain ⟨p, dx, h0, h1⟩ := h; exact ⟨p, dx, h0, e _ _ h1⟩
  | nothing => obtain ⟨p, dx, h0, h1⟩ := h; exact ⟨p, dx, h0, e _ _ h1⟩
  | opn l r n => obtain ⟨pl, pr, h1⟩ := h; exact ⟨pl, pr, h1.mono e⟩
def oneB (m : List Nat) (i : Int) (c : Nat) : Bool := (decide (0 ≤ i) && decide (i < (m.length : Nat))) && (decide (m.getD i.toNat 0 = c) && decide (casesN m = 1))
def outs : List (List Nat) := [tLeft, tRight, tEven]
def openB (m : List Nat) (l r : List Int) (n : Int) : Bool :=
  !(decide (casesN m < 2) || (!decide (n = (wf (casesN m) : Nat)) || !weighB (m.length : Nat) l r)) && outs.all fun o => decide (manyN m l r o = 0) || decide ((wf (manyN m l r o) : Int) < n)
def showsB (m : List Nat) : Ans → Bool
  | .heavy i => oneB m i 104
  | .light i => oneB m i 108
  | .nothing => m.all fun c => decide (c ∈ [103])
  | .opn l r n => openB m l r n
end Od

namespace Od
/-! ## what is told, and that it is right: plain -/
def idx (c : Nat) (m : List Nat) : List Int := ((List.range m.length).filter fun i => decide (m.getD i 0 = c)).map fun i : Nat => (i : Int)
def eitherL (co : List Int) (b : Int) (out : Nat) : List Int × List Int :=
  let many := (2 * co.length + 2 - out) / 2
  let half := (many + 1) / 2
  (co.take half, if ((co.drop half).take (many - half)).length < (co.take half).length then (co.drop half).take (many - half) ++ [b] else (co.drop half).take (many - half))
def tiltedL (h l : List Int) (b : Int) (out : Nat) : List Int × List Int :=
  let due := (h.length + l.length + 1 - out) / 2
  let first := min due (h.length / 2)
  let second := min (due - first) (l.length / 2)
  if first + second < due then (h.take 1, [b]) else (srt (h.take first ++ l.take second), srt ((h.drop first).take first ++ (l.drop second).take second))
def pairL (m : List Nat) : List Int × List Int :=
  if idx 104 m ++ idx 108 m = [] then eitherL (idx 101 m) (m.length : Nat) (3 ^ (wf (casesN m) - 1)) else tiltedL (idx 104 m) (idx 108 m) (m.length : Nat) (3 ^ (wf (casesN m) - 1))
def toldA (m : List Nat) : Ans :=
  if 1 < casesN m then .opn (pairL m).1 (pairL m).2 (wf (casesN m) : Nat)
  else match idx 104 m with
    | i :: _ => .heavy i
    | [] => match idx 108 m with
      | i :: _ => .light i
      | [] => .nothing
/-! ### counting over a range -/
def cnt (n : Nat) (p : Nat → Bool) : Nat := (List.range n).countP p
theorem cnt_mono {n : Nat} {p q : Nat → Bool} (h : ∀ i, i < n → p i = true → q i = true) : cnt n p ≤ cnt n q :=
  List.countP_mono_left fun i hi => h i (List.mem_range.mp hi)
theorem cnt_congr {n : Nat} {p q : Nat → Bool} (h : ∀ i, i < n → p i = q i) : cnt n p = cnt n q := by
  unfold cnt
  refine List.countP_congr fun i hi => ?_
  rw [h i (List.mem_range.mp hi)]
theorem cnt_succ (n : Nat) (p : Nat → Bool) : cnt (n + 1) p = cnt n p + if p n = true then 1 else 0 := by
  unfold cnt
  rw [List.range_succ, List.countP_append]
  by_cases h : p n = true
  · simp [h]
  · simp [h]
theorem cnt_false {n : Nat} {p : Nat → Bool} (h : ∀ i, i < n → p i = false) : cnt n p = 0 := by
  have := cnt_congr (q := fun _ => false) h
  rw [this]
  simp [cnt]
theorem cnt_or (n : Nat) (p q : Nat → Bool) : cnt n (fun i => p i || q i) ≤ cnt n p + cnt n q := by
  induction n with
  | zero => simp [cnt]
  | succ n ih =>
    rw [cnt_succ, cnt_succ, cnt_succ]
    cases p n <;> cases q n <;> simp <;> omega
theorem cnt_one (n a : Nat) (p : Nat → Bool) (h : p a = true) (ha : a < n) : cnt n (fun i => p i && !decide (i = a)) + 1 = cnt n p := by
  induction n with
  | zero => omega
  | succ n ih =>
    rw [cnt_succ, cnt_succ]
    by_cases e : a = n
    · subst e
      have z : cnt a (fun i => p i && !decide (i = a)) = cnt a p := cnt_congr fun i hi => by
        have : decide (i = a) = false := decide_eq_false (by omega)
        simp [this]
      rw [z]
      simp [h]
    · have ih := ih (by omega)
      have z : decide (n = a) = false := decide_eq_false (by omega)
      simp only [z, Bool.not_false, Bool.and_true]
      omega
theorem cnt_eq1 (n a : Nat) : cnt n (fun i => decide (i = a)) ≤ 1 := by
  induction n with
  | zero => simp [cnt]
  | succ n ih =>
    rw [cnt_succ]
    by_cases e : n = a
    · subst e
      have z : cnt n (fun i => decide (i = n)) = 0 := cnt_false fun i hi => decide_eq_false (by omega)
      rw [z]
      simp
    · rw [if_neg (by simpa using e)]
      omega
def inL (l : List Int) (i : Nat) : Bool := decide ((i : Int) ∈ l)
theorem cnt_len (n : Nat) : ∀ l : List Int, cnt n (inL l) ≤ l.length
  | [] => by rw [cnt_false fun i _ => by simp [inL]]; exact Nat.zero_le _
  | a :: l => by
    have h := cnt_len n l
    have e : cnt n (inL (a :: l)) ≤ cnt n (fun i => decide (i = a.toNat)) + cnt n (inL l) := by
      refine Nat.le_trans (cnt_mono fun i _ q => ?_) (cnt_or n _ _)
      unfold inL at q ⊢
      rw [decide_eq_true_eq, List.mem_cons] at q
      rw [Bool.or_eq_true, decide_eq_true_eq, decide_eq_true_eq]
      rcases q with q | q
      · left; omega
      · right; exact q
    have e1 := cnt_eq1 n a.toNat
    rw [List.length_cons]
    omega
/-- of those that p tells, those that are drawn | not -/
theorem cnt_diff (n : Nat) (p : Nat → Bool) : ∀ D : List Int, D.Nodup → (∀ x ∈ D, 0 ≤ x ∧ x < n ∧ p x.toNat = true) → cnt n (fun i => p i && !inL D i) + D.length = cnt n p
  | [], _, _ => by
    have e : cnt n (fun i => p i && !inL [] i) = cnt n p := cnt_congr fun i _ => by simp [inL]
    rw [e]; rfl
  | a :: D, hn, h => by
    obtain ⟨h1, h2⟩ := List.nodup_cons.mp hn
    have ih := cnt_diff n p D h2 fun x hx => h x (List.mem_cons_of_mem _ hx)
    obtain ⟨a0, a1, a2⟩ := h a List.mem_cons_self
    have one := cnt_one n a.toNat (fun i => p i && !inL D i) (by
      rw [a2, Bool.true_and]
      unfold inL
      rw [Bool.not_eq_true', decide_eq_false_iff_not]
      have : ((a.toNat : Nat) : Int) = a := by omega
      rw [this]
      exact h1) (by omega)
    have e : cnt n (fun i => p i && !inL (a :: D) i) = cnt n (fun i => (p i && !inL D i) && !decide (i = a.toNat)) := cnt_congr fun i _ => by
      have : inL (a :: D) i = (decide (i = a.toNat) || inL D i) := by
        unfold inL
        rw [← Bool.decide_or]
        refine decide_eq_decide.mpr ?_
        rw [List.mem_cons]
        constructor
        · rintro (q | q)
          · left; omega
          · right; exact q
        · rintro (q | q)
          · left; omega
          · right; exact q
      rw [this]
      cases p i <;> cases inL D i <;> cases decide (i = a.toNat) <;> rfl
    rw [e, List.length_cons]
    omega
/-! ### counts of signs -/
theorem beq_dec (a b : Nat) : (a == b) = decide (a = b) := by
  by_cases h : a = b
  · rw [decide_eq_true h, beq_iff_eq]; exact h
  · rw [decide_eq_false h]; simpa using h
theorem sign_cnt (m : List Nat) (c : Nat) : m.count c = cnt m.length (fun i => decide (m.getD i 0 = c)) := by
  have e : m = (List.range m.length).map fun i => m.getD i 0 := by
    refine List.ext_getElem (by simp) fun i h1 h2 => ?_
    simp [List.getD_eq_getElem?_getD, List.getElem?_eq_getElem h1]
  have : m.count c = ((List.range m.length).map fun i => m.getD i 0).count c := by rw [← e]
  rw [this, List.count_eq_countP, List.countP_map]
  refine cnt_congr (n := m.length) fun i _ => ?_
  show (m.getD i 0 == c) = decide (m.getD i 0 = c)
  exact beq_dec _ _
theorem idx_len (m : List Nat) (c : Nat) : (idx c m).length = m.count c := by
  rw [sign_cnt]
  unfold idx cnt
  rw [List.length_map, List.countP_eq_length_filter]
theorem idx_mem {m : List Nat} {c : Nat} {x : Int} (h : x ∈ idx c m) : 0 ≤ x ∧ x < m.length ∧ m.getD x.toNat 0 = c := by
  unfold idx at h
  obtain ⟨i, hi, rfl⟩ := List.mem_map.mp h
  obtain ⟨h1, h2⟩ := List.mem_filter.mp hi
  have := List.mem_range.mp h1
  exact ⟨by omega, by omega, by rw [Int.toNat_natCast]; exact of_decide_eq_true h2⟩
theorem mem_idx {m : List Nat} {c i : Nat} (h : i < m.length) (e : m.getD i 0 = c) : (i : Int) ∈ idx c m :=
  List.mem_map.mpr ⟨i, List.mem_filter.mpr ⟨List.mem_range.mpr h, decide_eq_true e⟩, rfl⟩
theorem idx_lt (m : List Nat) (c : Nat) : (idx c m).Pairwise (· < ·) := by
  unfold idx
  refine List.pairwise_map.mpr ?_
  have h : (List.range m.length).Pairwise (· < ·) := List.pairwise_lt_range
  exact (h.filter _).imp fun q => by omega
theorem lt_nodup {l : List Int} (h : l.Pairwise (· < ·)) : l.Nodup := h.imp fun q => by omega
theorem mem_take_of {α : Type} {l : List α} {k : Nat} {x : α} (h : x ∈ l.take k) : x ∈ l := List.mem_of_mem_take h
theorem mem_drop_of {α : Type} {l : List α} {k : Nat} {x : α} (h : x ∈ l.drop k) : x ∈ l := List.mem_of_mem_drop h
/-! ### sides that are rising -/
theorem rise_lt : ∀ (ns : List Int) (c last : Int), ns.Pairwise (· < ·) → (∀ x ∈ ns, last < x ∧ x ≤ c) → riseB c last ns = true
  | [], _, _, _, _ => rfl
  | x :: r, c, last, hp, h => by
    obtain ⟨h1, h2⟩ := List.pairwise_cons.mp hp
    have hx := h x List.mem_cons_self
    unfold riseB
    rw [decide_eq_true hx.1, decide_eq_true hx.2, rise_lt r c x h2 fun y hy => ⟨h1 y hy, (h y (List.mem_cons_of_mem _ hy)).2⟩] <;> rfl
theorem side_lt {ns : List Int} {c : Int} (hp : ns.Pairwise (· < ·)) (h : ∀ x ∈ ns, 0 ≤ x ∧ x ≤ c) : sideN ns c = true :=
  rise_lt ns c (-1) hp fun x hx => ⟨by have := (h x hx).1; omega, (h x hx).2⟩
theorem lt_side : ∀ (ns : List Int) (c last : Int), riseB c last ns = true → ns.Pairwise (· < ·) ∧ ∀ x ∈ ns, last < x ∧ x ≤ c
  | [], _, _, _ => ⟨List.Pairwise.nil, fun x hx => by cases hx⟩
  | x :: r, c, last, h => by
    unfold riseB at h
    rw [Bool.and_eq_true, Bool.and_eq_true, decide_eq_true_eq, decide_eq_true_eq] at h
    obtain ⟨h1, h2⟩ := lt_side r c x h.2
    refine ⟨List.pairwise_cons.mpr ⟨fun y hy => (h2 y hy).1, h1⟩, fun y hy => ?_⟩
    rcases List.mem_cons.mp hy with e | e
    · rw [e]; exact h.1
    · have := h2 y e
      omega
theorem weigh_mk {c : Int} {l r : List Int} (h1 : sideN l c = true) (h2 : sideN r c = true) (h3 : l.length = r.length) (h4 : ∀ x ∈ l, x ∉ r) : weighB c l r = true := by
  unfold weighB
  have h5 : (l.any fun x => decide (x ∈ r)) = false := by
    rw [List.any_eq_false]
    intro x hx q
    exact h4 x hx (of_decide_eq_true q)
  rw [h1, h2, decide_eq_true h3, h5] <;> rfl
theorem weigh_un {c : Int} {l r : List Int} (h : weighB c l r = true) : sideN l c = true ∧ sideN r c = true ∧ l.length = r.length ∧ ∀ x ∈ l, x ∉ r := by
  unfold weighB at h
  rw [Bool.and_eq_true, Bool.and_eq_true, Bool.and_eq_true, decide_eq_true_eq, Bool.not_eq_true'] at h
  obtain ⟨⟨⟨h1, h2⟩, h3⟩, h4⟩ := h
  refine ⟨h1, h2, h3, fun x hx hr => ?_⟩
  rw [List.any_eq_false] at h4
  exact h4 x hx (decide_eq_true hr)
theorem srt_lt {ns : List Int} (h : ns.Nodup) : (srt ns).Pairwise (· < ·) := by
  have h1 := srt_pair ns
  have h2 : (srt ns).Nodup := (srt_perm ns).nodup_iff.mpr h
  exact (List.pairwise_and_iff.mpr ⟨h1, h2⟩).imp fun ⟨a, b⟩ => by omega
theorem srt_mem {ns : List Int} {x : Int} : x ∈ srt ns ↔ x ∈ ns := (srt_perm ns).mem_iff
theorem srt_len (ns : List Int) : (srt ns).length = ns.length := (srt_perm ns).length_eq
/-! ### how many behind -/
def sg (m : List Nat) (c i : Nat) : Bool := decide (m.getD i 0 = c)
theorem beh_cnt (m : List Nat) (l r : List Int) (o : List Nat) (c : Nat) : (behindL m l r o).count c = cnt m.length (fun i => decide (leftover (m.getD i 0) (sideOf l r o (i : Nat)) o = c)) := by
  unfold behindL
  rw [List.count_eq_countP, List.countP_map]
  refine cnt_congr (n := m.length) fun i _ => ?_
  show (leftover (m.getD i 0) (sideOf l r o (i : Nat)) o == c) = _
  exact beq_dec _ _
/-- dn what goes down, up what goes up -/
theorem many_tilt {m : List Nat} {l r : List Int} {o : List Nat} {dn up : List Int} (ho : o ≠ tEven) (hd : (if o = tRight then r else l) = dn) (hu : (if o = tRight then l else r) = up) :
    manyN m l r o ≤ cnt m.length (fun i => inL dn i && (sg m 101 i || sg m 104 i)) + cnt m.length (fun i => inL up i && (sg m 101 i || sg m 108 i)) := by
  unfold manyN
  rw [decide_eq_false ho, Bool.false_and, if_neg Bool.false_ne_true, beh_cnt, beh_cnt, beh_cnt]
  have lo : ∀ i : Nat, leftover (m.getD i 0) (sideOf l r o (i : Nat)) o = if 0 < sideOf l r o (i : Nat) ∧ (m.getD i 0 = 101 ∨ m.getD i 0 = 104) then 104 else if sideOf l r o (i : Nat) < 0 ∧ (m.getD i 0 = 101 ∨ m.getD i 0 = 108) then 108 else 103 := fun i => by
    unfold leftover
    rw [if_neg ho]
  have sd : ∀ i : Nat, 0 < sideOf l r o (i : Nat) → inL dn i = true := fun i h => by
    unfold sideOf at h
    rw [hu, hd] at h
    unfold inL
    by_cases a : (i : Int) ∈ dn
    · exact decide_eq_true a
    · rw [if_neg a] at h
      split at h <;> omega
  have su : ∀ i : Nat, sideOf l r o (i : Nat) < 0 → inL up i = true := fun i h => by
    unfold sideOf at h
    rw [hu, hd] at h
    unfold inL
    by_cases a : (i : Int) ∈ up
    · exact decide_eq_true a
    · rw [if_neg a] at h
      split at h <;> omega
  have z0 : cnt m.length (fun i => decide (leftover (m.getD i 0) (sideOf l r o (i : Nat)) o = 101)) = 0 := cnt_false fun i _ => by
    rw [lo]
    refine decide_eq_false ?_
    split
    · decide
    · split <;> decide
  have z1 : cnt m.length (fun i => decide (leftover (m.getD i 0) (sideOf l r o (i : Nat)) o = 104)) ≤ cnt m.length (fun i => inL dn i && (sg m 101 i || sg m 104 i)) := cnt_mono fun i _ q => by
    have q := of_decide_eq_true q
    rw [lo] at q
    by_cases a : 0 < sideOf l r o (i : Nat) ∧ (m.getD i 0 = 101 ∨ m.getD i 0 = 104)
    · rw [sd i a.1, Bool.true_and]
      unfold sg
      rcases a.2 with e | e
      · rw [decide_eq_true e] <;> rfl
      · rw [decide_eq_true e, Bool.or_true]
    · rw [if_neg a] at q
      split at q <;> cases q
  have z2 : cnt m.length (fun i => decide (leftover (m.getD i 0) (sideOf l r o (i : Nat)) o = 108)) ≤ cnt m.length (fun i => inL up i && (sg m 101 i || sg m 108 i)) := cnt_mono fun i _ q => by
    have q := of_decide_eq_true q
    rw [lo] at q
    by_cases a : 0 < sideOf l r o (i : Nat) ∧ (m.getD i 0 = 101 ∨ m.getD i 0 = 104)
    · rw [if_pos a] at q
      cases q
    · rw [if_neg a] at q
      by_cases b : sideOf l r o (i : Nat) < 0 ∧ (m.getD i 0 = 101 ∨ m.getD i 0 = 108)
      · rw [su i b.1, Bool.true_and]
        unfold sg
        rcases b.2 with e | e
        · rw [decide_eq_true e] <;> rfl
        · rw [decide_eq_true e, Bool.or_true]
      · rw [if_neg b] at q
        cases q
  omega
theorem side_none {l r : List Int} {o : List Nat} {i : Nat} (ho : o ≠ tRight) : (sideOf l r o (i : Nat) = 0) ↔ (inL l i || inL r i) = false := by
  unfold sideOf inL
  rw [if_neg ho, if_neg ho]
  by_cases a : (i : Int) ∈ r
  · rw [if_pos a, decide_eq_true a, Bool.or_true]
    simp
  · rw [if_neg a, decide_eq_false a, Bool.or_false]
    by_cases b : (i : Int) ∈ l
    · rw [if_pos b, decide_eq_true b]
      simp
    · rw [if_neg b, decide_eq_false b]
      simp
theorem even_at {m : List Nat} {l r : List Int} {i : Nat} : leftover (m.getD i 0) (sideOf l r tEven (i : Nat)) tEven = if (inL l i || inL r i) = true then 103 else m.getD i 0 := by
  unfold leftover
  rw [if_pos rfl]
  by_cases h : sideOf l r tEven (i : Nat) = 0
  · rw [if_pos h, (side_none (by decide)).mp h] <;> rfl
  · have : ¬ (inL l i || inL r i) = false := fun q => h ((side_none (by decide)).mpr q)
    rw [if_neg h, if_pos (by rwa [Bool.not_eq_false] at this)]
theorem even_cnt {m : List Nat} {l r : List Int} {c : Nat} (hc : c ≠ 103) : (behindL m l r tEven).count c = cnt m.length (fun i => sg m c i && !(inL l i || inL r i)) := by
  rw [beh_cnt]
  refine cnt_congr fun i _ => ?_
  rw [even_at]
  unfold sg
  by_cases a : (inL l i || inL r i) = true
  · rw [if_pos a, a, decide_eq_false (fun q => hc q.symm)]
    simp
  · rw [if_neg a]
    have : (inL l i || inL r i) = false := by simpa using a
    rw [this]
    simp
theorem many_even {m : List Nat} {l r : List Int} : manyN m l r tEven = 2 * cnt m.length (fun i => sg m 101 i && !(inL l i || inL r i)) + cnt m.length (fun i => sg m 104 i && !(inL l i || inL r i)) + cnt m.length (fun i => sg m 108 i && !(inL l i || inL r i)) + if tiltB m then 0 else 1 := by
  unfold manyN
  rw [even_cnt (by decide), even_cnt (by decide), even_cnt (by decide), decide_eq_true rfl, Bool.true_and]
  cases tiltB m <;> rfl
end Od

namespace Od
theorem inL_app (l r : List Int) (i : Nat) : inL (l ++ r) i = (inL l i || inL r i) := by
  unfold inL
  rw [← Bool.decide_or]
  exact decide_eq_decide.mpr List.mem_append
theorem inL_of {l r : List Int} {i : Nat} (h : ∀ x : Int, x ∈ l ↔ x ∈ r) : inL l i = inL r i := decide_eq_decide.mpr (h _)
theorem inL_end {l : List Int} {n i : Nat} (h : i < n) : inL (l ++ [(n : Int)]) i = inL l i := by
  rw [inL_app]
  have e : inL [(n : Int)] i = false := decide_eq_false fun q => by
    have := List.mem_singleton.mp q
    omega
  rw [e, Bool.or_false]
theorem cnt_and {n : Nat} {l : List Int} {p : Nat → Bool} : cnt n (fun i => inL l i && p i) ≤ l.length :=
  Nat.le_trans (cnt_mono fun i _ q => (Bool.and_eq_true _ _ ▸ q : _ ∧ _).1) (cnt_len n l)
theorem pow_odd : ∀ k : Nat, 3 ^ k % 2 = 1
  | 0 => rfl
  | k + 1 => by
    rw [Nat.pow_succ]
    have := pow_odd k
    omega
theorem cut3 {α : Type} (l : List α) (a b : Nat) : l.take a ++ (l.drop a).take b = l.take (a + b) := (List.take_add).symm
theorem either_right {m : List Nat} {out : Nat} (h4 : m.count 104 = 0) (h8 : m.count 108 = 0) (ht : tiltB m = false) (hodd : out % 2 = 1) (h1 : out < 2 * m.count 101 + 1) (h2 : 2 * m.count 101 + 1 ≤ 3 * out) :
    let q := eitherL (idx 101 m) (m.length : Nat) out
    weighB (m.length : Nat) q.1 q.2 = true ∧ (∀ o ∈ outs, manyN m q.1 q.2 o ≤ out) ∧ q.1.length ≤ m.length := by
  have hE := idx_len m 101
  have hlt := idx_lt m 101
  have hmem : ∀ x ∈ idx 101 m, 0 ≤ x ∧ x < m.length ∧ m.getD x.toNat 0 = 101 := fun x hx => idx_mem hx
  have hcl : m.count 101 ≤ m.length := List.count_le_length
  unfold eitherL
  dsimp only
  rw [hE]
  generalize hmany : (2 * m.count 101 + 2 - out) / 2 = many
  generalize hhalf : (many + 1) / 2 = half
  generalize idx 101 m = E at *
  have e1 : 2 * many = 2 * m.count 101 + 1 - out := by omega
  have e2 : many ≤ m.count 101 := by omega
  have ll : (E.take half).length = half := by rw [List.length_take]; omega
  have lr : ((E.drop half).take (many - half)).length = many - half := by rw [List.length_take, List.length_drop]; omega
  have hD : E.take half ++ (E.drop half).take (many - half) = E.take many := by
    rw [cut3]
    congr 1
    omega
  have hDlt : (E.take many).Pairwise (· < ·) := hlt.sublist (List.take_sublist _ _)
  have hl1 : (E.take half).Pairwise (· < ·) := hlt.sublist (List.take_sublist _ _)
  have hr1 : ((E.drop half).take (many - half)).Pairwise (· < ·) := hlt.sublist ((List.take_sublist _ _).trans (List.drop_sublist _ _))
  have hdis : ∀ x ∈ E.take half, ∀ y ∈ (E.drop half).take (many - half), x < y := by
    rw [← hD] at hDlt
    exact (List.pairwise_append.mp hDlt).2.2
  have hlm : ∀ x ∈ E.take half, 0 ≤ x ∧ x < m.length := fun x hx => ⟨(hmem x (mem_take_of hx)).1, (hmem x (mem_take_of hx)).2.1⟩
  have hrm : ∀ x ∈ (E.drop half).take (many - half), 0 ≤ x ∧ x < m.length := fun x hx => ⟨(hmem x (mem_drop_of (mem_take_of hx))).1, (hmem x (mem_drop_of (mem_take_of hx))).2.1⟩
  -- the right side, the coin beside in it or not
  have main : ∀ r : List Int, (∀ i, i < m.length → inL r i = inL ((E.drop half).take (many - half)) i) → ∀ o ∈ outs, manyN m (E.take half) r o ≤ out := by
    intro r hr o ho
    have c1 : ∀ p : Nat → Bool, cnt m.length (fun i => inL (E.take half) i && p i) ≤ half := fun p => by
      have := cnt_and (n := m.length) (l := E.take half) (p := p)
      omega
    have c2 : ∀ p : Nat → Bool, cnt m.length (fun i => inL r i && p i) ≤ many - half := fun p => by
      have e : cnt m.length (fun i => inL r i && p i) = cnt m.length (fun i => inL ((E.drop half).take (many - half)) i && p i) := cnt_congr fun i hi => by rw [hr i hi]
      have := cnt_and (n := m.length) (l := (E.drop half).take (many - half)) (p := p)
      omega
    have ho2 : o = tLeft ∨ o = tRight ∨ o = tEven := by simpa [outs] using ho
    rcases ho2 with e | e | e
    · subst e
      have := many_tilt (m := m) (l := E.take half) (r := r) (o := tLeft) (dn := E.take half) (up := r) (by decide) (if_neg (by decide)) (if_neg (by decide))
      have a1 := c1 (fun i => sg m 101 i || sg m 104 i)
      have a2 := c2 (fun i => sg m 101 i || sg m 108 i)
      omega
    · subst e
      have := many_tilt (m := m) (l := E.take half) (r := r) (o := tRight) (dn := r) (up := E.take half) (by decide) (if_pos rfl) (if_pos rfl)
      have a1 := c2 (fun i => sg m 101 i || sg m 104 i)
      have a2 := c1 (fun i => sg m 101 i || sg m 108 i)
      omega
    · subst e
      rw [many_even, ht]
      have z4 : cnt m.length (fun i => sg m 104 i && !(inL (E.take half) i || inL r i)) = 0 := by
        have := cnt_mono (n := m.length) (p := fun i => sg m 104 i && !(inL (E.take half) i || inL r i)) (q := sg m 104) fun i _ q => (Bool.and_eq_true _ _ ▸ q : _ ∧ _).1
        rw [show cnt m.length (sg m 104) = m.count 104 from (sign_cnt m 104).symm] at this
        omega
      have z8 : cnt m.length (fun i => sg m 108 i && !(inL (E.take half) i || inL r i)) = 0 := by
        have := cnt_mono (n := m.length) (p := fun i => sg m 108 i && !(inL (E.take half) i || inL r i)) (q := sg m 108) fun i _ q => (Bool.and_eq_true _ _ ▸ q : _ ∧ _).1
        rw [show cnt m.length (sg m 108) = m.count 108 from (sign_cnt m 108).symm] at this
        omega
      have z1 := cnt_diff m.length (sg m 101) (E.take many) (lt_nodup hDlt) fun x hx => ⟨(hmem x (mem_take_of hx)).1, (hmem x (mem_take_of hx)).2.1, decide_eq_true (hmem x (mem_take_of hx)).2.2⟩
      rw [show cnt m.length (sg m 101) = m.count 101 from (sign_cnt m 101).symm] at z1
      have z2 : cnt m.length (fun i => sg m 101 i && !(inL (E.take half) i || inL r i)) = cnt m.length (fun i => sg m 101 i && !inL (E.take many) i) := cnt_congr fun i hi => by
        rw [hr i hi, ← inL_app, hD]
      have z3 : (E.take many).length = many := by rw [List.length_take]; omega
      rw [z4, z8, z2]
      simp only [Bool.false_eq_true, if_false]
      omega
  by_cases hc : ((E.drop half).take (many - half)).length < (E.take half).length
  · rw [if_pos hc]
    refine ⟨weigh_mk (side_lt hl1 fun x hx => ⟨(hlm x hx).1, Int.le_of_lt (hlm x hx).2⟩) (side_lt ?_ fun x hx => ?_) ?_ fun x hx hx2 => ?_, main _ fun i hi => inL_end hi, by omega⟩
    · exact List.pairwise_append.mpr ⟨hr1, List.pairwise_singleton _ _, fun a ha b hb => by
        rw [List.mem_singleton.mp hb]
        exact (hrm a ha).2⟩
    · rcases List.mem_append.mp hx with q | q
      · exact ⟨(hrm x q).1, Int.le_of_lt (hrm x q).2⟩
      · rw [List.mem_singleton.mp q]; omega
    · rw [List.length_append, List.length_singleton]
      omega
    · rcases List.mem_append.mp hx2 with q | q
      · have := hdis x hx x q; omega
      · have := List.mem_singleton.mp q
        have := (hlm x hx).2
        omega
  · rw [if_neg hc]
    exact ⟨weigh_mk (side_lt hl1 fun x hx => ⟨(hlm x hx).1, Int.le_of_lt (hlm x hx).2⟩) (side_lt hr1 fun x hx => ⟨(hrm x hx).1, Int.le_of_lt (hrm x hx).2⟩) (by omega) fun x hx hx2 => by have := hdis x hx x hx2; omega, main _ fun i _ => rfl, by omega⟩
end Od

namespace Od
theorem cnt_sub {n : Nat} {p : Nat → Bool} {l : List Int} (h : ∀ i, i < n → p i = true → inL l i = true) : cnt n p ≤ l.length := Nat.le_trans (cnt_mono h) (cnt_len n l)
theorem inL_iff {l : List Int} {i : Nat} : inL l i = true ↔ (i : Int) ∈ l := ⟨fun h => of_decide_eq_true h, fun h => decide_eq_true h⟩
theorem sg_or {m : List Nat} {a b i : Nat} (h : (sg m a i || sg m b i) = true) : m.getD i 0 = a ∨ m.getD i 0 = b := by
  rw [Bool.or_eq_true] at h
  rcases h with h | h
  · exact .inl (of_decide_eq_true h)
  · exact .inr (of_decide_eq_true h)
theorem tilted_right {m : List Nat} {out : Nat} (h1 : m.count 101 = 0) (ht : tiltB m = true) (hodd : out % 2 = 1) (g1 : out < m.count 104 + m.count 108) (g2 : m.count 104 + m.count 108 ≤ 3 * out) :
    let q := tiltedL (idx 104 m) (idx 108 m) (m.length : Nat) out
    weighB (m.length : Nat) q.1 q.2 = true ∧ (∀ o ∈ outs, manyN m q.1 q.2 o ≤ out) ∧ q.1.length ≤ m.length := by
  have eH := idx_len m 104
  have eL := idx_len m 108
  have ltH := idx_lt m 104
  have ltL := idx_lt m 108
  have mH : ∀ x ∈ idx 104 m, 0 ≤ x ∧ x < m.length ∧ m.getD x.toNat 0 = 104 := fun x hx => idx_mem hx
  have mL : ∀ x ∈ idx 108 m, 0 ≤ x ∧ x < m.length ∧ m.getD x.toNat 0 = 108 := fun x hx => idx_mem hx
  have cl4 : m.count 104 ≤ m.length := List.count_le_length
  have cl8 : m.count 108 ≤ m.length := List.count_le_length
  have n1 : ∀ i, i < m.length → m.getD i 0 ≠ 101 := fun i hi q => by
    have z := cnt_one m.length i (sg m 101) (decide_eq_true q) hi
    rw [show cnt m.length (sg m 101) = m.count 101 from (sign_cnt m 101).symm] at z
    omega
  have k4 : ∀ i : Nat, (i : Int) ∈ idx 104 m → m.getD i 0 = 104 := fun i h => by
    have := (mH _ h).2.2
    rwa [Int.toNat_natCast] at this
  have k8 : ∀ i : Nat, (i : Int) ∈ idx 108 m → m.getD i 0 = 108 := fun i h => by
    have := (mL _ h).2.2
    rwa [Int.toNat_natCast] at this
  have z101 : ∀ p : Nat → Bool, cnt m.length (fun i => sg m 101 i && p i) = 0 := fun p => cnt_false fun i hi => by
    have : sg m 101 i = false := decide_eq_false (n1 i hi)
    rw [this, Bool.false_and]
  unfold tiltedL
  dsimp only
  rw [eH, eL]
  generalize hdue : (m.count 104 + m.count 108 + 1 - out) / 2 = due
  generalize hf : min due (m.count 104 / 2) = first
  generalize hs : min (due - first) (m.count 108 / 2) = second
  generalize idx 104 m = Hh at *
  generalize idx 108 m = Ll at *
  by_cases hc : first + second < due
  · rw [if_pos hc]
    have o1 : out = 1 := by omega
    have c4 : m.count 104 = 1 := by omega
    have c8 : m.count 108 = 1 := by omega
    have ln : (Hh.take 1).length = 1 := by rw [List.length_take]; omega
    have hm1 : ∀ x ∈ Hh.take 1, 0 ≤ x ∧ x < m.length := fun x hx => ⟨(mH x (mem_take_of hx)).1, (mH x (mem_take_of hx)).2.1⟩
    have zn : ∀ p : Nat → Bool, cnt m.length (fun i => inL [(m.length : Int)] i && p i) = 0 := fun p => cnt_false fun i hi => by
      have : inL [(m.length : Int)] i = false := decide_eq_false fun q => by
        have := List.mem_singleton.mp q
        omega
      rw [this, Bool.false_and]
    have zl : ∀ p : Nat → Bool, cnt m.length (fun i => inL (Hh.take 1) i && p i) ≤ 1 := fun p => by
      have := cnt_and (n := m.length) (l := Hh.take 1) (p := p)
      omega
    refine ⟨weigh_mk (side_lt (ltH.sublist (List.take_sublist _ _)) fun x hx => ⟨(hm1 x hx).1, Int.le_of_lt (hm1 x hx).2⟩) (side_lt (List.pairwise_singleton _ _) fun x hx => ?_) (by rw [ln]; rfl) fun x hx hx2 => ?_, fun o ho => ?_, by show (Hh.take 1).length ≤ _; omega⟩
    · rw [List.mem_singleton.mp hx]; omega
    · have a := List.mem_singleton.mp hx2
      have b := (hm1 x hx).2
      omega
    · show manyN m (Hh.take 1) [(m.length : Int)] o ≤ out
      have ho2 : o = tLeft ∨ o = tRight ∨ o = tEven := by simpa [outs] using ho
      rcases ho2 with e | e | e
      · subst e
        have := many_tilt (m := m) (l := Hh.take 1) (r := [(m.length : Int)]) (o := tLeft) (dn := Hh.take 1) (up := [(m.length : Int)]) (by decide) (if_neg (by decide)) (if_neg (by decide))
        have a1 := zl (fun i => sg m 101 i || sg m 104 i)
        have a2 := zn (fun i => sg m 101 i || sg m 108 i)
        omega
      · subst e
        have := many_tilt (m := m) (l := Hh.take 1) (r := [(m.length : Int)]) (o := tRight) (dn := [(m.length : Int)]) (up := Hh.take 1) (by decide) (if_pos rfl) (if_pos rfl)
        have a1 := zl (fun i => sg m 101 i || sg m 108 i)
        have a2 := zn (fun i => sg m 101 i || sg m 104 i)
        omega
      · subst e
        rw [many_even, z101, ht]
        have a1 : cnt m.length (fun i => sg m 104 i && !(inL (Hh.take 1) i || inL [(m.length : Int)] i)) ≤ cnt m.length (fun i => sg m 104 i && !inL (Hh.take 1) i) := cnt_mono fun i _ q => by
          cases a : inL (Hh.take 1) i <;> cases b : inL [(m.length : Int)] i <;> cases c : sg m 104 i <;> simp_all
        have a2 := cnt_diff m.length (sg m 104) (Hh.take 1) (lt_nodup (ltH.sublist (List.take_sublist _ _))) fun x hx => ⟨(hm1 x hx).1, (hm1 x hx).2, decide_eq_true (mH x (mem_take_of hx)).2.2⟩
        rw [show cnt m.length (sg m 104) = m.count 104 from (sign_cnt m 104).symm] at a2
        have a3 := cnt_mono (n := m.length) (p := fun i => sg m 108 i && !(inL (Hh.take 1) i || inL [(m.length : Int)] i)) (q := sg m 108) fun i _ q => (Bool.and_eq_true _ _ ▸ q : _ ∧ _).1
        rw [show cnt m.length (sg m 108) = m.count 108 from (sign_cnt m 108).symm] at a3
        simp only [if_true]
        omega
  · rw [if_neg hc]
    have b1 : first + second = due := by omega
    have b2 : 2 * first ≤ m.count 104 := by omega
    have b3 : 2 * second ≤ m.count 108 := by omega
    have dH : Hh.take first ++ (Hh.drop first).take first = Hh.take (2 * first) := by
      rw [cut3]; congr 1; omega
    have dL : Ll.take second ++ (Ll.drop second).take second = Ll.take (2 * second) := by
      rw [cut3]; congr 1; omega
    have pH : (Hh.take (2 * first)).Pairwise (· < ·) := ltH.sublist (List.take_sublist _ _)
    have pL : (Ll.take (2 * second)).Pairwise (· < ·) := ltL.sublist (List.take_sublist _ _)
    have xH : ∀ x ∈ Hh.take first, ∀ y ∈ (Hh.drop first).take first, x < y := by
      have z := pH
      rw [← dH] at z
      exact (List.pairwise_append.mp z).2.2
    have xL : ∀ x ∈ Ll.take second, ∀ y ∈ (Ll.drop second).take second, x < y := by
      have z := pL
      rw [← dL] at z
      exact (List.pairwise_append.mp z).2.2
    have HL : ∀ x ∈ Hh, ∀ y ∈ Ll, x ≠ y := fun x hx y hy e => by
      have a := (mH x hx).2.2
      have b := (mL y hy).2.2
      rw [e] at a
      omega
    have h1m : ∀ x ∈ Hh.take first, x ∈ Hh := fun x hx => mem_take_of hx
    have h2m : ∀ x ∈ (Hh.drop first).take first, x ∈ Hh := fun x hx => mem_drop_of (mem_take_of hx)
    have l1m : ∀ x ∈ Ll.take second, x ∈ Ll := fun x hx => mem_take_of hx
    have l2m : ∀ x ∈ (Ll.drop second).take second, x ∈ Ll := fun x hx => mem_drop_of (mem_take_of hx)
    have ln1 : (Hh.take first).length = first := by rw [List.length_take]; omega
    have ln2 : ((Hh.drop first).take first).length = first := by rw [List.length_take, List.length_drop]; omega
    have ln3 : (Ll.take second).length = second := by rw [List.length_take]; omega
    have ln4 : ((Ll.drop second).take second).length = second := by rw [List.length_take, List.length_drop]; omega
    have ndl : (Hh.take first ++ Ll.take second).Nodup := List.nodup_append.mpr ⟨lt_nodup (ltH.sublist (List.take_sublist _ _)), lt_nodup (ltL.sublist (List.take_sublist _ _)), fun x hx y hy => HL x (h1m x hx) y (l1m y hy)⟩
    have ndr : ((Hh.drop first).take first ++ (Ll.drop second).take second).Nodup := List.nodup_append.mpr ⟨lt_nodup (ltH.sublist ((List.take_sublist _ _).trans (List.drop_sublist _ _))), lt_nodup (ltL.sublist ((List.take_sublist _ _).trans (List.drop_sublist _ _))), fun x hx y hy => HL x (h2m x hx) y (l2m y hy)⟩
    generalize Hh.take first = A1 at *
    generalize (Hh.drop first).take first = A2 at *
    generalize Ll.take second = B1 at *
    generalize (Ll.drop second).take second = B2 at *
    have rng : ∀ x, x ∈ Hh ∨ x ∈ Ll → 0 ≤ x ∧ x ≤ (m.length : Int) := fun x hx => by
      rcases hx with q | q
      · have := mH x q; omega
      · have := mL x q; omega
    have meml : ∀ x, x ∈ srt (A1 ++ B1) ↔ x ∈ A1 ∨ x ∈ B1 := fun x => srt_mem.trans List.mem_append
    have memr : ∀ x, x ∈ srt (A2 ++ B2) ↔ x ∈ A2 ∨ x ∈ B2 := fun x => srt_mem.trans List.mem_append
    have p1 : ∀ i, i < m.length → (inL (srt (A1 ++ B1)) i && (sg m 101 i || sg m 104 i)) = true → inL A1 i = true := fun i hi q => by
      rw [Bool.and_eq_true] at q
      rcases (meml _).mp (inL_iff.mp q.1) with a | a
      · exact inL_iff.mpr a
      · have e := k8 i (l1m _ a)
        rcases sg_or q.2 with b | b <;> omega
    have p2 : ∀ i, i < m.length → (inL (srt (A2 ++ B2)) i && (sg m 101 i || sg m 104 i)) = true → inL A2 i = true := fun i hi q => by
      rw [Bool.and_eq_true] at q
      rcases (memr _).mp (inL_iff.mp q.1) with a | a
      · exact inL_iff.mpr a
      · have e := k8 i (l2m _ a)
        rcases sg_or q.2 with b | b <;> omega
    have p3 : ∀ i, i < m.length → (inL (srt (A1 ++ B1)) i && (sg m 101 i || sg m 108 i)) = true → inL B1 i = true := fun i hi q => by
      rw [Bool.and_eq_true] at q
      rcases (meml _).mp (inL_iff.mp q.1) with a | a
      · have e := k4 i (h1m _ a)
        rcases sg_or q.2 with b | b <;> omega
      · exact inL_iff.mpr a
    have p4 : ∀ i, i < m.length → (inL (srt (A2 ++ B2)) i && (sg m 101 i || sg m 108 i)) = true → inL B2 i = true := fun i hi q => by
      rw [Bool.and_eq_true] at q
      rcases (memr _).mp (inL_iff.mp q.1) with a | a
      · have e := k4 i (h2m _ a)
        rcases sg_or q.2 with b | b <;> omega
      · exact inL_iff.mpr a
    refine ⟨weigh_mk (side_lt (srt_lt ndl) fun x hx => rng x ?_) (side_lt (srt_lt ndr) fun x hx => rng x ?_) (by show (srt _).length = (srt _).length; rw [srt_len, srt_len, List.length_append, List.length_append]; omega) fun x hx hx2 => ?_, fun o ho => ?_, by show (srt _).length ≤ _; rw [srt_len, List.length_append]; omega⟩
    · rcases (meml x).mp hx with q | q
      · exact .inl (h1m x q)
      · exact .inr (l1m x q)
    · rcases (memr x).mp hx with q | q
      · exact .inl (h2m x q)
      · exact .inr (l2m x q)
    · rcases (meml x).mp hx with q | q <;> rcases (memr x).mp hx2 with q2 | q2
      · have := xH x q x q2; omega
      · exact HL x (h1m x q) x (l2m x q2) rfl
      · exact HL x (h2m x q2) x (l1m x q) rfl
      · have := xL x q x q2; omega
    · show manyN m (srt (A1 ++ B1)) (srt (A2 ++ B2)) o ≤ out
      have ho2 : o = tLeft ∨ o = tRight ∨ o = tEven := by simpa [outs] using ho
      rcases ho2 with e | e | e
      · subst e
        have := many_tilt (m := m) (l := srt (A1 ++ B1)) (r := srt (A2 ++ B2)) (o := tLeft) (dn := srt (A1 ++ B1)) (up := srt (A2 ++ B2)) (by decide) (if_neg (by decide)) (if_neg (by decide))
        have a1 := cnt_sub p1
        have a2 := cnt_sub p4
        omega
      · subst e
        have := many_tilt (m := m) (l := srt (A1 ++ B1)) (r := srt (A2 ++ B2)) (o := tRight) (dn := srt (A2 ++ B2)) (up := srt (A1 ++ B1)) (by decide) (if_pos rfl) (if_pos rfl)
        have a1 := cnt_sub p2
        have a2 := cnt_sub p3
        omega
      · subst e
        rw [many_even, z101, ht]
        have a1 : cnt m.length (fun i => sg m 104 i && !(inL (srt (A1 ++ B1)) i || inL (srt (A2 ++ B2)) i)) ≤ cnt m.length (fun i => sg m 104 i && !inL (Hh.take (2 * first)) i) := cnt_mono fun i hi q => by
          rw [Bool.and_eq_true, Bool.not_eq_true', Bool.or_eq_false_iff] at q
          rw [Bool.and_eq_true, Bool.not_eq_true']
          refine ⟨q.1, ?_⟩
          rw [← dH, inL_app, Bool.or_eq_false_iff]
          refine ⟨decide_eq_false fun a => ?_, decide_eq_false fun a => ?_⟩
          · have := inL_iff.mpr ((meml _).mpr (.inl a)); rw [q.2.1] at this; cases this
          · have := inL_iff.mpr ((memr _).mpr (.inl a)); rw [q.2.2] at this; cases this
        have a2 : cnt m.length (fun i => sg m 108 i && !(inL (srt (A1 ++ B1)) i || inL (srt (A2 ++ B2)) i)) ≤ cnt m.length (fun i => sg m 108 i && !inL (Ll.take (2 * second)) i) := cnt_mono fun i hi q => by
          rw [Bool.and_eq_true, Bool.not_eq_true', Bool.or_eq_false_iff] at q
          rw [Bool.and_eq_true, Bool.not_eq_true']
          refine ⟨q.1, ?_⟩
          rw [← dL, inL_app, Bool.or_eq_false_iff]
          refine ⟨decide_eq_false fun a => ?_, decide_eq_false fun a => ?_⟩
          · have := inL_iff.mpr ((meml _).mpr (.inr a)); rw [q.2.1] at this; cases this
          · have := inL_iff.mpr ((memr _).mpr (.inr a)); rw [q.2.2] at this; cases this
        have a3 := cnt_diff m.length (sg m 104) (Hh.take (2 * first)) (lt_nodup pH) fun x hx => ⟨(mH x (mem_take_of hx)).1, (mH x (mem_take_of hx)).2.1, decide_eq_true (mH x (mem_take_of hx)).2.2⟩
        have a4 := cnt_diff m.length (sg m 108) (Ll.take (2 * second)) (lt_nodup pL) fun x hx => ⟨(mL x (mem_take_of hx)).1, (mL x (mem_take_of hx)).2.1, decide_eq_true (mL x (mem_take_of hx)).2.2⟩
        rw [show cnt m.length (sg m 104) = m.count 104 from (sign_cnt m 104).symm] at a3
        rw [show cnt m.length (sg m 108) = m.count 108 from (sign_cnt m 108).symm] at a4
        have a5 : (Hh.take (2 * first)).length = 2 * first := by rw [List.length_take]; omega
        have a6 : (Ll.take (2 * second)).length = 2 * second := by rw [List.length_take]; omega
        simp only [if_true]
        omega
/-! ### what is told is right -/
theorem tilt_cnt {m : List Nat} : tiltB m = false ↔ m.count 104 = 0 ∧ m.count 108 = 0 := by
  unfold tiltB
  rw [Bool.or_eq_false_iff, decide_eq_false_iff_not, decide_eq_false_iff_not, ← List.count_eq_zero, ← List.count_eq_zero]
theorem marks_tilt {m : List Nat} (hm : marksB m = true) (ht : tiltB m = true) : m.count 101 = 0 := by
  unfold marksB at hm
  unfold tiltB at ht
  rw [ht, Bool.and_true, Bool.and_eq_true, Bool.not_eq_true', decide_eq_false_iff_not] at hm
  exact List.count_eq_zero.mpr hm.2
theorem told_right {m : List Nat} (hm : marksB m = true) (hc : 1 < casesN m) :
    weighB (m.length : Nat) (pairL m).1 (pairL m).2 = true ∧ (∀ o ∈ outs, manyN m (pairL m).1 (pairL m).2 o ≤ 3 ^ (wf (casesN m) - 1)) ∧ (pairL m).1.length ≤ m.length := by
  have w1 : 0 < wf (casesN m) := by
    have := wf_le 0 (casesN m)
    omega
  have w2 : casesN m ≤ 3 * 3 ^ (wf (casesN m) - 1) := by
    have := (wf_le (wf (casesN m)) (casesN m)).mpr (Nat.le_refl _)
    have e : wf (casesN m) = wf (casesN m) - 1 + 1 := by omega
    rw [e, Nat.pow_succ] at this
    omega
  have w3 : 3 ^ (wf (casesN m) - 1) < casesN m := (wf_gt _ _).mpr (by omega)
  have odd := pow_odd (wf (casesN m) - 1)
  unfold pairL
  generalize 3 ^ (wf (casesN m) - 1) = out at *
  have e4 := idx_len m 104
  have e8 := idx_len m 108
  cases ht : tiltB m with
  | false =>
    obtain ⟨c4, c8⟩ := tilt_cnt.mp ht
    have z4 : idx 104 m = [] := List.length_eq_zero_iff.mp (by omega)
    have z8 : idx 108 m = [] := List.length_eq_zero_iff.mp (by omega)
    have ec : casesN m = 2 * m.count 101 + 1 := by
      unfold casesN
      rw [ht, c4, c8]
      rfl
    rw [if_pos (by rw [z4, z8] <;> rfl)]
    exact either_right c4 c8 ht odd (by omega) (by omega)
  | true =>
    have c1 := marks_tilt hm ht
    have ec : casesN m = m.count 104 + m.count 108 := by
      unfold casesN
      rw [ht, c1]
      simp
    rw [if_neg fun q => by
      have := congrArg List.length q
      rw [List.length_append, List.length_nil] at this
      omega]
    exact tilted_right c1 ht odd (by omega) (by omega)
end Od

namespace Od
/-! ## one odd coin, or none, by weighing after weighing: plain -/
def oddIn (m : List Nat) (odd : Int) (hv : Bool) : Bool := if odd < 0 then !tiltB m else decide (m.getD odd.toNat 0 = 101) || decide (m.getD odd.toNat 0 = if hv then 104 else 108)
def outc (l r : List Int) (odd : Int) (hv : Bool) : List Nat := if odd ∈ l then (if hv then tLeft else tRight) else if odd ∈ r then (if hv then tRight else tLeft) else tEven
theorem beh_len (m : List Nat) (l r : List Int) (o : List Nat) : (behindL m l r o).length = m.length := by
  unfold behindL
  rw [List.length_map, List.length_range]
theorem beh_get {m : List Nat} {l r : List Int} {o : List Nat} {i : Nat} (h : i < m.length) : (behindL m l r o).getD i 0 = leftover (m.getD i 0) (sideOf l r o (i : Nat)) o := by
  unfold behindL
  rw [List.getD_eq_getElem?_getD, List.getElem?_map, List.getElem?_range h]
  rfl
theorem get_mem {m : List Nat} {i : Nat} (h : i < m.length) : m.getD i 0 ∈ m := by
  rw [List.getD_eq_getElem?_getD, List.getElem?_eq_getElem h]
  exact List.getElem_mem h
theorem beh_mem {m : List Nat} {l r : List Int} {o : List Nat} {c : Nat} (h : c ∈ behindL m l r o) : ∃ d ∈ m, ∃ z, c = leftover d z o := by
  unfold behindL at h
  obtain ⟨i, hi, rfl⟩ := List.mem_map.mp h
  exact ⟨_, get_mem (List.mem_range.mp hi), _, rfl⟩
theorem left_even {d : Nat} {z : Int} : leftover d z tEven = d ∨ leftover d z tEven = 103 := by
  unfold leftover
  rw [if_pos rfl]
  split
  · exact .inl rfl
  · exact .inr rfl
theorem left_side {d : Nat} {z : Int} {o : List Nat} (ho : o ≠ tEven) : leftover d z o = 104 ∨ leftover d z o = 108 ∨ leftover d z o = 103 := by
  unfold leftover
  rw [if_neg ho]
  split
  · exact .inl rfl
  · split
    · exact .inr (.inl rfl)
    · exact .inr (.inr rfl)
theorem marks_un {m : List Nat} (h : marksB m = true) : (∀ c ∈ m, c = 101 ∨ c = 104 ∨ c = 108 ∨ c = 103) ∧ (101 ∈ m → ¬ 104 ∈ m ∧ ¬ 108 ∈ m) := by
  unfold marksB at h
  rw [Bool.and_eq_true, List.all_eq_true, Bool.not_eq_true'] at h
  refine ⟨fun c hc => by simpa using of_decide_eq_true (h.1 c hc), fun e => ?_⟩
  have q := h.2
  rw [decide_eq_true e, Bool.true_and, Bool.or_eq_false_iff, decide_eq_false_iff_not, decide_eq_false_iff_not] at q
  exact q
theorem marks_mk {m : List Nat} (h1 : ∀ c ∈ m, c = 101 ∨ c = 104 ∨ c = 108 ∨ c = 103) (h2 : 101 ∈ m → ¬ 104 ∈ m ∧ ¬ 108 ∈ m) : marksB m = true := by
  unfold marksB
  rw [Bool.and_eq_true, List.all_eq_true, Bool.not_eq_true']
  refine ⟨fun c hc => decide_eq_true (by simpa using h1 c hc), ?_⟩
  by_cases e : 101 ∈ m
  · obtain ⟨a, b⟩ := h2 e
    rw [decide_eq_false a, decide_eq_false b]
    simp
  · rw [decide_eq_false e] <;> rfl
theorem beh_marks {m : List Nat} {l r : List Int} {o : List Nat} (hm : marksB m = true) : marksB (behindL m l r o) = true := by
  obtain ⟨h1, h2⟩ := marks_un hm
  by_cases ho : o = tEven
  · subst ho
    have back : ∀ c ∈ behindL m l r tEven, c ≠ 103 → c ∈ m := fun c hc n => by
      obtain ⟨d, hd, z, rfl⟩ := beh_mem hc
      rcases left_even (d := d) (z := z) with e | e
      · rw [e]; exact hd
      · exact absurd e n
    refine marks_mk (fun c hc => ?_) fun e => ?_
    · by_cases n : c = 103
      · exact .inr (.inr (.inr n))
      · exact h1 c (back c hc n)
    · obtain ⟨a, b⟩ := h2 (back _ e (by decide))
      exact ⟨fun q => a (back _ q (by decide)), fun q => b (back _ q (by decide))⟩
  · have no : ∀ c ∈ behindL m l r o, c = 104 ∨ c = 108 ∨ c = 103 := fun c hc => by
      obtain ⟨d, hd, z, rfl⟩ := beh_mem hc
      exact left_side ho
    refine marks_mk (fun c hc => .inr (no c hc)) fun e => ?_
    rcases no _ e with q | q | q <;> cases q
theorem beh_cases {m : List Nat} {l r : List Int} {o : List Nat} (hm : marksB m = true) : casesN (behindL m l r o) ≤ max 1 (manyN m l r o) := by
  unfold casesN manyN
  cases ht : tiltB (behindL m l r o) with
  | true =>
    simp only [if_true]
    omega
  | false =>
    obtain ⟨c4, c8⟩ := tilt_cnt.mp ht
    by_cases ho : o = tEven
    · cases hm2 : tiltB m with
      | false =>
        rw [decide_eq_true ho]
        simp only [Bool.not_false, Bool.and_true, if_true, Bool.false_eq_true, if_false]
        omega
      | true =>
        have c1 := List.count_eq_zero.mp (marks_tilt hm hm2)
        have d1 : (behindL m l r o).count 101 = 0 := List.count_eq_zero.mpr fun q => by
          obtain ⟨d, hd, z, e⟩ := beh_mem q
          subst ho
          rcases left_even (d := d) (z := z) with a | a
          · rw [a] at e; rw [← e] at hd; exact c1 hd
          · rw [a] at e; cases e
        rw [c4, c8, d1]
        simp only [Bool.false_eq_true, if_false]
        omega
    · have d1 : (behindL m l r o).count 101 = 0 := List.count_eq_zero.mpr fun q => by
        obtain ⟨d, hd, z, e⟩ := beh_mem q
        rcases left_side (d := d) (z := z) ho with a | a | a <;> (rw [a] at e; cases e)
      rw [c4, c8, d1]
      simp only [Bool.false_eq_true, if_false]
      omega
theorem pos_many {m : List Nat} {l r : List Int} {o : List Nat} {c : Nat} (h : c ∈ behindL m l r o) (hc : c = 101 ∨ c = 104 ∨ c = 108) : 1 ≤ manyN m l r o := by
  have := List.count_pos_iff.mpr h
  unfold manyN
  rcases hc with e | e | e <;> (subst e; omega)
theorem side_lr {l r : List Int} {o : List Nat} (ho : o ≠ tRight) (i : Int) : sideOf l r o i = if i ∈ r then -1 else if i ∈ l then 1 else 0 := by
  unfold sideOf
  rw [if_neg ho, if_neg ho]
theorem side_rl {l r : List Int} (i : Int) : sideOf l r tRight i = if i ∈ l then -1 else if i ∈ r then 1 else 0 := rfl
theorem led_step {m : List Nat} {l r : List Int} {odd : Int} {hv : Bool} (hw : weighB (m.length : Nat) l r = true) (h1 : -1 ≤ odd) (h2 : odd < m.length) (hi : oddIn m odd hv = true) :
    outc l r odd hv ∈ outs ∧ oddIn (behindL m l r (outc l r odd hv)) odd hv = true ∧ 1 ≤ manyN m l r (outc l r odd hv) := by
  obtain ⟨s1, s2, s3, s4⟩ := weigh_un hw
  have q1 : ∀ x ∈ l, 0 ≤ x := fun x hx => by have := (lt_side l _ _ s1).2 x hx; omega
  have q2 : ∀ x ∈ r, 0 ≤ x := fun x hx => by have := (lt_side r _ _ s2).2 x hx; omega
  have mem : outc l r odd hv ∈ outs := by
    unfold outc
    split
    · cases hv <;> decide
    · split
      · cases hv <;> decide
      · decide
  refine ⟨mem, ?_⟩
  by_cases neg : odd < 0
  · have n1 : odd ∉ l := fun q => by have := q1 _ q; omega
    have n2 : odd ∉ r := fun q => by have := q2 _ q; omega
    have eo : outc l r odd hv = tEven := by
      unfold outc
      rw [if_neg n1, if_neg n2]
    rw [eo]
    unfold oddIn at hi ⊢
    rw [if_pos neg] at hi ⊢
    rw [Bool.not_eq_true'] at hi
    obtain ⟨a, b⟩ := tilt_cnt.mp hi
    have back : ∀ c ∈ behindL m l r tEven, c ≠ 103 → c ∈ m := fun c hc n => by
      obtain ⟨d, hd, z, rfl⟩ := beh_mem hc
      rcases left_even (d := d) (z := z) with e | e
      · rw [e]; exact hd
      · exact absurd e n
    refine ⟨?_, ?_⟩
    · rw [Bool.not_eq_true']
      exact tilt_cnt.mpr ⟨List.count_eq_zero.mpr fun q => List.count_eq_zero.mp a (back _ q (by decide)), List.count_eq_zero.mpr fun q => List.count_eq_zero.mp b (back _ q (by decide))⟩
    · unfold manyN
      rw [hi]
      simp
  · have hi2 : m.getD odd.toNat 0 = 101 ∨ m.getD odd.toNat 0 = if hv then 104 else 108 := by
      unfold oddIn at hi
      rw [if_neg neg, Bool.or_eq_true, decide_eq_true_eq, decide_eq_true_eq] at hi
      exact hi
    have hk : odd.toNat < m.length := by omega
    have ek : ((odd.toNat : Nat) : Int) = odd := by omega
    have goal : leftover (m.getD odd.toNat 0) (sideOf l r (outc l r odd hv) odd) (outc l r odd hv) = 101 ∨ leftover (m.getD odd.toNat 0) (sideOf l r (outc l r odd hv) odd) (outc l r odd hv) = if hv then 104 else 108 := by
      by_cases a : odd ∈ l
      · have b : odd ∉ r := s4 _ a
        cases hv with
        | true =>
          have eo : outc l r odd true = tLeft := by unfold outc; rw [if_pos a]; rfl
          rw [eo]
          have es : sideOf l r tLeft odd = 1 := by rw [side_lr (by decide), if_neg b, if_pos a]
          rw [es]
          unfold leftover
          rw [if_neg (by decide), if_pos ⟨by decide, by simpa using hi2⟩]
          exact .inr rfl
        | false =>
          have eo : outc l r odd false = tRight := by unfold outc; rw [if_pos a]; rfl
          rw [eo]
          have es : sideOf l r tRight odd = -1 := by rw [side_rl, if_pos a]
          rw [es]
          unfold leftover
          rw [if_neg (by decide), if_neg (by simp), if_pos ⟨by decide, by simpa using hi2⟩]
          exact .inr rfl
      · by_cases b : odd ∈ r
        · cases hv with
          | true =>
            have eo : outc l r odd true = tRight := by unfold outc; rw [if_neg a, if_pos b]; rfl
            rw [eo]
            have es : sideOf l r tRight odd = 1 := by rw [side_rl, if_neg a, if_pos b]
            rw [es]
            unfold leftover
            rw [if_neg (by decide), if_pos ⟨by decide, by simpa using hi2⟩]
            exact .inr rfl
          | false =>
            have eo : outc l r odd false = tLeft := by unfold outc; rw [if_neg a, if_pos b]; rfl
            rw [eo]
            have es : sideOf l r tLeft odd = -1 := by rw [side_lr (by decide), if_pos b]
            rw [es]
            unfold leftover
            rw [if_neg (by decide), if_neg (by simp), if_pos ⟨by decide, by simpa using hi2⟩]
            exact .inr rfl
        · have eo : outc l r odd hv = tEven := by unfold outc; rw [if_neg a, if_neg b]
          rw [eo]
          have es : sideOf l r tEven odd = 0 := by rw [side_lr (by decide), if_neg b, if_neg a]
          rw [es]
          unfold leftover
          rw [if_pos rfl, if_pos rfl]
          exact hi2
    have got := beh_get (l := l) (r := r) (o := outc l r odd hv) hk
    rw [ek] at got
    rw [← got] at goal
    refine ⟨?_, ?_⟩
    · unfold oddIn
      rw [if_neg neg, Bool.or_eq_true, decide_eq_true_eq, decide_eq_true_eq]
      exact goal
    · refine pos_many (get_mem (by rw [beh_len]; exact hk)) ?_
      rcases goal with e | e
      · exact .inl e
      · cases hv with
        | true => exact .inr (.inl e)
        | false => exact .inr (.inr e)
theorem one_list {l : List Int} {x : Int} (h1 : l.length = 1) (h2 : x ∈ l) : l = [x] := by
  match l, h1 with
  | [y], _ => rw [List.mem_singleton.mp h2]
theorem led_done {m : List Nat} {odd : Int} {hv : Bool} (h1 : -1 ≤ odd) (h2 : odd < m.length) (hi : oddIn m odd hv = true) (hc : casesN m ≤ 1) :
    toldA m = if odd < 0 then .nothing else if hv then .heavy odd else .light odd := by
  unfold toldA
  rw [if_neg (by omega)]
  have e4 := idx_len m 104
  have e8 := idx_len m 108
  by_cases neg : odd < 0
  · rw [if_pos neg]
    unfold oddIn at hi
    rw [if_pos neg, Bool.not_eq_true'] at hi
    obtain ⟨a, b⟩ := tilt_cnt.mp hi
    have z4 : idx 104 m = [] := List.length_eq_zero_iff.mp (by omega)
    have z8 : idx 108 m = [] := List.length_eq_zero_iff.mp (by omega)
    rw [z4, z8]
  · rw [if_neg neg]
    have hk : odd.toNat < m.length := by omega
    have ek : ((odd.toNat : Nat) : Int) = odd := by omega
    have hi2 : m.getD odd.toNat 0 = 101 ∨ m.getD odd.toNat 0 = if hv then 104 else 108 := by
      unfold oddIn at hi
      rw [if_neg neg, Bool.or_eq_true, decide_eq_true_eq, decide_eq_true_eq] at hi
      exact hi
    have gm := get_mem hk
    have hc2 : 2 * m.count 101 + m.count 104 + m.count 108 ≤ 1 := by
      unfold casesN at hc
      omega
    rcases hi2 with e | e
    · rw [e] at gm
      have := List.count_pos_iff.mpr gm
      omega
    · rw [e] at gm
      cases hv with
      | true =>
        have c4 : 0 < m.count 104 := List.count_pos_iff.mpr gm
        have z : idx 104 m = [odd] := one_list (by omega) (by have := mem_idx hk e; rwa [ek] at this)
        rw [z]
        rfl
      | false =>
        have c8 : 0 < m.count 108 := List.count_pos_iff.mpr gm
        have z4 : idx 104 m = [] := List.length_eq_zero_iff.mp (by omega)
        have z : idx 108 m = [odd] := one_list (by omega) (by have := mem_idx hk e; rwa [ek] at this)
        rw [z4, z]
        rfl
/-- the start -/
def allE (n : Nat) : List Nat := List.replicate n 101
theorem allE_no {n c : Nat} (h : c ≠ 101) : c ∉ allE n := fun q => h (List.eq_of_mem_replicate q)
theorem allE_marks (n : Nat) : marksB (allE n) = true := marks_mk (fun c hc => .inl (List.eq_of_mem_replicate hc)) fun _ => ⟨allE_no (by decide), allE_no (by decide)⟩
theorem allE_tilt (n : Nat) : tiltB (allE n) = false := tilt_cnt.mpr ⟨List.count_eq_zero.mpr (allE_no (by decide)), List.count_eq_zero.mpr (allE_no (by decide))⟩
theorem allE_odd {n : Nat} {odd : Int} {hv : Bool} (h1 : -1 ≤ odd) (h2 : odd < n) : oddIn (allE n) odd hv = true := by
  unfold oddIn
  by_cases neg : odd < 0
  · rw [if_pos neg, allE_tilt] <;> rfl
  · rw [if_neg neg, Bool.or_eq_true]
    left
    refine decide_eq_true ?_
    unfold allE
    rw [List.getD_eq_getElem?_getD, List.getElem?_replicate, if_pos (by omega)]
    rfl
end Od

namespace Od
open PySem PySem.Spec PyProof.Rows L2 SX Evl
section
variable {K : PySem.W.Frag} {σ : L2.St} {H : Hp} {D : Ends} {tu tz : TS} {xs : List V}
/-- for i, x in enumerate(list) -/
theorem go_forEL {a : Addr} {tl : TA} {j1 j2 : Nat} (P : Nat → L2.St → Hp → Prop) (h : EvA tl σ H [.ref a]) (hx : SqL K H a xs) (h0 : P 0 σ H) (hl : ∀ i σ' Hk, P i σ' Hk → SqL K Hk a xs)
    (hs : ∀ i x σ' Hk, xs[i]? = some x → P i σ' Hk → Go Hk (tu { D with nx := Up (P (i + 1)), ct := Up (P (i + 1)), bk := tz D } ((σ'.set j1 (some (.int (i : Nat)))).set j2 (some x)))) (hd : ∀ σ' Hk, P xs.length σ' Hk → Go Hk (tz D σ')) :
    Go H (tSeq (tFor (iEnum K tl) (gTup K 2 (gCons (gName j1) (gCons (gName j2) gNil))) tu) tz D σ) := fun H0 e0 => h H0 e0 _ fun H1 e => ⟨a, xs, rfl, ex_l (e0.trans e) hx,
      for_it (D := { D with nx := tz D }) walk_enum (fun i => Up (P i)) ⟨H, h0, e0.trans e⟩ (fun i σ' H' _ ⟨Hk, p, ek⟩ => ex_l ek (hl i σ' Hk p)) (fun i x σ' H' H'' hi ⟨Hk, p, ek⟩ yy => by
        obtain ⟨T, u, v, ev, hT, eH, e1, e2⟩ := yy
        have e1 := Option.some.inj e1
        subst ev eH e1
        exact ⟨T, _, rfl, st_of upd_same, rfl, _, _, rfl, _, _, rfl, rfl, hs i _ σ' Hk e2 p _ (ek.trans (Ex.new hT))⟩) (fun σ' H' ⟨Hk, p, ek⟩ => hd σ' Hk p H' ek)⟩
end
/-! ## a def's body, apart from its object -/
def BodyOk (P : Program) (w : World) (K : PySem.W.Frag) (mg : Str → Option Value) (base : Heap) (k : Nat) (x : Str) (st : Stmt) (f : Addr) (N : List Str) (sp : Sp) : Prop :=
  ∀ (cdv : Value) (A : Around) (outer : List Env) (s : Shared) (H : Hp) (vs : List V) (Q : VK) (E : XK), Room k (A.deeper (envOfC x (defScope st) s.heap.objs.size f cdv)) → sp vs H Q E →
    ∃ t, PSs (cxOf CX0 P w K mg base N x (defScope st) f cdv A outer s H E).nox (defBody st) t ∧ Go H (t { nx := fun _ H' => Q .non H', rt := Q } (start N vs))
theorem BodyOk.fn {P : Program} {w : World} {K : PySem.W.Frag} {mg : Str → Option Value} {base : Heap} {x : Str} {st : Stmt} {f : Addr} {fd : FuncData} {N ps : List Str} {k : Nat} {sp : Sp} (F : FunD K x x (defArgs st) (defBody st) (defScope st) [] [] f fd) (S : FnScope N ps (defScope st))
    (len : ∀ vs H Q E, sp vs H Q E → vs.length = ps.length) (b : BodyOk P w K mg base k x st f N sp) : FnOk P w K mg base CX0 (k + 1) f fd ps sp :=
  F.ok S len fun cdv A outer s H vs Q E hr hsp => by
    obtain ⟨t, h, q⟩ := b cdv A outer s H vs Q E hr hsp
    exact ⟨t, h.nox, q.here⟩
/-! ## is None -/
def rNoneI : R2 := fun v z H R => z = .non ∧ R (.bl (decide (v = .non))) H
def rNoneN : R2 := fun v z H R => z = .non ∧ R (.bl (!decide (v = .non))) H
theorem op_noneI {X : Cx} : OpR X (compareOp .Is) rNoneI := L2.op_isN
theorem op_noneN {X : Cx} : OpR X (compareOp .IsNot) rNoneN := L2.op_notN
theorem ev_noneI {σ : L2.St} {H : Hp} {ta tb : TE} {x : V} (ha : Ev ta σ H x) (hb : Ev tb σ H .non) : Ev (tOp rNoneI ta tb) σ H (.bl (decide (x = .non))) := ev_op ha hb fun H1 _ _ q => ⟨rfl, q H1 (Ex.refl H1)⟩
theorem ev_noneN {σ : L2.St} {H : Hp} {ta tb : TE} {x : V} (ha : Ev ta σ H x) (hb : Ev tb σ H .non) : Ev (tOp rNoneN ta tb) σ H (.bl (!decide (x = .non))) := ev_op ha hb fun H1 _ _ q => ⟨rfl, q H1 (Ex.refl H1)⟩
/-! ## the draws -/
def primes : List Int := [1000003, 1000033, 1000037, 1000039, 1000081, 1000099, 1000117, 1000121, 1000133, 1000151, 1000159, 1000171, 1000183, 1000187, 1000193, 1000199]
def drawI (c : Int) (k : Nat) (many : Int) : Int := (c * 48271 + (k : Int) * 69621) % primes.getD (k % 16) 1 % many
theorem draw_0 {c : Int} {k : Nat} {many : Int} (h : 0 < many) : 0 ≤ drawI c k many := Int.emod_nonneg _ (by omega)
theorem draw_lt {c : Int} {k : Nat} {many : Int} (h : 0 < many) : drawI c k many < many := Int.emod_lt_of_pos _ h
theorem primes_pos : ∀ i, i < 16 → 0 < primes.getD i 1 := by decide
theorem primes_at : ∀ i, i < 16 → (primes.map V.int)[i]? = some (.int (primes.getD i 1)) := by
  intro i hi
  rw [List.getElem?_map, List.getElem?_eq_getElem (by exact hi)]
  rw [List.getD_eq_getElem?_getD, List.getElem?_eq_getElem (by exact hi)]
  rfl
end Od

namespace Od
open PySem PySem.Spec PyProof.Rows L2 SX Evl
/-! ## set(list of ints) -/
abbrev noSet (w : World) : Obj := { cls := .type "set", dict := none, data := .set #[] 0 (.fresh 0 0 (!w.params.followText "set-order")) }
section
variable {P : Program} {w : World} {A : Around} {E : Value → Shared → Prop} {s : Shared}
theorem set_of_ints {l : Addr} {its : Array Value} (ns : List Int) {Q : Value → Shared → Prop} (hh : A.handled = none) (hl : s.heap.IsList l its) (hit : IntsAre its.toList ns) (hb : ns.length + 1 < scanBound)
    (h : ∀ (h1 : Heap) (tk c : Nat), SetR w h1 s.heap.objs.size (fun j => decide (j ∈ ns)) c → c ≤ ns.length → (∀ b o, s.heap.get? b = some o → h1.get? b = some o) → Q (.ref s.heap.objs.size) { s with heap := h1, toks := tk }) :
    wpAny (model P w) A (call (.type "set") [.ref l]) Q E s := by
  have size_is : its.size = ns.length := by rw [← Array.length_toList]; exact IntsAre.length hit
  obtain ⟨c0, tl0, mro0⟩ := F.called_set.mro
  have m1 := F.called_set.made
  have m2 := F.called_set.sub
  refine wpAny_call (codeAny_of_tree (show wpAny _ _ (callAny (.type "set") _) _ _ _ from ?_))
  refine wpAny_pure (And.intro (Code.quiet_builtin _ (by decide +kernel)) (codeAny_builtin F.entry_type_call ?_))
  rw [Around.under_plain (weight_type_call_type "set" [Value.ref l] []) rfl]
  have m3 := F.called_set.notType
  have m4 := F.called_set.canCreate
  have m5 := F.typeCall_set_1 (.ref l)
  repeat (any_goals (first | assumption | wp_step))
  refine codeAny_mono (code_set_led1 (.ref l) (E := E) (Q₁ := fun v s1 => v = .ref s.heap.objs.size ∧ s1 = { s with heap := s.heap.push (noSet w) }) (And.intro rfl rfl)) fun r s1 hr => ?_
  match r, hr with
  | .error e, hr => exact hr
  | .ok (.ret v), hr =>
    obtain ⟨rfl, rfl⟩ := hr
    have at0 : (s.heap.push (noSet w)).get? s.heap.objs.size = some (noSet w) := Heap.get?_push_size _ rfl
    have ty0 : Shared.TypeIs { s with heap := s.heap.push (noSet w) } (.ref s.heap.objs.size) "set" := ⟨_, at0, rfl⟩
    have m6 := F.called_set.init.lookup
    have m7 := F.called_set.init.bind (.ref s.heap.objs.size)
    repeat (any_goals (first | assumption | wp_step))
    refine codeAny_mono (codeAny_call_builtin (R := wants (fun r s2 => r = .none ∧ ∃ h1 tk c, s2 = { s with heap := h1, toks := tk } ∧ SetR w h1 s.heap.objs.size (fun j => decide (j ∈ ns)) c ∧ c ≤ ns.length ∧
      ∀ b o, s.heap.get? b = some o → h1.get? b = some o) E) F.called_set.init.plain F.entry_set_init (check_set_init_1 ty0 ?_)) fun r2 s2 hr2 => ?_
    · obtain ⟨⟨oc, od, odt, os⟩, hol, hcl, nl, hdl⟩ := hl
      simp only at hcl hdl
      subst hcl hdl
      have n1 := F.sub_list_set
      have n2 := F.sub_list_frozenset
      have n3 : (Value.type "list" == Value.type "dict") = false := by decide
      have old := Heap.get?_push_of_some (noSet w) hol
      have hl1 : (s.heap.push (noSet w)).IsList l its := ⟨_, old, rfl, nl, rfl⟩
      unfold Builtin.«set.__init__» noKeywords Builtin.Frozenset.updateFrom
      generalize hPI : pyIter = PI
      wp_walk
      subst hPI
      refine wpAny_pyIter_list hl1 (wpAny_bind (wpAny_runValue ?_))
      have lt0 : l < s.heap.objs.size := Heap.lt_size hol
      have quiet3 : A.in1.in1.in1.handled = none := by simp [hh]
      have sz1 : (s.heap.push (noSet w)).objs.size = s.heap.objs.size + 1 := Heap.size_push ..
      have apart : l ≠ (s.heap.push (noSet w)).objs.size := fun z => Nat.ne_of_lt (Nat.lt_succ_of_lt lt0) (z.trans sz1)
      have out0 : s.heap.objs.size ∉ [(s.heap.push (noSet w)).objs.size, l] := by
        intro z
        rcases List.mem_cons.mp z with z | z
        · exact Nat.ne_of_lt (Nat.lt_succ_self _) (z.trans sz1)
        · exact Nat.ne_of_gt lt0 (List.mem_singleton.mp z)
      have vals : ∀ (i : Nat) (v : Value), its[i]? = some v → ∃ k t, ns[i]? = some k ∧ v = .int k t := by
        intro i v hv
        have hi : i < ns.length := by rw [← size_is]; exact (Array.getElem?_eq_some_iff.mp hv).1
        obtain ⟨t, e⟩ := PyProof.Rows.IntsAre.int_at hit i v (Array.getElem?_toList.trans hv)
        exact ⟨ns[i], t, List.getElem?_eq_getElem hi, by rw [e, List.getD_eq_getElem?_getD, List.getElem?_eq_getElem hi] <;> rfl⟩
      refine set_update_ints ((Walks.list quiet3 _ l apart its).toS) s.heap.objs.size out0 ns size_is hb vals (its.size - 0) 0 _ (by omega) (Nat.zero_le _) ⟨⟨_, Heap.get?_push_size _ rfl, rfl, rfl⟩, (hl1.push _)⟩
        ⟨0, Nat.le_refl 0, setR_new_at (Heap.get?_push_of_some _ at0)⟩ fun s3 c3 mv hc3 hS3 => ?_
      obtain ⟨h3, g3, d3, t3, o3⟩ := s3
      have q1 : g3 = s.gens := mv.gens
      have q2 : d3 = s.drawn := mv.drawn
      have q3 : o3 = s.os := mv.os
      subst q1 q2 q3
      refine wpAny_pure (show wpAny _ _ (ret Value.none) _ _ _ from wpAny_pure ⟨rfl, h3, t3, c3, rfl, hS3, by rw [size_is] at hc3; exact hc3, fun b o e => ?_⟩)
      have hb0 : b < s.heap.objs.size := Heap.lt_size e
      refine mv.heap b o (fun z => ?_) (Heap.get?_push_of_some _ (Heap.get?_push_of_some _ e))
      rcases List.mem_cons.mp z with z | z
      · exact Nat.ne_of_lt hb0 z
      · exact Nat.ne_of_lt (Nat.lt_succ_of_lt hb0) ((List.mem_singleton.mp z).trans sz1)
    · match r2, hr2 with
      | .error e, hr2 => exact hr2
      | .ok (.ret r), hr2 =>
        obtain ⟨rfl, h1, tk, c, rfl, a1, a2, a3⟩ := hr2
        repeat (any_goals (first | assumption | wp_step))
        exact h _ _ _ a1 a2 a3
end
def rSetI (K : PySem.W.Frag) (w : World) : List V → Hp → VK → Prop := fun vs H Q => ∃ (p : Addr) (ns : List Int), vs = [.ref p] ∧ SqL K H p (ns.map V.int) ∧ ns.length ≤ 1000 ∧ ∀ (a : Addr) (c : Nat), H a = none → c ≤ ns.length → Q (.ref a) (upd H a (SetO w a (fun j => decide (j ∈ ns)) c))
/-- sorted(set), any number -/
def rSortedS (w : World) : List V → Hp → VK → Prop := fun vs H Q => ∃ (a : Addr) (T : Int → Bool) (n : Nat), vs = [.ref a] ∧ H a = some (SetO w a T n) ∧ n ≤ 1000 ∧
  ∀ (ns : List Int) (p : Addr), ns.Pairwise (· < ·) → (∀ k : Int, k ∈ ns ↔ T k = true) → H p = none → Q (.ref p) (upd H p (.lst (ns.map V.int)))
section
variable {X : Cx}
theorem call_setI (hc : X.calm = true) : CallR X (.type "set") (rSetI X.K X.w) := by
  intro pins s σ H vs us Q I r h
  obtain ⟨p, ns, rfl, hp, hl, q⟩ := h
  obtain ⟨its, rv, pl, hz⟩ := I.list hp
  rw [Vals.ref1 r]
  refine set_of_ints ns (I.ok.hd hc) pl.isList (ints_of_vals rv) (by unfold scanBound; omega) fun h1 tk c R hcn k => ?_
  refine ⟨.ref _, upd H s.heap.objs.size (SetO X.w s.heap.objs.size (fun j => decide (j ∈ ns)) c), I.laid (t' := tk) k (Nat.le_refl _) (setO_new R), rfl, q _ c (I.hok.fresh (Nat.le_refl _)) hcn⟩
end
end Od

namespace Od
open PySem PySem.Spec PyProof.Rows L2 SX Evl
/-! ## sorted(set), of any number -/
section
variable {P : Program} {w : World} {A : Around} {E : Value → Shared → Prop} {s : Shared} {a : Addr}
theorem sorted_of_set {T : Int → Bool} {n : Nat} {Q : Value → Shared → Prop} (R : SetR w s.heap a T n) (quiet : A.handled = none) (few : n ≤ 1000)
    (go : ∀ s2 p (ys : List Value) (c : Nat) (ns : List Int), (∀ b o, s.heap.get? b = some o → s2.heap.get? b = some o) → s2.gens = s.gens → s2.os = s.os → s.heap.objs.size ≤ p → s2.heap.get? p = some (seqObj "list" ys.toArray c) →
      IntsAre ys ns → ns.Pairwise (· < ·) → (∀ k, k ∈ ns ↔ T k = true) → ns.length = n → Q (.ref p) s2) :
    wpAny (model P w) A (call (.builtin "sorted") [.ref a]) Q E s := by
  obtain ⟨ob, els, ep, tb, at0, exact0, data0, good, nodup0, mem0, fits0, tfits, size0, ris0, led0⟩ := R
  refine Calls.call_function_entry kind_sorted plain_sorted entry_sorted (args_sorted1 _) (show wpAny _ _ (Builtin.«sorted» _) _ _ _ from ?_)
  unfold Builtin.«sorted»
  refine wpAny_bind (m := checkCount "sorted" 1 1 _) (wpAny_pure (wpAny_bind (collect_set (A := A.in1) quiet (And.intro at0 ⟨exact0.1, data0⟩ |> fun z => ⟨ob, z⟩) tfits fits0 ris0 led0 fun s1 vs keep1 grow1 gens1 os1 perm1 => ?_)))
  have many : vs.length = n := by
    have z := perm1.length_eq
    rw [List.length_map, Array.length_toList] at z
    exact z.trans size0
  have small : vs.length ≤ sizeLine := by
    rw [many, sizeLine_eq]
    omega
  have ints1 : IntsAre vs (vs.map Builtin.Re.reRawOf) := L2.ints_of vs fun v hv => by
    obtain ⟨el, hel, q⟩ := List.mem_map.mp (perm1.mem_iff.mp hv)
    obtain ⟨k, tk, h1, _⟩ := good el hel
    exact ⟨k, tk, q.symm.trans h1⟩
  have keys : (vs.map Builtin.Re.reRawOf).Perm (els.toList.map keyOf) := by
    have q := perm1.map Builtin.Re.reRawOf
    rwa [List.map_map] at q
  refine wpAny_bind (wpAny_newList ?_ small)
  have new1 : (s1.heap.push (seqObj "list" vs.toArray 0)).get? s1.heap.objs.size = some (seqObj "list" vs.toArray 0) := Heap.get?_push_size _ rfl
  refine wpAny_bind (wpAny_holding (wpAny_call_entry PyProof.Rows.slot_list_sort ⟨_, new1, rfl⟩ PyProof.Rows.entry_list_sort
    (SrtO.list_sort_ord SrtO.swo_int new1 small (fun two => SrtO.ints_sortable ints1 two) fun ys h1 h2 => (show ∃ v, _ from ⟨_, rfl, ?_⟩)) (PyProof.Rows.args_list_sort _)))
  obtain ⟨c, hc⟩ := PyProof.Rows.sortedHeap_at (vs := vs) (out := ys.toArray) new1
  obtain ⟨k1, k2, k3⟩ := SrtO.ints_out ints1 h1 h2
  have pn : (ys.map SrtO.iv).Perm (els.toList.map keyOf) := k2.trans keys
  refine wpAny_pure ⟨_, rfl, go _ s1.heap.objs.size ys c _ (fun b u e => ?_) gens1 os1 grow1 hc k1 (lt_of_le_nodup _ k3 (pn.nodup_iff.mpr nodup0)) (fun k => pn.mem_iff.trans (mem0 k).symm) ?_⟩
  · have q := keep1 b u e
    have lt1 := Heap.lt_size q
    exact (sortedHeap_old (Nat.ne_of_lt lt1) (by rw [PyProof.Rows.size_push']; exact Nat.lt_succ_of_lt lt1)).trans (Heap.get?_push_of_some _ q)
  · have z := pn.length_eq
    rw [List.length_map (f := keyOf), Array.length_toList] at z
    exact z.trans size0
end
section
variable {X : Cx}
theorem cr_sortedS (hc : X.calm = true) : CallR X (.builtin "sorted") (rSortedS X.w) := by
  intro pins s σ H vs us Q I r h
  obtain ⟨a, T, n, rfl, ha, few, q⟩ := h
  rw [Vals.ref1 r]
  refine sorted_of_set (setO_get I ha) (I.ok.hd hc) few fun s2 p ys c ns keep gens os hp at1 ints1 lt1 mem1 len1 => ?_
  have fresh : H p = none := I.hok.fresh hp
  have small : (ns.map V.int).length ≤ sizeLine := by
    rw [List.length_map, len1, sizeLine_eq]
    omega
  obtain ⟨h2, g2, d2, t2, o2⟩ := s2
  have e1 : g2 = s.gens := gens
  have e2 : o2 = s.os := os
  subst e1 e2
  exact ⟨.ref p, upd H p (.lst (ns.map V.int)), I.call (ch := []) (Un.laid keep hp fresh) (I.hok.laid keep hp ⟨small, ys, c, vals_of_ints ints1, at1⟩) I.bare (fun _ z => nomatch z), rfl, q ns p lt1 mem1 fresh⟩
/-! ## list.count of bools -/
def rCntB (K : PySem.W.Frag) : V → List V → Hp → VK → Prop := fun x xs H Q => ∃ (p : Addr) (bs : List Bool) (k : Bool), x = .ref p ∧ xs = [.bl k] ∧ SqL K H p (bs.map V.bl) ∧ Q (.int (bs.count k : Nat)) H
theorem vals_bools : ∀ (bs : List Bool) (us : List Value), Vals (bs.map V.bl) us → us = bs.map Value.bool
  | [], _, .nil => rfl
  | b :: bs, _, .cons r rr => by
    cases r
    rw [vals_bools bs _ rr] <;> rfl
theorem reads_bools (h : Heap) : ∀ bs : List Bool, ReadsAll h (bs.map Value.bool) (bs.map PyData.bool) []
  | [] => .nil
  | b :: bs => .cons (as := []) (.bool b) (reads_bools h bs)
theorem bools_has : ∀ bs : List Bool, (bs.map PyData.bool).all Shape.bool.has = true
  | [] => rfl
  | b :: bs => by
    rw [List.map_cons, List.all_cons, bools_has bs]
    rfl
theorem count_bools (k : Bool) : ∀ bs : List Bool, countIn (.bool k) (bs.map PyData.bool) = (bs.count k : Nat)
  | [] => rfl
  | b :: bs => by
    rw [List.map_cons, countIn, count_bools k bs, List.count_cons]
    cases b <;> cases k <;> simp [same] <;> omega
theorem mt_countB : MtR X "list.count" (rCntB X.K) := by
  intro pins s σ H x xs v us Q I rx rxs h
  obtain ⟨p, bs, k, rfl, rfl, hs, q⟩ := h
  cases rx
  obtain ⟨u, rfl, ru⟩ := rxs.one
  cases ru
  obtain ⟨its, rv, pl, _⟩ := I.list hs
  have e := vals_bools bs its rv
  subst e
  refine count_list_bools (hp := s.heap) pl.isList (reads_bools _ bs) (bools_has bs) ?_
  rw [count_bools]
  exact ⟨.int (bs.count k : Nat), H, I.tok _, ⟨_, rfl⟩, q⟩
end
/-! ## what these evaluate to -/
section
variable {K : PySem.W.Frag} {w : World} {σ : L2.St} {H H' : Hp} {ta tb tc te tx : TE} {p : Addr} {ns : List Int}
def dedup (ns : List Int) : List Int := (srt ns).eraseDups
/-- sorted(set(xs)) -/
theorem el_sortedSet (ha : Ev ta σ H (.ref p)) (hx : SqL K H p (ns.map V.int)) (hn : ns.length ≤ 1000) (ms : List Int) (hm : ∀ zs : List Int, zs.Pairwise (· < ·) → (∀ k, k ∈ zs ↔ k ∈ ns) → zs = ms) :
    EvL (tCB (rSortedS w) (tCons (tCB (rSetI K w) (tCons ta tNil)) tNil)) σ H (ms.map V.int) := fun H1 e Q k =>
  ha H1 e _ fun H2 e2 => ⟨p, ns, rfl, ex_l (e.trans e2) hx, hn, fun a c hf hc => ⟨a, _, c, rfl, upd_same, by omega, fun zs q lt1 mem1 hq => by
    have ez := hm zs lt1 fun k => (mem1 k).trans (by rw [decide_eq_true_eq])
    subst ez
    have x1 : Ex H2 (upd H2 a (SetO w a (fun j => decide (j ∈ ns)) c)) := Ex.new hf
    exact k q _ (fresh_back (e2.trans x1) hq) ((e2.trans x1).trans (Ex.new hq)) upd_same⟩⟩
theorem ev_countB {bs : List Bool} {k : Bool} (ha : Ev ta σ H (.ref p)) (hx : SqL K H p (bs.map V.bl)) (hb : Ev tb σ H (.bl k)) : Ev (tBM K "list" (rCntB K) ta (tCons tb tNil)) σ H (.int (bs.count k : Nat)) := fun H1 e Q q =>
  ha H1 e _ fun H2 e2 => ⟨Or.inl ⟨rfl, _, ex_l (e.trans e2) hx⟩, hb H2 (e.trans e2) _ fun H3 e3 => ⟨p, bs, k, rfl, rfl, ex_l ((e.trans e2).trans e3) hx, q H3 (e2.trans e3)⟩⟩
theorem ev_notBl {a b : Bool} (ha : Ev ta σ H (.bl a)) (hb : Ev tb σ H (.bl b)) : Ev (tOp rNotB ta tb) σ H (.bl (!decide (a = b))) := ev_op ha hb fun H1 _ _ q => ⟨a, b, rfl, rfl, q H1 (Ex.refl H1)⟩
theorem ev_isBl {a b : Bool} (ha : Ev ta σ H (.bl a)) (hb : Ev tb σ H (.bl b)) : Ev (tOp rIsB ta tb) σ H (.bl (decide (a = b))) := ev_op ha hb fun H1 _ _ q => ⟨a, b, rfl, rfl, q H1 (Ex.refl H1)⟩
theorem ev_maxN {m : Int} (ha : EvL ta σ H (ns.map V.int)) (hm : m ∈ ns) (hb : ∀ y ∈ ns, y ≤ m) : Ev (tCB (rMax K) (tCons ta tNil)) σ H (.int m) := fun H1 e Q q =>
  ha H1 e _ fun p H2 _ e2 h2 => ⟨p, ns, rfl, sq_of h2, List.length_pos_of_mem hm, fun k hk hk2 => by
    have : k = m := Int.le_antisymm (hb k hk) (hk2 m hm)
    rw [this]
    exact q H2 e2⟩
end
end Od

namespace Od
open PySem PySem.Spec PyProof.Rows L2 SX Evl
open PySem.Builtin PySem.Builtin.Str
section
variable {K : PySem.W.Frag} {σ : L2.St} {H H' : Hp} {ta tb tc te tx : TE} {t u : TT} {x y : V} {i j l : Nat} {D : Ends} {tu tw tz : TS} {xs ys : List V} {ns ms : List Int} {p q : Addr}
/-! ## cuts of lists of ints -/
def cutI (ns : List Int) (lo hi : Option Int) : List Int := (ns.drop (HT.sIx ns.length 0 lo)).take (HT.sIx ns.length ns.length hi - HT.sIx ns.length 0 lo)
theorem cut_ints (ns : List Int) (lo hi : Option Int) : cutV (ns.map V.int) lo hi = (cutI ns lo hi).map V.int := by
  unfold cutV cutI
  rw [List.length_map, List.map_take, List.map_drop]
theorem cutI_len (ns : List Int) (lo hi : Option Int) : (cutI ns lo hi).length ≤ ns.length := by
  unfold cutI
  rw [List.length_take, List.length_drop]
  omega
theorem el_cut {tl th : TO} {lo hi : Option Int} (h : Ev te σ H (.ref p)) (h1 : EvO tl σ H lo) (h2 : EvO th σ H hi) (hs : SqL K H p (ns.map V.int)) : EvL (tSl (rSlL K) te tl th) σ H ((cutI ns lo hi).map V.int) := by
  rw [← cut_ints]
  exact el_sl h h1 h2 hs
theorem el_revL (h : Ev te σ H (.ref p)) (hs : SqL K H p (ns.map V.int)) : EvL (tRevL K te) σ H (ns.reverse.map V.int) := fun H1 e Q q =>
  h H1 e _ fun H2 e2 => ⟨p, ns.map V.int, rfl, ex_l (e.trans e2) hs, fun a ha => q a _ (fresh_back e2 ha) (e2.trans (Ex.new ha)) (by rw [upd_same, List.map_reverse])⟩
/-- both bounds within a text -/
theorem ev_slTxt {tl th : TO} {m : List Nat} {a b : Int} (h : Ev te σ H (.str (S m))) (h1 : EvO tl σ H (some a)) (h2 : EvO th σ H (some b)) (ha : 0 ≤ a) (hab : a ≤ b) (hb : b ≤ m.length) (hm : m.length ≤ 100000) : Ev (tSl C8.rSlX te tl th) σ H (.str (S ((m.drop a.toNat).take (b - a).toNat))) := fun H1 e Q q =>
  h H1 e _ fun H2 e2 => h1 H2 (e.trans e2) _ fun H3 e3 => h2 H3 ((e.trans e2).trans e3) _ fun H4 e4 => ⟨S m, rfl, by rw [S_len]; exact sz_of hm, by
    have z := beq_iff_eq.mp (PyProof.Rows.slice_closes (x := S m) (i := a) (j := b) ⟨ha, hab, hb⟩)
    have z2 : Txt.slice (S m) (some a) (some b) = S ((m.drop a.toNat).take (b - a).toNat) := z.trans (TL.ext_tl rfl)
    rw [z2]
    exact q H4 ((e2.trans e3).trans e4)⟩
/-! ## assignments -/
theorem go_par3 {tr : TA} {v w z : V} (h : EvA tr σ H [v, w, z]) (k : Go H (tz D (((σ.set i (some v)).set j (some w)).set l (some z)))) : Go H (tSeq (tPar3 i j l tr) tz D σ) := fun H1 e => h H1 e _ fun H2 e2 => ⟨v, w, z, rfl, k H2 (e.trans e2)⟩
theorem go_par3LL {v : V} (h1 : EvL ta σ H xs) (h2 : EvL tb σ H ys) (h3 : Ev tc σ H v) (k : ∀ p q, H p = none → H q = none → p ≠ q → Go (upd (upd H p (.lst xs)) q (.lst ys)) (tz D (((σ.set i (some (.ref p))).set j (some (.ref q))).set l (some v)))) :
    Go H (tSeq (tPar3 i j l (tCons ta (tCons tb (tCons tc tNil)))) tz D σ) := fun H1 e => h1 H1 e _ fun p H2 hp e2 hp2 => h2 H2 (e.trans e2) _ fun q H3 hq e3 hq3 => h3 H3 ((e.trans e2).trans e3) _ fun H4 e4 => ⟨.ref p, .ref q, v, rfl,
      k p q (fresh_back e hp) (fresh_back (e.trans e2) hq) (ne_of_none hp2 hq) H4 (ex_upd (ex_upd (((e.trans e2).trans e3).trans e4) (e4 _ _ (e3 p _ hp2))) (e4 _ _ hq3))⟩
/-- a list of two new lists -/
theorem go_asgLL (h1 : EvL ta σ H xs) (h2 : EvL tb σ H ys) (k : ∀ p q l, H p = none → H q = none → H l = none → p ≠ q → p ≠ l → q ≠ l → Go (upd (upd (upd H p (.lst xs)) q (.lst ys)) l (.lst [.ref p, .ref q])) (tz D (σ.set i (some (.ref l))))) :
    Go H (tSeq (tAsg (tLst (tCons ta (tCons tb tNil))) (gName i)) tz D σ) := fun H1 e => h1 H1 e _ fun p H2 hp e2 hp2 => h2 H2 (e.trans e2) _ fun q H3 hq e3 hq3 => ⟨sz_of (by simp), fun l hl => by
      have hp3 := e3 p _ hp2
      exact k p q l (fresh_back e hp) (fresh_back (e.trans e2) hq) (fresh_back ((e.trans e2).trans e3) hl) (ne_of_none hp2 hq) (ne_of_none hp3 hl) (ne_of_none hq3 hl) _ (ex_upd2 (ex_upd (ex_upd ((e.trans e2).trans e3) hp3) hq3))⟩
theorem go_clear {l : Addr} (hl : H l = some (.lst xs)) (ha : Ev ta σ H (.ref l)) (k : Go (upd H l (.lst [])) (tz D σ)) : Go H (tSeq (tDrop (tBM0 K "list" rClear ta)) tz D σ) := fun H0 e0 => ha H0 e0 _ fun H1 e1 =>
  ⟨Or.inl ⟨rfl, xs, sq_of (e1 l _ (e0 l _ hl))⟩, l, xs, rfl, rfl, e1 l _ (e0 l _ hl), k _ (ex_upd2 (e0.trans e1))⟩
end
end Od

namespace Od
open PySem PySem.Spec PyProof.Rows L2 SX Evl
/-! ## enumerate(tuple) -/
abbrev tupIt (l : Addr) : Obj := { cls := .type "tuple_iterator", data := .fields #[.ref l, .int 0 0] }
abbrev enumOf (it : Addr) : Obj := { cls := .type "enumerate", data := .fields #[.none, .bool false, .ref it, rawInt 0, .none, .none] }
theorem enum_new_tup (l : Addr) (items : Array Value) (n : Nat) (dct : Option Addr) (sl : Array (Option Value)) :
    Meets (Builtin.«enumerate.__new__» ⟨[.type "enumerate", .ref l], []⟩) (fun _ R s => s.heap.get? l = some { cls := .type "tuple", dict := dct, data := .seq items n, slots := sl } ∧
      R (.ok (.ret (.ref (s.heap.push (tupIt l)).objs.size))) { s with heap := (s.heap.push (tupIt l)).push (enumOf s.heap.objs.size) }) :=
  .of_wp fun prog w A R s hh => by
    obtain ⟨hp, g, d, tk, os⟩ := s
    obtain ⟨hl, h⟩ := hh
    have hT : Heap.IsTuple hp l items := ⟨_, hl, rfl, n, rfl⟩
    have sub0 := sub_enumerate
    wp_walk
    refine wpAny_stack_any fun st => wpAny_pure ?_
    split
    · rename_i c _ _ _ _ _
      cases (c == Value.type "enumerate")
      · wp_walk using wpAny_loadPart' hl, wpAny_pyIter_tuple hT
        exact ⟨_, rfl, h⟩
      · wp_walk using wpAny_loadPart' hl, wpAny_pyIter_tuple hT
        exact ⟨_, rfl, h⟩
    · wp_walk using wpAny_loadPart' hl, wpAny_pyIter_tuple hT
      exact ⟨_, rfl, h⟩
section
variable {prog : Program} {w : World} {A : Around} {E : Value → Shared → Prop} {s : Shared}
theorem call_enum_tup {l : Addr} {items : Array Value} {Q : Value → Shared → Prop} (hT : s.heap.IsTuple l items)
    (h : ∀ h', IsEnum h' (s.heap.objs.size + 1) s.heap.objs.size 0 .none → h'.IsTupleIter s.heap.objs.size l 0 → h'.objs.size = s.heap.objs.size + 2 → (∀ b o, s.heap.get? b = some o → h'.get? b = some o) → Q (.ref (s.heap.objs.size + 1)) { s with heap := h' }) :
    wpAny (model prog w) A (call (.type "enumerate") [.ref l]) Q E s := by
  obtain ⟨⟨c, dct, dt, sl⟩, hl, hc, n, hd⟩ := hT
  simp only at hc hd
  subst hc hd
  refine callType_new F.called_enumerate (by decide) (F.typeCall_enumerate_1 _) (F.newCall_enumerate_1 _) (fun obj => F.args_object_init_2 obj _) F.entry_enumerate_new (enum_new_tup l items n dct sl) ⟨hl, ?_⟩
  have z1 : (s.heap.push (tupIt l)).objs.size = s.heap.objs.size + 1 := Heap.size_push ..
  show _ ∧ _
  rw [z1]
  have at1 : ((s.heap.push (tupIt l)).push (enumOf s.heap.objs.size)).get? (s.heap.objs.size + 1) = some (enumOf s.heap.objs.size) := by
    have q := Heap.get?_push_size (s.heap.push (tupIt l)) (o := enumOf s.heap.objs.size) rfl
    rwa [z1] at q
  exact ⟨⟨_, at1, rfl⟩, h _ at1 ⟨_, Heap.get?_push_of_some _ (Heap.get?_push_size _ rfl), rfl, rfl⟩ (by rw [Heap.size_push, z1]) fun b o x => Heap.get?_push_of_some _ (Heap.get?_push_of_some _ x)⟩
end
/-- the items of a tuple, each in a new pair -/
def ItT (K : PySem.W.Frag) (a : Addr) (xs : List V) : It :=
  ⟨fun i H => SqT K H a xs ∧ i < xs.length, fun i H v H' => ∃ T x, v = .ref T ∧ H T = none ∧ H' = upd H T (.tup [.int (i : Nat), x]) ∧ xs[i]? = some x, fun i H => SqT K H a xs ∧ i = xs.length⟩
theorem turn_enumT {P : Program} {w : World} {K : PySem.W.Frag} {elts : List Expr} {kk : Nat} {tpos : Pos} (a e it : Addr) (xs : List V) :
    Turn P w K (.Tuple elts kk tpos) (ItT K a xs) [e, it] e (fun i h => (∃ old, IsEnum h e it ((i : Nat) : Int) old) ∧ h.IsTupleIter it a i ∧ e ≠ it ∧ a ≠ it ∧ a ≠ e) where
  mem := by simp
  obj := fun i h st b hb => by
    obtain ⟨⟨old, he⟩, ⟨o, ho, hc, hd⟩, _⟩ := st
    have e' : b = e ∨ b = it := by simpa using hb
    rcases e' with z | z
    · rw [z]; exact ⟨_, he, fun v q => nomatch q⟩
    · rw [z]; exact ⟨o, ho, fun v q => by rw [hd] at q; cases q⟩
  keep := fun i h h' st k => let ⟨⟨old, he⟩, hi, hne⟩ := st; ⟨⟨old, k e (by simp) _ he⟩, hi.at fun o q => k it (by simp) o q, hne⟩
  item := by
    intro X hP hw hK hc i pins s σ H E I hf st hg
    subst hP hw hK
    obtain ⟨⟨old, he⟩, hit, hne, hai, hae⟩ := st
    obtain ⟨hq, hi⟩ := hg
    obtain ⟨its, rv, pl, hz⟩ := I.tuple hq
    have hlen := rv.length
    have lt_e : e < s.heap.objs.size := Heap.lt_size he
    have lt_i : it < s.heap.objs.size := by obtain ⟨_, q, _⟩ := hit; exact Heap.lt_size q
    have D := Draws.tuple (prog := X.prog) (w := X.w) (A := X.A.in1) (I.ok.hd hc) it a hai its.toArray
    refine wpAny_pyNext_enum_itemD D he ⟨hit, pl⟩ (by rw [List.size_toArray]; omega) hne (by simp; exact ⟨hne, Ne.symm hae⟩) fun y h' tk hP ho hit' hT hsz hk => ?_
    obtain ⟨x, hx⟩ : ∃ x, xs[i]? = some x := ⟨xs[i], List.getElem?_eq_getElem hi⟩
    obtain ⟨u, hu, ru⟩ := rv.get hx
    have eu : y = u := by
      have z : its[i]? = some y := by simpa using hP
      rw [z] at hu
      exact Option.some.inj hu
    subst eu
    refine ⟨_, rfl, wpAny_letOwnedTupleGo_enum (s := { s with heap := h', toks := tk + 1 }) ho fun h'' he' sb => ?_⟩
    have at2 : h''.get? s.heap.objs.size = some { cls := .type "tuple", data := .seq #[.int i tk, y] } := (sb.2 _ (Nat.ne_of_gt lt_e)).trans hT
    have new : ObjOk X.prog X.w (upd H s.heap.objs.size (.tup [.int (i : Nat), x])) h'' s.heap.objs.size (.tup [.int (i : Nat), x]) :=
      ⟨by show 2 ≤ sizeLine; decide, [.int i tk, y], .cons ⟨_, rfl⟩ (.cons ru .nil), ⟨_, at2, rfl, _, rfl⟩⟩
    have I1 : Inv X pins σ (upd H s.heap.objs.size (.tup [.int (i : Nat), x])) { s with heap := h'', toks := tk + 1 } :=
      I.turnedNew (ch := [e, it]) (fun b ob hb q => (sb.2 b (fun z => hb (by simp [z]))).trans (hk b ob (fun z => hb (by simp [z])) (fun z => hb (by simp [z])) q)) hf (Nat.le_refl _) new
    refine ⟨.ref s.heap.objs.size, _, I1, rfl, ⟨_, x, rfl, I.hok.fresh (Nat.le_refl _), rfl, hx⟩, ⟨⟨y, ?_⟩, ?_, hne, hai, hae⟩, fun b hb => ?_⟩
    · have e1 : ((i + 1 : Nat) : Int) = (i : Int) + 1 := by omega
      rw [e1]; exact he'
    · obtain ⟨o, ho2, r⟩ := hit'.1
      exact ⟨o, (sb.2 it (Ne.symm hne)).trans ho2, r⟩
    · have hb' : b < s.heap.objs.size := by
        have e' : b = e ∨ b = it := by simpa using hb
        rcases e' with z | z
        · rw [z]; exact lt_e
        · rw [z]; exact lt_i
      rw [upd_ne (Nat.ne_of_lt hb')]
      exact (hf b hb).1
  done := by
    intro X hP hw hK hc i pins s σ H E I hf st hg
    subst hP hw hK
    obtain ⟨⟨old, he⟩, hit, hne, hai, hae⟩ := st
    obtain ⟨hq, hi⟩ := hg
    obtain ⟨its, rv, pl, hz⟩ := I.tuple hq
    have hlen := rv.length
    obtain ⟨f0, f1, f2, f3, f4, f5⟩ := hf it (by simp)
    have D := Draws.tuple (prog := X.prog) (w := X.w) (A := X.A.in1) (I.ok.hd hc) it a hai its.toArray
    have ei : i = its.toArray.size := by rw [List.size_toArray]; omega
    rw [ei] at hit
    exact wpAny_pyNext_enum_endD D he ⟨hit, pl⟩ fun h' eb => ⟨rfl, I.turned (t' := s.toks) (fun b o hb q => eb b o hb q) f0 f1 f3 f4 f5⟩
  self := fun A i s Q E st h => let ⟨⟨_, he⟩, _⟩ := st; wpAny_pyIter_enum he h
section
variable {X : Cx}
def iEnumT (K : PySem.W.Frag) (ta : TA) : TI := fun σ H R => ta σ H fun vs H1 => ∃ a xs, vs = [.ref a] ∧ SqT K H1 a xs ∧ R (ItT K a xs) H1
theorem pi_enumT {e : Expr} {ta : TA} {p pos tpos : Pos} {elts : List Expr} {kk : Nat} (hg : Gl X "enumerate") (hm : X.mg "enumerate" = none) (ha : PA X [e] ta) (hs : starEach [e] X.env = [(false, eval e X.env)] := by rfl) :
    PI X (.Tuple elts kk tpos) (.Call (.Name "enumerate" p) [e] [] pos) (iEnumT X.K ta) := by
  refine ⟨fun pins s σ H R I h => ?_⟩
  refine Call_ (ld_blt I hg hm boot_enumerate (PyProof.Rows.callWith_type1 (thn (ha.run pos pins s σ H _ I h) fun us s1 ⟨vs, H1, I1, r1, q1⟩ => ?_) hs rfl))
  obtain ⟨a, xs, ex, hq, q⟩ := q1
  subst ex
  cases r1 with
  | cons r rr =>
    cases rr
    cases r
    obtain ⟨its, rv, pl, hz⟩ := I1.tuple hq
    have lt_a : a < s1.heap.objs.size := by obtain ⟨_, z, _⟩ := pl; exact Heap.lt_size z
    refine call_enum_tup pl fun h' he hit hsz hk => wpAny_pyIter_enum he ?_
    have I2 : Inv X pins σ H1 { s1 with heap := h' } := I1.kept (t' := s1.toks) hk
    refine ⟨s1.heap.objs.size + 1, [s1.heap.objs.size + 1, s1.heap.objs.size], _, _, H1, rfl, I2, turn_enumT (P := X.prog) (w := X.w) (K := X.K) (elts := elts) (kk := kk) (tpos := tpos) a (s1.heap.objs.size + 1) s1.heap.objs.size xs, ⟨⟨.none, he⟩, hit, Nat.succ_ne_self _, Nat.ne_of_lt lt_a, Nat.ne_of_lt (Nat.lt_succ_of_lt lt_a)⟩, fun b hb => ?_, q⟩
    have e' : b = s1.heap.objs.size + 1 ∨ b = s1.heap.objs.size := by simpa using hb
    have hle : s1.heap.objs.size ≤ b := by
      rcases e' with z | z
      · rw [z]; exact Nat.le_succ _
      · rw [z]; exact Nat.le_refl _
    exact I1.fpOk hle (I1.hok.fresh hle)
end
section
variable {K : PySem.W.Frag} {σ : L2.St} {H : Hp} {D : Ends} {tu tz : TS} {xs : List V}
theorem walk_enumT {a : Addr} : Walk (ItT K a xs) xs.length (fun H => SqT K H a xs) (YPair (fun i => some (.int (i : Nat))) (fun i => xs[i]?)) :=
  ⟨fun i H hi hq => ⟨hq, hi⟩, fun H hq => ⟨hq, rfl⟩, fun i H x H' hi hq ⟨T, y, e1, e2, e3, e4⟩ => ⟨T, .int (i : Nat), y, e1, e2, e3, rfl, e4⟩⟩
/-- for i, x in enumerate(the tuple just written) -/
theorem go_forET {te : TE} {j1 j2 : Nat} (P : Addr → Nat → L2.St → Hp → Prop) (h : EvU te σ H xs) (h0 : ∀ p, H p = none → P p 0 σ (upd H p (.tup xs))) (hl : ∀ p i σ' Hk, P p i σ' Hk → Hk p = some (.tup xs))
    (hs : ∀ p i x σ' Hk, xs[i]? = some x → P p i σ' Hk → Go Hk (tu { D with nx := Up (P p (i + 1)), ct := Up (P p (i + 1)), bk := tz D } ((σ'.set j1 (some (.int (i : Nat)))).set j2 (some x)))) (hd : ∀ p σ' Hk, P p xs.length σ' Hk → Go Hk (tz D σ')) :
    Go H (tSeq (tFor (iEnumT K (tCons te tNil)) (gTup K 2 (gCons (gName j1) (gCons (gName j2) gNil))) tu) tz D σ) := fun H0 e0 => h H0 e0 _ fun p H1 hp e hp1 => ⟨p, xs, rfl, st_of hp1,
      for_it (D := { D with nx := tz D }) walk_enumT (fun i => Up (P p i)) ⟨_, h0 p (fresh_back e0 hp), ex_upd (e0.trans e) hp1⟩ (fun i σ' H' _ ⟨Hk, q, ek⟩ => ex_t ek (st_of (hl p i σ' Hk q))) (fun i x σ' H' H'' hi ⟨Hk, q, ek⟩ yy => by
        obtain ⟨T, u, v, ev, hT, eH, e1, e2⟩ := yy
        have e1 := Option.some.inj e1
        subst ev eH e1
        exact ⟨T, _, rfl, st_of upd_same, rfl, _, _, rfl, _, _, rfl, rfl, hs p i _ σ' Hk e2 q _ (ek.trans (Ex.new hT))⟩) (fun σ' H' ⟨Hk, q, ek⟩ => hd p σ' Hk q H' ek)⟩
end
end Od

namespace Od
open PySem PySem.Spec PyProof.Rows L2 SX Evl
/-! ## defs that may raise: the exception's context is None -/
abbrev CXn (P : Program) (w : World) : CXT := L2N.CX P w
def S1x (R : V → Hp → VK → XK → Prop) : Sp := fun vs H Q E => ∃ a, vs = [a] ∧ R a H Q E
def S2x (R : V → V → Hp → VK → XK → Prop) : Sp := fun vs H Q E => ∃ a b, vs = [a, b] ∧ R a b H Q E
def S3x (R : V → V → V → Hp → VK → XK → Prop) : Sp := fun vs H Q E => ∃ a b c, vs = [a, b, c] ∧ R a b c H Q E
def S4x (R : V → V → V → V → Hp → VK → XK → Prop) : Sp := fun vs H Q E => ∃ a b c d, vs = [a, b, c, d] ∧ R a b c d H Q E
def S5x (R : V → V → V → V → V → Hp → VK → XK → Prop) : Sp := fun vs H Q E => ∃ a b c d e, vs = [a, b, c, d, e] ∧ R a b c d e H Q E
theorem lenx1 {R : V → Hp → VK → XK → Prop} (vs : List V) (H : Hp) (Q : VK) (E : XK) (h : S1x R vs H Q E) : vs.length = 1 := by
  obtain ⟨a, rfl, _⟩ := h
  rfl
theorem lenx2 {R : V → V → Hp → VK → XK → Prop} (vs : List V) (H : Hp) (Q : VK) (E : XK) (h : S2x R vs H Q E) : vs.length = 2 := by
  obtain ⟨a, b, rfl, _⟩ := h
  rfl
theorem lenx3 {R : V → V → V → Hp → VK → XK → Prop} (vs : List V) (H : Hp) (Q : VK) (E : XK) (h : S3x R vs H Q E) : vs.length = 3 := by
  obtain ⟨a, b, c, rfl, _⟩ := h
  rfl
theorem lenx4 {R : V → V → V → V → Hp → VK → XK → Prop} (vs : List V) (H : Hp) (Q : VK) (E : XK) (h : S4x R vs H Q E) : vs.length = 4 := by
  obtain ⟨a, b, c, d, rfl, _⟩ := h
  rfl
theorem lenx5 {R : V → V → V → V → V → Hp → VK → XK → Prop} (vs : List V) (H : Hp) (Q : VK) (E : XK) (h : S5x R vs H Q E) : vs.length = 5 := by
  obtain ⟨a, b, c, d, e, rfl, _⟩ := h
  rfl
/-- ends in a value, or raises a class -/
inductive Res where
  | val (z : V) | exc (C : Addr)
def ends (r : Res) (H : Hp) (Q : VK) (E : XK) : Prop := match r with
  | .val z => Go H (Q z)
  | .exc C => Go H (E (.ref C) none)
theorem ends.mono {r : Res} {H H1 : Hp} {Q : VK} {E : XK} (h : ends r H Q E) (e : Ex H H1) : ends r H1 Q E := by
  cases r with
  | val z => exact Go.mono (p := Q z) h e
  | exc C => exact Go.mono (p := E (.ref C) none) h e
/-- so it ends, called -/
def SpE (sp : Sp) (vs : List V) (H : Hp) (r : Res) : Prop := ∀ H1, Ex H H1 → ∀ Q E, ends r H1 Q E → sp vs H1 Q E
theorem SpE.mono {sp : Sp} {vs : List V} {H H1 : Hp} {r : Res} (h : SpE sp vs H r) (e : Ex H H1) : SpE sp vs H1 r := fun H2 e2 => h H2 (e.trans e2)
theorem calx_mk {P : Program} {w : World} {K : PySem.W.Frag} {mg : Str → Option Value} {base : Heap} {x : Str} {st : Stmt} {f : Addr} {N ps : List Str} {k : Nat} {sp : Sp} (F : ∃ fd, FunD K x x (defArgs st) (defBody st) (defScope st) [] [] f fd) (g : mg x = some (.ref f)) (S : FnScope N ps (defScope st))
    (b : ∀ (kV doc pm : Value) (an : Option Addr) (cdv ct : Value) (us : List Value), us.length = ps.length → bindArgs (PySem.W.fnOf x x (defArgs st) (defBody st) (defScope st) .none kV doc pm an cdv ct) ⟨us, []⟩ = pure (ps.zip us))
    (len : ∀ vs H Q E, sp vs H Q E → vs.length = ps.length)
    (body : ∀ (cdv : Value) (A : Around) (outer : List Env) (s : Shared) (H : Hp) (vs : List V) (Q : VK) (E : XK), Room k (A.deeper (envOfC x (defScope st) s.heap.objs.size f cdv)) → sp vs H Q E →
      ∃ t, PSs (cxOf (CXn P w) P w K mg base N x (defScope st) f cdv A outer s H E) (defBody st) t ∧ Go H (t { nx := fun _ H' => Q .non H', rt := Q } (start N vs))) : Cal (CXn P w) P w K mg base (k + 1) x sp := by
  obtain ⟨fd, F⟩ := F
  refine ⟨f, fd, ps, F.ok S len (fun cdv A outer s H vs Q E hr hsp => ?_), g, F.kp, F.bindsN b⟩
  obtain ⟨t, h, q⟩ := body cdv A outer s H vs Q E hr hsp
  exact ⟨t, h, q.here⟩
section
variable {X : Cx} {k j : Nat} {C : Addr} {x m : Str} {sp : Sp} {p pos apos : Pos} {e o : Expr} {es : List Expr} {ta : TE} {t : TA}
theorem pe_kx {W : WX} (c : Cal (CXn X.prog X.w) X.prog X.w X.K X.mg X.base k x sp) (hr : Room j X.A) (hk : k ≤ j) (hg : Gl X x) (tk : L2N.Takes X W) (ha : PA X (e :: es) t)
    (hdb : (x == ("__debug__" : Str)) = false := by decide) (he : starEach (e :: es) X.env = (false, eval e X.env) :: starEach es X.env := by rfl) (hpl : (backTo pos (starEach es X.env)).any (·.1) = false := by rfl) :
    PE X (.Call (.Name x p) (e :: es) [] pos) (tCallS sp (WE W) t) := by
  obtain ⟨f, fd, ps, F, hm, kp, b⟩ := c.ex
  exact pe_callS F (hr.mono hk) hg hm kp b (fun σ => L2N.passAt tk σ) ha hdb he hpl
end
section
variable {K : PySem.W.Frag} {σ : L2.St} {H H' : Hp} {ta : TA} {vs : List V} {sp : Sp} {E : L2.St → XK} {D : Ends} {tz : TS} {i : Nat} {z : V}
/-- a call that does not raise here -/
theorem ev_callX (h : EvA ta σ H vs) (hs : SpE sp vs H (.val z)) : Ev (tCallS sp E ta) σ H z := fun H1 e Q q => h H1 e _ fun H2 e2 => hs H2 (e.trans e2) Q (E σ) fun H3 e3 => q H3 (e2.trans e3)
theorem go_retX {r : Res} (h : EvA ta σ H vs) (hs : SpE sp vs H r) (k : ends r H D.rt (E σ)) : Go H (tSeq (tRet (tCallS sp E ta)) tz D σ) := fun H1 e => h H1 e _ fun H2 e2 => hs H2 (e.trans e2) _ _ (k.mono (e.trans e2))
theorem go_dropX {r : Res} (h : EvA ta σ H vs) (hs : SpE sp vs H r) (k : ends r H (fun _ H2 => tz D σ H2) (E σ)) : Go H (tSeq (tDrop (tCallS sp E ta)) tz D σ) := fun H1 e => h H1 e _ fun H2 e2 => hs H2 (e.trans e2) _ _ (k.mono (e.trans e2))
theorem go_asgX {r : Res} (h : EvA ta σ H vs) (hs : SpE sp vs H r) (k : ends r H (fun v H2 => tz D (σ.set i (some v)) H2) (E σ)) : Go H (tSeq (tAsg (tCallS sp E ta) (gName i)) tz D σ) := fun H1 e => h H1 e _ fun H2 e2 => hs H2 (e.trans e2) _ _ (k.mono (e.trans e2))
theorem go_raise {W : WX} {C : Addr} (k : Go H (fun H1 => W (.ref C) none σ H1)) : Go H (tSeq (fun (_ : Ends) (σ : L2.St) (H : Hp) => (fun (_ : L2.St) (H : Hp) (Q : XK) => Q (.ref C) none H) σ H fun cls d H' => W cls d σ H') tz D σ) := k
end
/-! ## within an except suite -/
theorem hot_of {X : Cx} {a : Addr} {oe : Obj} {pn : List (Addr × Obj)} {cls : Value} {d : Option Addr} (hz : L2N.Zn cls d oe) (hf : ∃ vs, oe.data = .fields vs) : L2H.HotC (X.suite a ((a, oe) :: pn)) := by
  obtain ⟨vs, hv⟩ := hf
  exact ⟨(a, oe), ⟨rfl, vs, hv, hz.2.2 vs hv⟩, List.mem_cons_self⟩
/-- isinstance(e, c), e the exception that the suite holds, of whatever class -/
def rIsX (K : PySem.W.Frag) (a : Addr) (cls : Value) (d : Option Addr) : List V → Hp → VK → Prop := fun xs H Q => ∃ D, cls = .ref D ∧ d = none ∧ ExcC K D ∧ rIsE K D a xs H Q
theorem call_isX {X : Cx} {a : Addr} {oe : Obj} {pn : List (Addr × Obj)} {cls : Value} {d : Option Addr} (K : PySem.W.Frag) (hz : L2N.Zn cls d oe) (hf : ∃ vs, oe.data = .fields vs) (hK : X.K = K := by rfl) : CallR (X.suite a ((a, oe) :: pn)) (.builtin "isinstance") (rIsX K a cls d) := by
  subst hK
  intro pins s σ H xs us Q I r h
  obtain ⟨D, rfl, rfl, C, q⟩ := h
  exact call_isE C hz.zc hf pins s σ H xs us Q I r q
theorem ev_isX {K : PySem.W.Frag} {σ : L2.St} {H : Hp} {ta tb : TE} {a D : Addr} {c : V} {uu : Value} {bb : Bool} (ha : Ev ta σ H (.ref a)) (hb : Ev tb σ H c) (hc : ClsV c uu) (C : ExcC K D) (hk : PySem.W.kitOne K (.ref D) uu = some bb) :
    Ev (tCB (rIsX K a (.ref D) none) (tCons ta (tCons tb tNil))) σ H (.bl bb) := fun H1 e Q q =>
  ha H1 e _ fun H2 e2 => hb H2 (e.trans e2) _ fun H3 e3 => ⟨D, rfl, rfl, C, c, uu, bb, rfl, fun u r => hc.eq r, hk, q H3 (e2.trans e3)⟩
end Od

namespace Od
open PySem PySem.Spec PyProof.Rows L2 SX Evl HotX
/-! ## any(list of bools) while an exception is handled -/
/-- the handled exception's object, its context None -/
def HotOb (x1 : Addr) (h : Heap) : Prop := ∃ (o : Obj) (vs : Array Value), h.get? x1 = some o ∧ o.data = .fields vs ∧ vs[2]? = some .none
section
variable {prog : Program} {w : World} {A : Around} {E : Value → Shared → Prop} {s : Shared}
theorem list_end_hot {it l x1 : Addr} {i : Nat} {items : Array Value} {Q : Option Value → Shared → Prop} (quiet : A.handled = some (.ref x1)) (hot : HotOb x1 s.heap) (apart : x1 ≠ it) (hit : s.heap.IsListIter it l i) (hl : s.heap.IsList l items) (none1 : items[i]? = none)
    (go : ∀ h', (∀ b o, b ≠ it → s.heap.get? b = some o → h'.get? b = some o) → Q none { s with heap := h' }) : wpAny (model prog w) A (pyNext (.ref it)) Q E s := by
  obtain ⟨o, ho, hc, hd⟩ := id hit
  obtain ⟨ol, hol, _, nl, hdl⟩ := hl
  obtain ⟨o1, vs1, h1, d1, c1⟩ := hot
  have up0 : ∀ b ob, b ≠ it → s.heap.get? b = some ob → ∀ f, (s.heap.update it f).get? b = some ob := fun b ob hb e f => by
    rw [Heap.get?_update_other _ _ (Ne.symm hb)]
    exact e
  unfold pyNext
  refine wpAny_bind (wpAny_attempt (wpAny_callSpecial?_slot (name := Str.ofString "__next__") hit.typeIs slot_listiter_next (wpAny_call_entry slot_listiter_next hit.typeIs entry_listiter_next (show wpAny _ _ (field (.ref it) 0 >>= _) _ _ s from ?_) (args_listiter_next _))))
  refine wpAny_bind (wpAny_field ho hd (x := .ref l) rfl (show wpAny _ _ (if (Value.ref l == Value.none) = true then _ else _) _ _ s from ?_))
  rw [if_neg (by exact Bool.false_ne_true)]
  refine (show wpAny _ _ (field (.ref it) 1 >>= _) _ _ s from wpAny_bind (wpAny_field ho hd (x := .int i 0) rfl ?_))
  refine (show wpAny _ _ (seqItems? (.ref l) >>= _) _ _ s from wpAny_bind (wpAny_seqItems hol hdl ?_))
  simp only [Int.toNat_natCast, none1]
  refine wpAny_bind (wpAny_rule (wpAny_bind (wpAny_setField ho hd (by simp) (show wpAny _ _ (newExc (.type "StopIteration") [] >>= _) _ _ _ from wpAny_bind ?_))))
  simp only [newExc, newTuple]
  refine wpAny_bind (wpAny_newObj_type ?_ (by size_fits))
  refine wpAny_bind (m := firstArgMember _ _) (wpAny_of_eq (a := Value.none) (by first | rfl | (simp only [firstArgMember]; rfl)) (wpAny_newObj_type ?_ (by size_fits)))
  have k1 := up0 _ _ apart h1
  refine raiseNew_hot ⟨quiet, o1, vs1, Heap.get?_push_of_some _ (Heap.get?_push_of_some _ (k1 _)), d1, c1⟩ (Nat.ne_of_lt (Heap.lt_size (Heap.get?_push_of_some _ (k1 _)))) (Heap.get?_push_size _ rfl) rfl (by first | (simp; done) | (simp; omega) | (simp only [Array.size_append]; simp; omega)) ?_
  refine wpAny_bind (wpAny_isInstance (T := "StopIteration") (b := true) ⟨_, Heap.get?_update_self _ (Heap.get?_push_size _ rfl) rfl, rfl⟩ isSubtype_stop ?_)
  refine wpAny_pure (go _ fun b ob hb e => ?_)
  have k2 := up0 _ _ hb e
  rw [Heap.get?_update_other _ _ (Nat.ne_of_gt (Heap.lt_size (Heap.get?_push_of_some _ (k2 _))))]
  exact Heap.get?_push_of_some _ (Heap.get?_push_of_some _ (k2 _))
theorem walks_hot (x1 : Addr) (quiet : A.handled = some (.ref x1)) (I ax : Addr) (hne : ax ≠ I) (apart : x1 ≠ I) (items : Array Value) :
    Walks prog w A I [I, ax, x1] [I] items.size (fun i v => items[i]? = some v) (fun i h => h.IsListIter I ax i ∧ h.IsList ax items ∧ HotOb x1 h) where
  sub := fun b hb => by simp at hb; simp [hb]
  frame := fun _ _ _ st hk => ⟨st.1.at fun o e => hk I (by simp) o e, st.2.1.at fun o e => hk ax (by simp) o e, by
    obtain ⟨o, vs, a, b⟩ := st.2.2
    exact ⟨o, vs, hk x1 (by simp) o a, b⟩⟩
  item := fun i s Q E hi st hQ => by
    refine wpAny_pyNext_list_item st.1 st.2.1 (x := items[i]) (by simp [hi]) fun h' hit' hs' => ?_
    obtain ⟨o, vs, a, b⟩ := st.2.2
    exact hQ _ h' s.toks (by simp [hi]) ⟨hit', st.2.1.extBut hs'.extBut hne, o, vs, hs'.extBut x1 o apart a, b⟩ fun b o hb e => hs'.extBut b o (fun h => hb (by simp [h])) e
  done := fun s Q E st hQ => list_end_hot quiet st.2.2 apart st.1 st.2.1 (by simp) fun h' he' => hQ h' s.toks fun b o hb e => he' b o (fun h => hb (by simp [h])) e
  self := fun _ _ _ _ st hQ => wpAny_pyIter_listiter st.1 hQ
end
theorem cr_anyH {X : Cx} (K : PySem.W.Frag) (hot : L2H.HotC X) (hK : X.K = K := by rfl) : CallR X (.builtin "any") (rAny K) := by
  subst hK
  intro pins s σ H vs us Q I r h
  obtain ⟨a, bs, rfl, hs, q⟩ := h
  obtain ⟨its, rv, hl, _⟩ := I.list hs
  obtain ⟨x1, quiet, o1, v1, at1, f1, c1⟩ := hot.at I
  rw [Vals.ref1 r]
  have hb := rv.bls
  have lt1 : x1 < s.heap.objs.size := Heap.lt_size at1
  refine call_any_walk (iter_any hl.isList fun s₂ e2 st hne => ?_)
  subst e2
  refine ⟨_, _, _, _, _, _, _, rfl, walks_hot (A := X.A.in1) x1 quiet _ a hne (Nat.ne_of_lt lt1) its.toArray, ⟨st.1, st.2, o1, v1, Heap.get?_push_of_some _ at1, f1, c1⟩, truth_bools hb, fun h' tk hk => ?_⟩
  refine ⟨.bl _, H, I.kept fun b o eo => hk b o (fun hmem => ?_) (Heap.get?_push_of_some _ eo), ?_, q⟩
  · exact absurd (List.mem_singleton.mp hmem ▸ Heap.lt_size eo) (Nat.lt_irrefl _)
  · show Value.bool _ = Value.bool _
    rw [← L2.any_range, hb, List.size_toArray, List.length_map]
theorem takesN0 {X : Cx} : L2N.Takes X (fun _ _ _ _ => False) := fun _ _ x => by
  obtain ⟨_, _, _, _, _, _, _, _, _, _, _, _, _, _, _, _, z⟩ := x
  exact z.elim
end Od

namespace Od
open PySem PySem.Spec PyProof.Rows L2 SX Evl
/-! the text by places, as linked for this law: printed by gen.py -/
def topS (i : Nat) : Stmt := PySem.Challenge.pw_oddcoin_k03_weighings.main.body.getD i (.Pass ⟨0, 0, 0, 0⟩)
abbrev s_is_whole : Stmt := topS 10
abbrev s_check_marks : Stmt := topS 11
abbrev s_is_side : Stmt := topS 14
abbrev s_is_weighing : Stmt := topS 15
abbrev s_check_weighing : Stmt := topS 16
abbrev s_left_over : Stmt := topS 17
abbrev s_sides_of : Stmt := topS 18
abbrev s_behind_of : Stmt := topS 19
abbrev s_many_behind : Stmt := topS 20
abbrev s_behind : Stmt := topS 21
abbrev s_judged : Stmt := topS 22
abbrev s_weighed : Stmt := topS 23
abbrev s_law_cell_at : Stmt := topS 25
abbrev s_law_draw : Stmt := topS 26
abbrev s_law_marks : Stmt := topS 27
abbrev s_law_cases : Stmt := topS 28
abbrev s_law_weighing : Stmt := topS 29
abbrev s_law_behind : Stmt := topS 30
abbrev s_law_left : Stmt := topS 31
abbrev s_law_power : Stmt := topS 32
abbrev s_law_whole : Stmt := topS 33
abbrev s_law_told : Stmt := topS 34
abbrev s_law_sides : Stmt := topS 35
abbrev s_law_right : Stmt := topS 36
abbrev s_law_cases_right : Stmt := topS 37
abbrev s_law : Stmt := topS 38
theorem k_empty : ("" : Str) = S [] := by decide +kernel
theorem k_hb278cde28a : ("coins of which all may be, and others" : Str) = S [99, 111, 105, 110, 115, 32, 111, 102, 32, 119, 104, 105, 99, 104, 32, 97, 108, 108, 32, 109, 97, 121, 32, 98, 101, 44, 32, 97, 110, 100, 32, 111, 116, 104, 101, 114, 115] := by decide +kernel
theorem k_e : ("e" : Str) = S [101] := by decide +kernel
theorem k_eeeg : ("eeeg" : Str) = S [101, 101, 101, 103] := by decide +kernel
theorem k_eg : ("eg" : Str) = S [101, 103] := by decide +kernel
theorem k_eh : ("eh" : Str) = S [101, 104] := by decide +kernel
theorem k_ehlg : ("ehlg" : Str) = S [101, 104, 108, 103] := by decide +kernel
theorem k_el : ("el" : Str) = S [101, 108] := by decide +kernel
theorem k_even : ("even" : Str) = S [101, 118, 101, 110] := by decide +kernel
theorem k_g : ("g" : Str) = S [103] := by decide +kernel
theorem k_gggl : ("gggl" : Str) = S [103, 103, 103, 108] := by decide +kernel
theorem k_h : ("h" : Str) = S [104] := by decide +kernel
theorem k_hhhl : ("hhhl" : Str) = S [104, 104, 104, 108] := by decide +kernel
theorem k_hlg : ("hlg" : Str) = S [104, 108, 103] := by decide +kernel
theorem k_it_20_can_27_t_20_come : ("it can't come" : Str) = S [105, 116, 32, 99, 97, 110, 39, 116, 32, 99, 111, 109, 101] := by decide +kernel
theorem k_l : ("l" : Str) = S [108] := by decide +kernel
theorem k_left : ("left" : Str) = S [108, 101, 102, 116] := by decide +kernel
theorem k_never : ("never" : Str) = S [110, 101, 118, 101, 114] := by decide +kernel
theorem k_no_20_marks : ("no marks" : Str) = S [110, 111, 32, 109, 97, 114, 107, 115] := by decide +kernel
theorem k_no_20_outcome : ("no outcome" : Str) = S [110, 111, 32, 111, 117, 116, 99, 111, 109, 101] := by decide +kernel
theorem k_no_20_such_20_coins : ("no such coins" : Str) = S [110, 111, 32, 115, 117, 99, 104, 32, 99, 111, 105, 110, 115] := by decide +kernel
theorem k_no_20_weighing : ("no weighing" : Str) = S [110, 111, 32, 119, 101, 105, 103, 104, 105, 110, 103] := by decide +kernel
theorem k_other : ("other" : Str) = S [111, 116, 104, 101, 114] := by decide +kernel
theorem k_right : ("right" : Str) = S [114, 105, 103, 104, 116] := by decide +kernel
theorem sc_is_whole : FnScope ["thing"] ["thing"] (defScope s_is_whole) := ⟨rfl, rfl, rfl, by decide +kernel, rfl, by decide +kernel, by decide +kernel⟩
theorem sc_check_marks : FnScope ["marks", "sign"] ["marks"] (defScope s_check_marks) := ⟨rfl, rfl, rfl, by decide +kernel, rfl, by decide +kernel, by decide +kernel⟩
theorem sc_is_side : FnScope ["thing", "coins", "coin", "last"] ["thing", "coins"] (defScope s_is_side) := ⟨rfl, rfl, rfl, by decide +kernel, rfl, by decide +kernel, by decide +kernel⟩
theorem sc_is_weighing : FnScope ["coins", "left", "right", "coin"] ["coins", "left", "right"] (defScope s_is_weighing) := ⟨rfl, rfl, rfl, by decide +kernel, rfl, by decide +kernel, by decide +kernel⟩
theorem sc_check_weighing : FnScope ["coins", "left", "right"] ["coins", "left", "right"] (defScope s_check_weighing) := ⟨rfl, rfl, rfl, by decide +kernel, rfl, by decide +kernel, by decide +kernel⟩
theorem sc_left_over : FnScope ["sign", "side", "outcome"] ["sign", "side", "outcome"] (defScope s_left_over) := ⟨rfl, rfl, rfl, by decide +kernel, rfl, by decide +kernel, by decide +kernel⟩
theorem sc_sides_of : FnScope ["coins", "left", "right", "outcome", "found", "down", "up", "coin"] ["coins", "left", "right", "outcome"] (defScope s_sides_of) := ⟨rfl, rfl, rfl, by decide +kernel, rfl, by decide +kernel, by decide +kernel⟩
theorem sc_behind_of : FnScope ["marks", "left", "right", "outcome", "sides", "coin", "sign"] ["marks", "left", "right", "outcome"] (defScope s_behind_of) := ⟨rfl, rfl, rfl, by decide +kernel, rfl, by decide +kernel, by decide +kernel⟩
theorem sc_many_behind : FnScope ["marks", "left", "right", "outcome", "found", "many"] ["marks", "left", "right", "outcome"] (defScope s_many_behind) := ⟨rfl, rfl, rfl, by decide +kernel, rfl, by decide +kernel, by decide +kernel⟩
theorem sc_behind : FnScope ["marks", "left", "right", "outcome"] ["marks", "left", "right", "outcome"] (defScope s_behind) := ⟨rfl, rfl, rfl, by decide +kernel, rfl, by decide +kernel, by decide +kernel⟩
theorem sc_judged : FnScope ["marks", "left", "right", "outcome"] ["marks", "left", "right"] (defScope s_judged) := ⟨rfl, rfl, rfl, by decide +kernel, rfl, by decide +kernel, by decide +kernel⟩
theorem sc_weighed : FnScope ["coins", "odd", "heavy", "left", "right"] ["coins", "odd", "heavy", "left", "right"] (defScope s_weighed) := ⟨rfl, rfl, rfl, by decide +kernel, rfl, by decide +kernel, by decide +kernel⟩
theorem sc_law_cell_at : FnScope ["_law_script", "_law_k"] ["_law_script", "_law_k"] (defScope s_law_cell_at) := ⟨rfl, rfl, rfl, by decide +kernel, rfl, by decide +kernel, by decide +kernel⟩
theorem sc_law_draw : FnScope ["_law_cell", "_law_k", "_law_many", "_law_primes"] ["_law_cell", "_law_k", "_law_many"] (defScope s_law_draw) := ⟨rfl, rfl, rfl, by decide +kernel, rfl, by decide +kernel, by decide +kernel⟩
theorem sc_law_marks : FnScope ["_law_script", "_law_kind", "_law_signs", "_law_k"] ["_law_script"] (defScope s_law_marks) := ⟨rfl, rfl, rfl, by decide +kernel, rfl, by decide +kernel, by decide +kernel⟩
theorem sc_law_cases : FnScope ["_law_marks_here", "_law_many"] ["_law_marks_here"] (defScope s_law_cases) := ⟨rfl, rfl, rfl, by decide +kernel, rfl, by decide +kernel, by decide +kernel⟩
theorem sc_law_weighing : FnScope ["_law_coins", "_law_left_here", "_law_right_here", "_law_side", "_law_coin"] ["_law_coins", "_law_left_here", "_law_right_here"] (defScope s_law_weighing) := ⟨rfl, rfl, rfl, by decide +kernel, rfl, by decide +kernel, by decide +kernel⟩
theorem sc_law_behind : FnScope ["_law_marks_here", "_law_left_here", "_law_right_here", "_law_outcome", "_law_found", "_law_coin", "_law_sign", "_law_side"] ["_law_marks_here", "_law_left_here", "_law_right_here", "_law_outcome"] (defScope s_law_behind) := ⟨rfl, rfl, rfl, by decide +kernel, rfl, by decide +kernel, by decide +kernel⟩
theorem sc_law_left : FnScope ["_law_marks_here", "_law_left_here", "_law_right_here", "_law_found", "_law_outcome", "_law_after", "_law_many"] ["_law_marks_here", "_law_left_here", "_law_right_here"] (defScope s_law_left) := ⟨rfl, rfl, rfl, by decide +kernel, rfl, by decide +kernel, by decide +kernel⟩
theorem sc_law_power : FnScope ["_law_many", "_law_found", "_law_turn"] ["_law_many"] (defScope s_law_power) := ⟨rfl, rfl, rfl, by decide +kernel, rfl, by decide +kernel, by decide +kernel⟩
theorem sc_law_whole : FnScope ["_law_number"] ["_law_number"] (defScope s_law_whole) := ⟨rfl, rfl, rfl, by decide +kernel, rfl, by decide +kernel, by decide +kernel⟩
theorem sc_law_told : FnScope ["_law_marks_here", "_law_left_here", "_law_right_here", "_law_outcome", "error", "_law_others"] ["_law_marks_here", "_law_left_here", "_law_right_here", "_law_outcome"] (defScope s_law_told) := ⟨rfl, rfl, rfl, by decide +kernel, rfl, by decide +kernel, by decide +kernel⟩
theorem sc_law_sides : FnScope ["_law_script", "_law_by", "_law_coins", "_law_left_here", "_law_right_here", "_law_coin", "_law_side", "_law_many"] ["_law_script", "_law_by", "_law_coins"] (defScope s_law_sides) := ⟨rfl, rfl, rfl, by decide +kernel, rfl, by decide +kernel, by decide +kernel⟩
theorem sc_law_right : FnScope ["_law_marks_here", "_law_left_here", "_law_right_here", "_law_handed", "_law_due", "_law_found", "_law_one", "_law_k", "_law_outcome", "_law_after"] ["_law_marks_here", "_law_left_here", "_law_right_here"] (defScope s_law_right) := ⟨rfl, rfl, rfl, by decide +kernel, rfl, by decide +kernel, by decide +kernel⟩
theorem sc_law_cases_right : FnScope ["_law_marks_here", "_law_left_here", "_law_right_here", "_law_coins", "_law_coin", "_law_sign", "_law_heavy", "_law_outcome", "_law_after"] ["_law_marks_here", "_law_left_here", "_law_right_here"] (defScope s_law_cases_right) := ⟨rfl, rfl, rfl, by decide +kernel, rfl, by decide +kernel, by decide +kernel⟩
theorem sc_law : FnScope ["_law_script", "_law_marks_here", "_law_by", "_law_left_here", "_law_right_here"] ["_law_script"] (defScope s_law) := ⟨rfl, rfl, rfl, by decide +kernel, rfl, by decide +kernel, by decide +kernel⟩
/-! what the top leaves: asked of the heap by one run -/
def d_is_whole : He.DefD := ⟨("is_whole", none), "is_whole", "is_whole", defArgs s_is_whole, defBody s_is_whole, defScope s_is_whole, [], []⟩
def d_check_marks : He.DefD := ⟨("check_marks", none), "check_marks", "check_marks", defArgs s_check_marks, defBody s_check_marks, defScope s_check_marks, [], []⟩
def d_is_side : He.DefD := ⟨("is_side", none), "is_side", "is_side", defArgs s_is_side, defBody s_is_side, defScope s_is_side, [], []⟩
def d_is_weighing : He.DefD := ⟨("is_weighing", none), "is_weighing", "is_weighing", defArgs s_is_weighing, defBody s_is_weighing, defScope s_is_weighing, [], []⟩
def d_check_weighing : He.DefD := ⟨("check_weighing", none), "check_weighing", "check_weighing", defArgs s_check_weighing, defBody s_check_weighing, defScope s_check_weighing, [], []⟩
def d_left_over : He.DefD := ⟨("left_over", none), "left_over", "left_over", defArgs s_left_over, defBody s_left_over, defScope s_left_over, [], []⟩
def d_sides_of : He.DefD := ⟨("sides_of", none), "sides_of", "sides_of", defArgs s_sides_of, defBody s_sides_of, defScope s_sides_of, [], []⟩
def d_behind_of : He.DefD := ⟨("behind_of", none), "behind_of", "behind_of", defArgs s_behind_of, defBody s_behind_of, defScope s_behind_of, [], []⟩
def d_many_behind : He.DefD := ⟨("many_behind", none), "many_behind", "many_behind", defArgs s_many_behind, defBody s_many_behind, defScope s_many_behind, [], []⟩
def d_behind : He.DefD := ⟨("behind", none), "behind", "behind", defArgs s_behind, defBody s_behind, defScope s_behind, [], []⟩
def d_judged : He.DefD := ⟨("judged", none), "judged", "judged", defArgs s_judged, defBody s_judged, defScope s_judged, [], []⟩
def d_weighed : He.DefD := ⟨("weighed", none), "weighed", "weighed", defArgs s_weighed, defBody s_weighed, defScope s_weighed, [], []⟩
def d_law_cell_at : He.DefD := ⟨("_law_cell_at", none), "_law_cell_at", "_law_cell_at", defArgs s_law_cell_at, defBody s_law_cell_at, defScope s_law_cell_at, [], []⟩
def d_law_draw : He.DefD := ⟨("_law_draw", none), "_law_draw", "_law_draw", defArgs s_law_draw, defBody s_law_draw, defScope s_law_draw, [], []⟩
def d_law_marks : He.DefD := ⟨("_law_marks", none), "_law_marks", "_law_marks", defArgs s_law_marks, defBody s_law_marks, defScope s_law_marks, [], []⟩
def d_law_cases : He.DefD := ⟨("_law_cases", none), "_law_cases", "_law_cases", defArgs s_law_cases, defBody s_law_cases, defScope s_law_cases, [], []⟩
def d_law_weighing : He.DefD := ⟨("_law_weighing", none), "_law_weighing", "_law_weighing", defArgs s_law_weighing, defBody s_law_weighing, defScope s_law_weighing, [], []⟩
def d_law_behind : He.DefD := ⟨("_law_behind", none), "_law_behind", "_law_behind", defArgs s_law_behind, defBody s_law_behind, defScope s_law_behind, [], []⟩
def d_law_left : He.DefD := ⟨("_law_left", none), "_law_left", "_law_left", defArgs s_law_left, defBody s_law_left, defScope s_law_left, [], []⟩
def d_law_power : He.DefD := ⟨("_law_power", none), "_law_power", "_law_power", defArgs s_law_power, defBody s_law_power, defScope s_law_power, [], []⟩
def d_law_whole : He.DefD := ⟨("_law_whole", none), "_law_whole", "_law_whole", defArgs s_law_whole, defBody s_law_whole, defScope s_law_whole, [], []⟩
def d_law_told : He.DefD := ⟨("_law_told", none), "_law_told", "_law_told", defArgs s_law_told, defBody s_law_told, defScope s_law_told, [], []⟩
def d_law_sides : He.DefD := ⟨("_law_sides", none), "_law_sides", "_law_sides", defArgs s_law_sides, defBody s_law_sides, defScope s_law_sides, [], []⟩
def d_law_right : He.DefD := ⟨("_law_right", none), "_law_right", "_law_right", defArgs s_law_right, defBody s_law_right, defScope s_law_right, [], []⟩
def d_law_cases_right : He.DefD := ⟨("_law_cases_right", none), "_law_cases_right", "_law_cases_right", defArgs s_law_cases_right, defBody s_law_cases_right, defScope s_law_cases_right, [], []⟩
def d_law : He.DefD := ⟨("law", none), "law", "law", defArgs s_law, defBody s_law, defScope s_law, [], []⟩
def fns : List He.DefD := [d_is_whole, d_check_marks, d_is_side, d_is_weighing, d_check_weighing, d_left_over, d_sides_of, d_behind_of, d_many_behind, d_behind, d_judged, d_weighed, d_law_cell_at, d_law_draw, d_law_marks, d_law_cases, d_law_weighing, d_law_behind, d_law_left, d_law_power, d_law_whole, d_law_told, d_law_sides, d_law_right, d_law_cases_right, d_law]
def fas : List He.Fa := [.glo "is_whole",
  .glo "check_marks",
  .glo "is_side",
  .glo "is_weighing",
  .glo "check_weighing",
  .glo "left_over",
  .glo "sides_of",
  .glo "behind_of",
  .glo "many_behind",
  .glo "behind",
  .glo "judged",
  .glo "weighed",
  .glo "_law_cell_at",
  .glo "_law_draw",
  .glo "_law_marks",
  .glo "_law_cases",
  .glo "_law_weighing",
  .glo "_law_behind",
  .glo "_law_left",
  .glo "_law_power",
  .glo "_law_whole",
  .glo "_law_told",
  .glo "_law_sides",
  .glo "_law_right",
  .glo "_law_cases_right",
  .glo "law",
  .free "ValueError",
  .free "all",
  .free "any",
  .free "bool",
  .free "enumerate",
  .free "int",
  .free "isinstance",
  .free "len",
  .free "list",
  .free "max",
  .free "min",
  .free "range",
  .free "set",
  .free "sorted",
  .free "str",
  .free "tuple",
  .str "SIGNS" "ehlg",
  .glo "OUTCOMES",
  .glo "CoinError",
  .exc "CoinError",
  .glo "BadMarks",
  .exc "BadMarks",
  .glo "BadWeighing",
  .exc "BadWeighing",
  .glo "BadOutcome",
  .exc "BadOutcome",
  .glo "Never",
  .exc "Never",
  .glo "BadCoin",
  .exc "BadCoin",
  .glo "BadText",
  .exc "BadText"]
def exs (K : PySem.W.Frag) : List Bool := [He.lstB K "OUTCOMES" [.str "left", .str "right", .str "even"],
  decide (PySem.W.exmOne K (.ref (He.ga K "BadMarks")) (.ref (He.ga K "CoinError")) = some true),
  decide (PySem.W.kitOne K (.ref (He.ga K "BadMarks")) (.ref (He.ga K "CoinError")) = some true),
  decide (PySem.W.kitOne K (.ref (He.ga K "BadMarks")) (.ref (He.ga K "BadMarks")) = some true),
  decide (PySem.W.exmOne K (.ref (He.ga K "BadMarks")) (.ref (He.ga K "BadWeighing")) = some false),
  decide (PySem.W.kitOne K (.ref (He.ga K "BadMarks")) (.ref (He.ga K "BadWeighing")) = some false),
  decide (PySem.W.kitOne K (.ref (He.ga K "BadMarks")) (.ref (He.ga K "BadOutcome")) = some false),
  decide (PySem.W.kitOne K (.ref (He.ga K "BadMarks")) (.ref (He.ga K "Never")) = some false),
  decide (PySem.W.kitOne K (.ref (He.ga K "BadMarks")) (.ref (He.ga K "BadCoin")) = some false),
  decide (PySem.W.kitOne K (.ref (He.ga K "BadMarks")) (.ref (He.ga K "BadText")) = some false),
  decide (PySem.W.kitOne K (.ref (He.ga K "BadMarks")) (.type "ValueError") = some true),
  excCB K (He.ga K "BadMarks"),
  decide (PySem.W.exmOne K (.ref (He.ga K "BadWeighing")) (.ref (He.ga K "CoinError")) = some true),
  decide (PySem.W.kitOne K (.ref (He.ga K "BadWeighing")) (.ref (He.ga K "CoinError")) = some true),
  decide (PySem.W.kitOne K (.ref (He.ga K "BadWeighing")) (.ref (He.ga K "BadMarks")) = some false),
  decide (PySem.W.exmOne K (.ref (He.ga K "BadWeighing")) (.ref (He.ga K "BadWeighing")) = some true),
  decide (PySem.W.kitOne K (.ref (He.ga K "BadWeighing")) (.ref (He.ga K "BadWeighing")) = some true),
  decide (PySem.W.kitOne K (.ref (He.ga K "BadWeighing")) (.ref (He.ga K "BadOutcome")) = some false),
  decide (PySem.W.kitOne K (.ref (He.ga K "BadWeighing")) (.ref (He.ga K "Never")) = some false),
  decide (PySem.W.kitOne K (.ref (He.ga K "BadWeighing")) (.ref (He.ga K "BadCoin")) = some false),
  decide (PySem.W.kitOne K (.ref (He.ga K "BadWeighing")) (.ref (He.ga K "BadText")) = some false),
  decide (PySem.W.kitOne K (.ref (He.ga K "BadWeighing")) (.type "ValueError") = some true),
  excCB K (He.ga K "BadWeighing"),
  decide (PySem.W.exmOne K (.ref (He.ga K "BadOutcome")) (.ref (He.ga K "CoinError")) = some true),
  decide (PySem.W.kitOne K (.ref (He.ga K "BadOutcome")) (.ref (He.ga K "CoinError")) = some true),
  decide (PySem.W.kitOne K (.ref (He.ga K "BadOutcome")) (.ref (He.ga K "BadMarks")) = some false),
  decide (PySem.W.exmOne K (.ref (He.ga K "BadOutcome")) (.ref (He.ga K "BadWeighing")) = some false),
  decide (PySem.W.kitOne K (.ref (He.ga K "BadOutcome")) (.ref (He.ga K "BadWeighing")) = some false),
  decide (PySem.W.kitOne K (.ref (He.ga K "BadOutcome")) (.ref (He.ga K "BadOutcome")) = some true),
  decide (PySem.W.kitOne K (.ref (He.ga K "BadOutcome")) (.ref (He.ga K "Never")) = some false),
  decide (PySem.W.kitOne K (.ref (He.ga K "BadOutcome")) (.ref (He.ga K "BadCoin")) = some false),
  decide (PySem.W.kitOne K (.ref (He.ga K "BadOutcome")) (.ref (He.ga K "BadText")) = some false),
  decide (PySem.W.kitOne K (.ref (He.ga K "BadOutcome")) (.type "ValueError") = some true),
  excCB K (He.ga K "BadOutcome"),
  decide (PySem.W.exmOne K (.ref (He.ga K "Never")) (.ref (He.ga K "CoinError")) = some true),
  decide (PySem.W.kitOne K (.ref (He.ga K "Never")) (.ref (He.ga K "CoinError")) = some true),
  decide (PySem.W.kitOne K (.ref (He.ga K "Never")) (.ref (He.ga K "BadMarks")) = some false),
  decide (PySem.W.exmOne K (.ref (He.ga K "Never")) (.ref (He.ga K "BadWeighing")) = some false),
  decide (PySem.W.kitOne K (.ref (He.ga K "Never")) (.ref (He.ga K "BadWeighing")) = some false),
  decide (PySem.W.kitOne K (.ref (He.ga K "Never")) (.ref (He.ga K "BadOutcome")) = some false),
  decide (PySem.W.kitOne K (.ref (He.ga K "Never")) (.ref (He.ga K "Never")) = some true),
  decide (PySem.W.kitOne K (.ref (He.ga K "Never")) (.ref (He.ga K "BadCoin")) = some false),
  decide (PySem.W.kitOne K (.ref (He.ga K "Never")) (.ref (He.ga K "BadText")) = some false),
  decide (PySem.W.kitOne K (.ref (He.ga K "Never")) (.type "ValueError") = some true),
  excCB K (He.ga K "Never"),
  decide (PySem.W.exmOne K (.ref (He.ga K "BadCoin")) (.ref (He.ga K "CoinError")) = some true),
  decide (PySem.W.kitOne K (.ref (He.ga K "BadCoin")) (.ref (He.ga K "CoinError")) = some true),
  decide (PySem.W.kitOne K (.ref (He.ga K "BadCoin")) (.ref (He.ga K "BadMarks")) = some false),
  decide (PySem.W.exmOne K (.ref (He.ga K "BadCoin")) (.ref (He.ga K "BadWeighing")) = some false),
  decide (PySem.W.kitOne K (.ref (He.ga K "BadCoin")) (.ref (He.ga K "BadWeighing")) = some false),
  decide (PySem.W.kitOne K (.ref (He.ga K "BadCoin")) (.ref (He.ga K "BadOutcome")) = some false),
  decide (PySem.W.kitOne K (.ref (He.ga K "BadCoin")) (.ref (He.ga K "Never")) = some false),
  decide (PySem.W.kitOne K (.ref (He.ga K "BadCoin")) (.ref (He.ga K "BadCoin")) = some true),
  decide (PySem.W.kitOne K (.ref (He.ga K "BadCoin")) (.ref (He.ga K "BadText")) = some false),
  decide (PySem.W.kitOne K (.ref (He.ga K "BadCoin")) (.type "ValueError") = some true),
  excCB K (He.ga K "BadCoin"),
  decide (PySem.W.exmOne K (.ref (He.ga K "BadText")) (.ref (He.ga K "CoinError")) = some true),
  decide (PySem.W.kitOne K (.ref (He.ga K "BadText")) (.ref (He.ga K "CoinError")) = some true),
  decide (PySem.W.kitOne K (.ref (He.ga K "BadText")) (.ref (He.ga K "BadMarks")) = some false),
  decide (PySem.W.exmOne K (.ref (He.ga K "BadText")) (.ref (He.ga K "BadWeighing")) = some false),
  decide (PySem.W.kitOne K (.ref (He.ga K "BadText")) (.ref (He.ga K "BadWeighing")) = some false),
  decide (PySem.W.kitOne K (.ref (He.ga K "BadText")) (.ref (He.ga K "BadOutcome")) = some false),
  decide (PySem.W.kitOne K (.ref (He.ga K "BadText")) (.ref (He.ga K "Never")) = some false),
  decide (PySem.W.kitOne K (.ref (He.ga K "BadText")) (.ref (He.ga K "BadCoin")) = some false),
  decide (PySem.W.kitOne K (.ref (He.ga K "BadText")) (.ref (He.ga K "BadText")) = some true),
  decide (PySem.W.kitOne K (.ref (He.ga K "BadText")) (.type "ValueError") = some true),
  excCB K (He.ga K "BadText")]
structure Txt (K : PySem.W.Frag) (mg : Str → Option Value) : Prop where
  f_is_whole : ∃ fd, FunD K "is_whole" "is_whole" (defArgs s_is_whole) (defBody s_is_whole) (defScope s_is_whole) [] [] (He.ga K "is_whole") fd
  f_check_marks : ∃ fd, FunD K "check_marks" "check_marks" (defArgs s_check_marks) (defBody s_check_marks) (defScope s_check_marks) [] [] (He.ga K "check_marks") fd
  f_is_side : ∃ fd, FunD K "is_side" "is_side" (defArgs s_is_side) (defBody s_is_side) (defScope s_is_side) [] [] (He.ga K "is_side") fd
  f_is_weighing : ∃ fd, FunD K "is_weighing" "is_weighing" (defArgs s_is_weighing) (defBody s_is_weighing) (defScope s_is_weighing) [] [] (He.ga K "is_weighing") fd
  f_check_weighing : ∃ fd, FunD K "check_weighing" "check_weighing" (defArgs s_check_weighing) (defBody s_check_weighing) (defScope s_check_weighing) [] [] (He.ga K "check_weighing") fd
  f_left_over : ∃ fd, FunD K "left_over" "left_over" (defArgs s_left_over) (defBody s_left_over) (defScope s_left_over) [] [] (He.ga K "left_over") fd
  f_sides_of : ∃ fd, FunD K "sides_of" "sides_of" (defArgs s_sides_of) (defBody s_sides_of) (defScope s_sides_of) [] [] (He.ga K "sides_of") fd
  f_behind_of : ∃ fd, FunD K "behind_of" "behind_of" (defArgs s_behind_of) (defBody s_behind_of) (defScope s_behind_of) [] [] (He.ga K "behind_of") fd
  f_many_behind : ∃ fd, FunD K "many_behind" "many_behind" (defArgs s_many_behind) (defBody s_many_behind) (defScope s_many_behind) [] [] (He.ga K "many_behind") fd
  f_behind : ∃ fd, FunD K "behind" "behind" (defArgs s_behind) (defBody s_behind) (defScope s_behind) [] [] (He.ga K "behind") fd
  f_judged : ∃ fd, FunD K "judged" "judged" (defArgs s_judged) (defBody s_judged) (defScope s_judged) [] [] (He.ga K "judged") fd
  f_weighed : ∃ fd, FunD K "weighed" "weighed" (defArgs s_weighed) (defBody s_weighed) (defScope s_weighed) [] [] (He.ga K "weighed") fd
  f_law_cell_at : ∃ fd, FunD K "_law_cell_at" "_law_cell_at" (defArgs s_law_cell_at) (defBody s_law_cell_at) (defScope s_law_cell_at) [] [] (He.ga K "_law_cell_at") fd
  f_law_draw : ∃ fd, FunD K "_law_draw" "_law_draw" (defArgs s_law_draw) (defBody s_law_draw) (defScope s_law_draw) [] [] (He.ga K "_law_draw") fd
  f_law_marks : ∃ fd, FunD K "_law_marks" "_law_marks" (defArgs s_law_marks) (defBody s_law_marks) (defScope s_law_marks) [] [] (He.ga K "_law_marks") fd
  f_law_cases : ∃ fd, FunD K "_law_cases" "_law_cases" (defArgs s_law_cases) (defBody s_law_cases) (defScope s_law_cases) [] [] (He.ga K "_law_cases") fd
  f_law_weighing : ∃ fd, FunD K "_law_weighing" "_law_weighing" (defArgs s_law_weighing) (defBody s_law_weighing) (defScope s_law_weighing) [] [] (He.ga K "_law_weighing") fd
  f_law_behind : ∃ fd, FunD K "_law_behind" "_law_behind" (defArgs s_law_behind) (defBody s_law_behind) (defScope s_law_behind) [] [] (He.ga K "_law_behind") fd
  f_law_left : ∃ fd, FunD K "_law_left" "_law_left" (defArgs s_law_left) (defBody s_law_left) (defScope s_law_left) [] [] (He.ga K "_law_left") fd
  f_law_power : ∃ fd, FunD K "_law_power" "_law_power" (defArgs s_law_power) (defBody s_law_power) (defScope s_law_power) [] [] (He.ga K "_law_power") fd
  f_law_whole : ∃ fd, FunD K "_law_whole" "_law_whole" (defArgs s_law_whole) (defBody s_law_whole) (defScope s_law_whole) [] [] (He.ga K "_law_whole") fd
  f_law_told : ∃ fd, FunD K "_law_told" "_law_told" (defArgs s_law_told) (defBody s_law_told) (defScope s_law_told) [] [] (He.ga K "_law_told") fd
  f_law_sides : ∃ fd, FunD K "_law_sides" "_law_sides" (defArgs s_law_sides) (defBody s_law_sides) (defScope s_law_sides) [] [] (He.ga K "_law_sides") fd
  f_law_right : ∃ fd, FunD K "_law_right" "_law_right" (defArgs s_law_right) (defBody s_law_right) (defScope s_law_right) [] [] (He.ga K "_law_right") fd
  f_law_cases_right : ∃ fd, FunD K "_law_cases_right" "_law_cases_right" (defArgs s_law_cases_right) (defBody s_law_cases_right) (defScope s_law_cases_right) [] [] (He.ga K "_law_cases_right") fd
  f_law : ∃ fd, FunD K "law" "law" (defArgs s_law) (defBody s_law) (defScope s_law) [] [] (He.ga K "law") fd
  g_is_whole : mg "is_whole" = some (.ref (He.ga K "is_whole"))
  g_check_marks : mg "check_marks" = some (.ref (He.ga K "check_marks"))
  g_is_side : mg "is_side" = some (.ref (He.ga K "is_side"))
  g_is_weighing : mg "is_weighing" = some (.ref (He.ga K "is_weighing"))
  g_check_weighing : mg "check_weighing" = some (.ref (He.ga K "check_weighing"))
  g_left_over : mg "left_over" = some (.ref (He.ga K "left_over"))
  g_sides_of : mg "sides_of" = some (.ref (He.ga K "sides_of"))
  g_behind_of : mg "behind_of" = some (.ref (He.ga K "behind_of"))
  g_many_behind : mg "many_behind" = some (.ref (He.ga K "many_behind"))
  g_behind : mg "behind" = some (.ref (He.ga K "behind"))
  g_judged : mg "judged" = some (.ref (He.ga K "judged"))
  g_weighed : mg "weighed" = some (.ref (He.ga K "weighed"))
  g_law_cell_at : mg "_law_cell_at" = some (.ref (He.ga K "_law_cell_at"))
  g_law_draw : mg "_law_draw" = some (.ref (He.ga K "_law_draw"))
  g_law_marks : mg "_law_marks" = some (.ref (He.ga K "_law_marks"))
  g_law_cases : mg "_law_cases" = some (.ref (He.ga K "_law_cases"))
  g_law_weighing : mg "_law_weighing" = some (.ref (He.ga K "_law_weighing"))
  g_law_behind : mg "_law_behind" = some (.ref (He.ga K "_law_behind"))
  g_law_left : mg "_law_left" = some (.ref (He.ga K "_law_left"))
  g_law_power : mg "_law_power" = some (.ref (He.ga K "_law_power"))
  g_law_whole : mg "_law_whole" = some (.ref (He.ga K "_law_whole"))
  g_law_told : mg "_law_told" = some (.ref (He.ga K "_law_told"))
  g_law_sides : mg "_law_sides" = some (.ref (He.ga K "_law_sides"))
  g_law_right : mg "_law_right" = some (.ref (He.ga K "_law_right"))
  g_law_cases_right : mg "_law_cases_right" = some (.ref (He.ga K "_law_cases_right"))
  g_law : mg "law" = some (.ref (He.ga K "law"))
  n_ValueError : mg "ValueError" = none
  n_all : mg "all" = none
  n_any : mg "any" = none
  n_bool : mg "bool" = none
  n_enumerate : mg "enumerate" = none
  n_int : mg "int" = none
  n_isinstance : mg "isinstance" = none
  n_len : mg "len" = none
  n_list : mg "list" = none
  n_max : mg "max" = none
  n_min : mg "min" = none
  n_range : mg "range" = none
  n_set : mg "set" = none
  n_sorted : mg "sorted" = none
  n_str : mg "str" = none
  n_tuple : mg "tuple" = none
  c_SIGNS : ∃ t, mg "SIGNS" = some (.str "ehlg" t)
  g_OUTCOMES : mg "OUTCOMES" = some (.ref (He.ga K "OUTCOMES"))
  g_CoinError : mg "CoinError" = some (.ref (He.ga K "CoinError"))
  x_CoinError : PySem.W.excIn K (He.ga K "CoinError") He.veBase "ValueError.__new__" = true ∧ PySem.W.keepIn K (.ref (He.ga K "CoinError")) = true ∧ PySem.W.subIn K (.ref (He.ga K "CoinError")) (.type "BaseException") = some true ∧ PySem.W.typeIn K (.ref (He.ga K "CoinError")) = some (.type "type")
  g_BadMarks : mg "BadMarks" = some (.ref (He.ga K "BadMarks"))
  x_BadMarks : PySem.W.excIn K (He.ga K "BadMarks") He.veBase "ValueError.__new__" = true ∧ PySem.W.keepIn K (.ref (He.ga K "BadMarks")) = true ∧ PySem.W.subIn K (.ref (He.ga K "BadMarks")) (.type "BaseException") = some true ∧ PySem.W.typeIn K (.ref (He.ga K "BadMarks")) = some (.type "type")
  g_BadWeighing : mg "BadWeighing" = some (.ref (He.ga K "BadWeighing"))
  x_BadWeighing : PySem.W.excIn K (He.ga K "BadWeighing") He.veBase "ValueError.__new__" = true ∧ PySem.W.keepIn K (.ref (He.ga K "BadWeighing")) = true ∧ PySem.W.subIn K (.ref (He.ga K "BadWeighing")) (.type "BaseException") = some true ∧ PySem.W.typeIn K (.ref (He.ga K "BadWeighing")) = some (.type "type")
  g_BadOutcome : mg "BadOutcome" = some (.ref (He.ga K "BadOutcome"))
  x_BadOutcome : PySem.W.excIn K (He.ga K "BadOutcome") He.veBase "ValueError.__new__" = true ∧ PySem.W.keepIn K (.ref (He.ga K "BadOutcome")) = true ∧ PySem.W.subIn K (.ref (He.ga K "BadOutcome")) (.type "BaseException") = some true ∧ PySem.W.typeIn K (.ref (He.ga K "BadOutcome")) = some (.type "type")
  g_Never : mg "Never" = some (.ref (He.ga K "Never"))
  x_Never : PySem.W.excIn K (He.ga K "Never") He.veBase "ValueError.__new__" = true ∧ PySem.W.keepIn K (.ref (He.ga K "Never")) = true ∧ PySem.W.subIn K (.ref (He.ga K "Never")) (.type "BaseException") = some true ∧ PySem.W.typeIn K (.ref (He.ga K "Never")) = some (.type "type")
  g_BadCoin : mg "BadCoin" = some (.ref (He.ga K "BadCoin"))
  x_BadCoin : PySem.W.excIn K (He.ga K "BadCoin") He.veBase "ValueError.__new__" = true ∧ PySem.W.keepIn K (.ref (He.ga K "BadCoin")) = true ∧ PySem.W.subIn K (.ref (He.ga K "BadCoin")) (.type "BaseException") = some true ∧ PySem.W.typeIn K (.ref (He.ga K "BadCoin")) = some (.type "type")
  g_BadText : mg "BadText" = some (.ref (He.ga K "BadText"))
  x_BadText : PySem.W.excIn K (He.ga K "BadText") He.veBase "ValueError.__new__" = true ∧ PySem.W.keepIn K (.ref (He.ga K "BadText")) = true ∧ PySem.W.subIn K (.ref (He.ga K "BadText")) (.type "BaseException") = some true ∧ PySem.W.typeIn K (.ref (He.ga K "BadText")) = some (.type "type")
  l_OUTCOMES : ∀ H : Hp, SqL K H (He.ga K "OUTCOMES") [.str "left", .str "right", .str "even"]
  e_BadMarks_CoinError : PySem.W.exmOne K (.ref (He.ga K "BadMarks")) (.ref (He.ga K "CoinError")) = some true
  t_BadMarks_CoinError : PySem.W.kitOne K (.ref (He.ga K "BadMarks")) (.ref (He.ga K "CoinError")) = some true
  t_BadMarks_BadMarks : PySem.W.kitOne K (.ref (He.ga K "BadMarks")) (.ref (He.ga K "BadMarks")) = some true
  e_BadMarks_BadWeighing : PySem.W.exmOne K (.ref (He.ga K "BadMarks")) (.ref (He.ga K "BadWeighing")) = some false
  t_BadMarks_BadWeighing : PySem.W.kitOne K (.ref (He.ga K "BadMarks")) (.ref (He.ga K "BadWeighing")) = some false
  t_BadMarks_BadOutcome : PySem.W.kitOne K (.ref (He.ga K "BadMarks")) (.ref (He.ga K "BadOutcome")) = some false
  t_BadMarks_Never : PySem.W.kitOne K (.ref (He.ga K "BadMarks")) (.ref (He.ga K "Never")) = some false
  t_BadMarks_BadCoin : PySem.W.kitOne K (.ref (He.ga K "BadMarks")) (.ref (He.ga K "BadCoin")) = some false
  t_BadMarks_BadText : PySem.W.kitOne K (.ref (He.ga K "BadMarks")) (.ref (He.ga K "BadText")) = some false
  t_BadMarks_ValueError : PySem.W.kitOne K (.ref (He.ga K "BadMarks")) (.type "ValueError") = some true
  ec_BadMarks : L2.ExcC K (He.ga K "BadMarks")
  e_BadWeighing_CoinError : PySem.W.exmOne K (.ref (He.ga K "BadWeighing")) (.ref (He.ga K "CoinError")) = some true
  t_BadWeighing_CoinError : PySem.W.kitOne K (.ref (He.ga K "BadWeighing")) (.ref (He.ga K "CoinError")) = some true
  t_BadWeighing_BadMarks : PySem.W.kitOne K (.ref (He.ga K "BadWeighing")) (.ref (He.ga K "BadMarks")) = some false
  e_BadWeighing_BadWeighing : PySem.W.exmOne K (.ref (He.ga K "BadWeighing")) (.ref (He.ga K "BadWeighing")) = some true
  t_BadWeighing_BadWeighing : PySem.W.kitOne K (.ref (He.ga K "BadWeighing")) (.ref (He.ga K "BadWeighing")) = some true
  t_BadWeighing_BadOutcome : PySem.W.kitOne K (.ref (He.ga K "BadWeighing")) (.ref (He.ga K "BadOutcome")) = some false
  t_BadWeighing_Never : PySem.W.kitOne K (.ref (He.ga K "BadWeighing")) (.ref (He.ga K "Never")) = some false
  t_BadWeighing_BadCoin : PySem.W.kitOne K (.ref (He.ga K "BadWeighing")) (.ref (He.ga K "BadCoin")) = some false
  t_BadWeighing_BadText : PySem.W.kitOne K (.ref (He.ga K "BadWeighing")) (.ref (He.ga K "BadText")) = some false
  t_BadWeighing_ValueError : PySem.W.kitOne K (.ref (He.ga K "BadWeighing")) (.type "ValueError") = some true
  ec_BadWeighing : L2.ExcC K (He.ga K "BadWeighing")
  e_BadOutcome_CoinError : PySem.W.exmOne K (.ref (He.ga K "BadOutcome")) (.ref (He.ga K "CoinError")) = some true
  t_BadOutcome_CoinError : PySem.W.kitOne K (.ref (He.ga K "BadOutcome")) (.ref (He.ga K "CoinError")) = some true
  t_BadOutcome_BadMarks : PySem.W.kitOne K (.ref (He.ga K "BadOutcome")) (.ref (He.ga K "BadMarks")) = some false
  e_BadOutcome_BadWeighing : PySem.W.exmOne K (.ref (He.ga K "BadOutcome")) (.ref (He.ga K "BadWeighing")) = some false
  t_BadOutcome_BadWeighing : PySem.W.kitOne K (.ref (He.ga K "BadOutcome")) (.ref (He.ga K "BadWeighing")) = some false
  t_BadOutcome_BadOutcome : PySem.W.kitOne K (.ref (He.ga K "BadOutcome")) (.ref (He.ga K "BadOutcome")) = some true
  t_BadOutcome_Never : PySem.W.kitOne K (.ref (He.ga K "BadOutcome")) (.ref (He.ga K "Never")) = some false
  t_BadOutcome_BadCoin : PySem.W.kitOne K (.ref (He.ga K "BadOutcome")) (.ref (He.ga K "BadCoin")) = some false
  t_BadOutcome_BadText : PySem.W.kitOne K (.ref (He.ga K "BadOutcome")) (.ref (He.ga K "BadText")) = some false
  t_BadOutcome_ValueError : PySem.W.kitOne K (.ref (He.ga K "BadOutcome")) (.type "ValueError") = some true
  ec_BadOutcome : L2.ExcC K (He.ga K "BadOutcome")
  e_Never_CoinError : PySem.W.exmOne K (.ref (He.ga K "Never")) (.ref (He.ga K "CoinError")) = some true
  t_Never_CoinError : PySem.W.kitOne K (.ref (He.ga K "Never")) (.ref (He.ga K "CoinError")) = some true
  t_Never_BadMarks : PySem.W.kitOne K (.ref (He.ga K "Never")) (.ref (He.ga K "BadMarks")) = some false
  e_Never_BadWeighing : PySem.W.exmOne K (.ref (He.ga K "Never")) (.ref (He.ga K "BadWeighing")) = some false
  t_Never_BadWeighing : PySem.W.kitOne K (.ref (He.ga K "Never")) (.ref (He.ga K "BadWeighing")) = some false
  t_Never_BadOutcome : PySem.W.kitOne K (.ref (He.ga K "Never")) (.ref (He.ga K "BadOutcome")) = some false
  t_Never_Never : PySem.W.kitOne K (.ref (He.ga K "Never")) (.ref (He.ga K "Never")) = some true
  t_Never_BadCoin : PySem.W.kitOne K (.ref (He.ga K "Never")) (.ref (He.ga K "BadCoin")) = some false
  t_Never_BadText : PySem.W.kitOne K (.ref (He.ga K "Never")) (.ref (He.ga K "BadText")) = some false
  t_Never_ValueError : PySem.W.kitOne K (.ref (He.ga K "Never")) (.type "ValueError") = some true
  ec_Never : L2.ExcC K (He.ga K "Never")
  e_BadCoin_CoinError : PySem.W.exmOne K (.ref (He.ga K "BadCoin")) (.ref (He.ga K "CoinError")) = some true
  t_BadCoin_CoinError : PySem.W.kitOne K (.ref (He.ga K "BadCoin")) (.ref (He.ga K "CoinError")) = some true
  t_BadCoin_BadMarks : PySem.W.kitOne K (.ref (He.ga K "BadCoin")) (.ref (He.ga K "BadMarks")) = some false
  e_BadCoin_BadWeighing : PySem.W.exmOne K (.ref (He.ga K "BadCoin")) (.ref (He.ga K "BadWeighing")) = some false
  t_BadCoin_BadWeighing : PySem.W.kitOne K (.ref (He.ga K "BadCoin")) (.ref (He.ga K "BadWeighing")) = some false
  t_BadCoin_BadOutcome : PySem.W.kitOne K (.ref (He.ga K "BadCoin")) (.ref (He.ga K "BadOutcome")) = some false
  t_BadCoin_Never : PySem.W.kitOne K (.ref (He.ga K "BadCoin")) (.ref (He.ga K "Never")) = some false
  t_BadCoin_BadCoin : PySem.W.kitOne K (.ref (He.ga K "BadCoin")) (.ref (He.ga K "BadCoin")) = some true
  t_BadCoin_BadText : PySem.W.kitOne K (.ref (He.ga K "BadCoin")) (.ref (He.ga K "BadText")) = some false
  t_BadCoin_ValueError : PySem.W.kitOne K (.ref (He.ga K "BadCoin")) (.type "ValueError") = some true
  ec_BadCoin : L2.ExcC K (He.ga K "BadCoin")
  e_BadText_CoinError : PySem.W.exmOne K (.ref (He.ga K "BadText")) (.ref (He.ga K "CoinError")) = some true
  t_BadText_CoinError : PySem.W.kitOne K (.ref (He.ga K "BadText")) (.ref (He.ga K "CoinError")) = some true
  t_BadText_BadMarks : PySem.W.kitOne K (.ref (He.ga K "BadText")) (.ref (He.ga K "BadMarks")) = some false
  e_BadText_BadWeighing : PySem.W.exmOne K (.ref (He.ga K "BadText")) (.ref (He.ga K "BadWeighing")) = some false
  t_BadText_BadWeighing : PySem.W.kitOne K (.ref (He.ga K "BadText")) (.ref (He.ga K "BadWeighing")) = some false
  t_BadText_BadOutcome : PySem.W.kitOne K (.ref (He.ga K "BadText")) (.ref (He.ga K "BadOutcome")) = some false
  t_BadText_Never : PySem.W.kitOne K (.ref (He.ga K "BadText")) (.ref (He.ga K "Never")) = some false
  t_BadText_BadCoin : PySem.W.kitOne K (.ref (He.ga K "BadText")) (.ref (He.ga K "BadCoin")) = some false
  t_BadText_BadText : PySem.W.kitOne K (.ref (He.ga K "BadText")) (.ref (He.ga K "BadText")) = some true
  t_BadText_ValueError : PySem.W.kitOne K (.ref (He.ga K "BadText")) (.type "ValueError") = some true
  ec_BadText : L2.ExcC K (He.ga K "BadText")
theorem txt_of {K : PySem.W.Frag} {h : Heap} {mg : Str → Option Value} (X : K.In h) (G : h.Ns mainGlobals mg) (c : SaysQ fas fns exs K) : Txt K mg where
  f_is_whole := c.1.def_ 0 (d := d_is_whole) rfl
  f_check_marks := c.1.def_ 1 (d := d_check_marks) rfl
  f_is_side := c.1.def_ 2 (d := d_is_side) rfl
  f_is_weighing := c.1.def_ 3 (d := d_is_weighing) rfl
  f_check_weighing := c.1.def_ 4 (d := d_check_weighing) rfl
  f_left_over := c.1.def_ 5 (d := d_left_over) rfl
  f_sides_of := c.1.def_ 6 (d := d_sides_of) rfl
  f_behind_of := c.1.def_ 7 (d := d_behind_of) rfl
  f_many_behind := c.1.def_ 8 (d := d_many_behind) rfl
  f_behind := c.1.def_ 9 (d := d_behind) rfl
  f_judged := c.1.def_ 10 (d := d_judged) rfl
  f_weighed := c.1.def_ 11 (d := d_weighed) rfl
  f_law_cell_at := c.1.def_ 12 (d := d_law_cell_at) rfl
  f_law_draw := c.1.def_ 13 (d := d_law_draw) rfl
  f_law_marks := c.1.def_ 14 (d := d_law_marks) rfl
  f_law_cases := c.1.def_ 15 (d := d_law_cases) rfl
  f_law_weighing := c.1.def_ 16 (d := d_law_weighing) rfl
  f_law_behind := c.1.def_ 17 (d := d_law_behind) rfl
  f_law_left := c.1.def_ 18 (d := d_law_left) rfl
  f_law_power := c.1.def_ 19 (d := d_law_power) rfl
  f_law_whole := c.1.def_ 20 (d := d_law_whole) rfl
  f_law_told := c.1.def_ 21 (d := d_law_told) rfl
  f_law_sides := c.1.def_ 22 (d := d_law_sides) rfl
  f_law_right := c.1.def_ 23 (d := d_law_right) rfl
  f_law_cases_right := c.1.def_ 24 (d := d_law_cases_right) rfl
  f_law := c.1.def_ 25 (d := d_law) rfl
  g_is_whole := He.glo_ok X G (c.1.fact 0 (f := .glo "is_whole") rfl)
  g_check_marks := He.glo_ok X G (c.1.fact 1 (f := .glo "check_marks") rfl)
  g_is_side := He.glo_ok X G (c.1.fact 2 (f := .glo "is_side") rfl)
  g_is_weighing := He.glo_ok X G (c.1.fact 3 (f := .glo "is_weighing") rfl)
  g_check_weighing := He.glo_ok X G (c.1.fact 4 (f := .glo "check_weighing") rfl)
  g_left_over := He.glo_ok X G (c.1.fact 5 (f := .glo "left_over") rfl)
  g_sides_of := He.glo_ok X G (c.1.fact 6 (f := .glo "sides_of") rfl)
  g_behind_of := He.glo_ok X G (c.1.fact 7 (f := .glo "behind_of") rfl)
  g_many_behind := He.glo_ok X G (c.1.fact 8 (f := .glo "many_behind") rfl)
  g_behind := He.glo_ok X G (c.1.fact 9 (f := .glo "behind") rfl)
  g_judged := He.glo_ok X G (c.1.fact 10 (f := .glo "judged") rfl)
  g_weighed := He.glo_ok X G (c.1.fact 11 (f := .glo "weighed") rfl)
  g_law_cell_at := He.glo_ok X G (c.1.fact 12 (f := .glo "_law_cell_at") rfl)
  g_law_draw := He.glo_ok X G (c.1.fact 13 (f := .glo "_law_draw") rfl)
  g_law_marks := He.glo_ok X G (c.1.fact 14 (f := .glo "_law_marks") rfl)
  g_law_cases := He.glo_ok X G (c.1.fact 15 (f := .glo "_law_cases") rfl)
  g_law_weighing := He.glo_ok X G (c.1.fact 16 (f := .glo "_law_weighing") rfl)
  g_law_behind := He.glo_ok X G (c.1.fact 17 (f := .glo "_law_behind") rfl)
  g_law_left := He.glo_ok X G (c.1.fact 18 (f := .glo "_law_left") rfl)
  g_law_power := He.glo_ok X G (c.1.fact 19 (f := .glo "_law_power") rfl)
  g_law_whole := He.glo_ok X G (c.1.fact 20 (f := .glo "_law_whole") rfl)
  g_law_told := He.glo_ok X G (c.1.fact 21 (f := .glo "_law_told") rfl)
  g_law_sides := He.glo_ok X G (c.1.fact 22 (f := .glo "_law_sides") rfl)
  g_law_right := He.glo_ok X G (c.1.fact 23 (f := .glo "_law_right") rfl)
  g_law_cases_right := He.glo_ok X G (c.1.fact 24 (f := .glo "_law_cases_right") rfl)
  g_law := He.glo_ok X G (c.1.fact 25 (f := .glo "law") rfl)
  n_ValueError := He.free_ok X G (c.1.fact 26 (f := .free "ValueError") rfl)
  n_all := He.free_ok X G (c.1.fact 27 (f := .free "all") rfl)
  n_any := He.free_ok X G (c.1.fact 28 (f := .free "any") rfl)
  n_bool := He.free_ok X G (c.1.fact 29 (f := .free "bool") rfl)
  n_enumerate := He.free_ok X G (c.1.fact 30 (f := .free "enumerate") rfl)
  n_int := He.free_ok X G (c.1.fact 31 (f := .free "int") rfl)
  n_isinstance := He.free_ok X G (c.1.fact 32 (f := .free "isinstance") rfl)
  n_len := He.free_ok X G (c.1.fact 33 (f := .free "len") rfl)
  n_list := He.free_ok X G (c.1.fact 34 (f := .free "list") rfl)
  n_max := He.free_ok X G (c.1.fact 35 (f := .free "max") rfl)
  n_min := He.free_ok X G (c.1.fact 36 (f := .free "min") rfl)
  n_range := He.free_ok X G (c.1.fact 37 (f := .free "range") rfl)
  n_set := He.free_ok X G (c.1.fact 38 (f := .free "set") rfl)
  n_sorted := He.free_ok X G (c.1.fact 39 (f := .free "sorted") rfl)
  n_str := He.free_ok X G (c.1.fact 40 (f := .free "str") rfl)
  n_tuple := He.free_ok X G (c.1.fact 41 (f := .free "tuple") rfl)
  c_SIGNS := He.str_ok X G (c.1.fact 42 (f := .str "SIGNS" "ehlg") rfl)
  g_OUTCOMES := He.glo_ok X G (c.1.fact 43 (f := .glo "OUTCOMES") rfl)
  g_CoinError := He.glo_ok X G (c.1.fact 44 (f := .glo "CoinError") rfl)
  x_CoinError := He.exc_ok (c.1.fact 45 (f := .exc "CoinError") rfl)
  g_BadMarks := He.glo_ok X G (c.1.fact 46 (f := .glo "BadMarks") rfl)
  x_BadMarks := He.exc_ok (c.1.fact 47 (f := .exc "BadMarks") rfl)
  g_BadWeighing := He.glo_ok X G (c.1.fact 48 (f := .glo "BadWeighing") rfl)
  x_BadWeighing := He.exc_ok (c.1.fact 49 (f := .exc "BadWeighing") rfl)
  g_BadOutcome := He.glo_ok X G (c.1.fact 50 (f := .glo "BadOutcome") rfl)
  x_BadOutcome := He.exc_ok (c.1.fact 51 (f := .exc "BadOutcome") rfl)
  g_Never := He.glo_ok X G (c.1.fact 52 (f := .glo "Never") rfl)
  x_Never := He.exc_ok (c.1.fact 53 (f := .exc "Never") rfl)
  g_BadCoin := He.glo_ok X G (c.1.fact 54 (f := .glo "BadCoin") rfl)
  x_BadCoin := He.exc_ok (c.1.fact 55 (f := .exc "BadCoin") rfl)
  g_BadText := He.glo_ok X G (c.1.fact 56 (f := .glo "BadText") rfl)
  x_BadText := He.exc_ok (c.1.fact 57 (f := .exc "BadText") rfl)
  l_OUTCOMES := fun H => He.lstB_ok (c.ex 0 rfl) H
  e_BadMarks_CoinError := of_decide_eq_true (c.ex 1 rfl)
  t_BadMarks_CoinError := of_decide_eq_true (c.ex 2 rfl)
  t_BadMarks_BadMarks := of_decide_eq_true (c.ex 3 rfl)
  e_BadMarks_BadWeighing := of_decide_eq_true (c.ex 4 rfl)
  t_BadMarks_BadWeighing := of_decide_eq_true (c.ex 5 rfl)
  t_BadMarks_BadOutcome := of_decide_eq_true (c.ex 6 rfl)
  t_BadMarks_Never := of_decide_eq_true (c.ex 7 rfl)
  t_BadMarks_BadCoin := of_decide_eq_true (c.ex 8 rfl)
  t_BadMarks_BadText := of_decide_eq_true (c.ex 9 rfl)
  t_BadMarks_ValueError := of_decide_eq_true (c.ex 10 rfl)
  ec_BadMarks := excCB_ok (c.ex 11 rfl)
  e_BadWeighing_CoinError := of_decide_eq_true (c.ex 12 rfl)
  t_BadWeighing_CoinError := of_decide_eq_true (c.ex 13 rfl)
  t_BadWeighing_BadMarks := of_decide_eq_true (c.ex 14 rfl)
  e_BadWeighing_BadWeighing := of_decide_eq_true (c.ex 15 rfl)
  t_BadWeighing_BadWeighing := of_decide_eq_true (c.ex 16 rfl)
  t_BadWeighing_BadOutcome := of_decide_eq_true (c.ex 17 rfl)
  t_BadWeighing_Never := of_decide_eq_true (c.ex 18 rfl)
  t_BadWeighing_BadCoin := of_decide_eq_true (c.ex 19 rfl)
  t_BadWeighing_BadText := of_decide_eq_true (c.ex 20 rfl)
  t_BadWeighing_ValueError := of_decide_eq_true (c.ex 21 rfl)
  ec_BadWeighing := excCB_ok (c.ex 22 rfl)
  e_BadOutcome_CoinError := of_decide_eq_true (c.ex 23 rfl)
  t_BadOutcome_CoinError := of_decide_eq_true (c.ex 24 rfl)
  t_BadOutcome_BadMarks := of_decide_eq_true (c.ex 25 rfl)
  e_BadOutcome_BadWeighing := of_decide_eq_true (c.ex 26 rfl)
  t_BadOutcome_BadWeighing := of_decide_eq_true (c.ex 27 rfl)
  t_BadOutcome_BadOutcome := of_decide_eq_true (c.ex 28 rfl)
  t_BadOutcome_Never := of_decide_eq_true (c.ex 29 rfl)
  t_BadOutcome_BadCoin := of_decide_eq_true (c.ex 30 rfl)
  t_BadOutcome_BadText := of_decide_eq_true (c.ex 31 rfl)
  t_BadOutcome_ValueError := of_decide_eq_true (c.ex 32 rfl)
  ec_BadOutcome := excCB_ok (c.ex 33 rfl)
  e_Never_CoinError := of_decide_eq_true (c.ex 34 rfl)
  t_Never_CoinError := of_decide_eq_true (c.ex 35 rfl)
  t_Never_BadMarks := of_decide_eq_true (c.ex 36 rfl)
  e_Never_BadWeighing := of_decide_eq_true (c.ex 37 rfl)
  t_Never_BadWeighing := of_decide_eq_true (c.ex 38 rfl)
  t_Never_BadOutcome := of_decide_eq_true (c.ex 39 rfl)
  t_Never_Never := of_decide_eq_true (c.ex 40 rfl)
  t_Never_BadCoin := of_decide_eq_true (c.ex 41 rfl)
  t_Never_BadText := of_decide_eq_true (c.ex 42 rfl)
  t_Never_ValueError := of_decide_eq_true (c.ex 43 rfl)
  ec_Never := excCB_ok (c.ex 44 rfl)
  e_BadCoin_CoinError := of_decide_eq_true (c.ex 45 rfl)
  t_BadCoin_CoinError := of_decide_eq_true (c.ex 46 rfl)
  t_BadCoin_BadMarks := of_decide_eq_true (c.ex 47 rfl)
  e_BadCoin_BadWeighing := of_decide_eq_true (c.ex 48 rfl)
  t_BadCoin_BadWeighing := of_decide_eq_true (c.ex 49 rfl)
  t_BadCoin_BadOutcome := of_decide_eq_true (c.ex 50 rfl)
  t_BadCoin_Never := of_decide_eq_true (c.ex 51 rfl)
  t_BadCoin_BadCoin := of_decide_eq_true (c.ex 52 rfl)
  t_BadCoin_BadText := of_decide_eq_true (c.ex 53 rfl)
  t_BadCoin_ValueError := of_decide_eq_true (c.ex 54 rfl)
  ec_BadCoin := excCB_ok (c.ex 55 rfl)
  e_BadText_CoinError := of_decide_eq_true (c.ex 56 rfl)
  t_BadText_CoinError := of_decide_eq_true (c.ex 57 rfl)
  t_BadText_BadMarks := of_decide_eq_true (c.ex 58 rfl)
  e_BadText_BadWeighing := of_decide_eq_true (c.ex 59 rfl)
  t_BadText_BadWeighing := of_decide_eq_true (c.ex 60 rfl)
  t_BadText_BadOutcome := of_decide_eq_true (c.ex 61 rfl)
  t_BadText_Never := of_decide_eq_true (c.ex 62 rfl)
  t_BadText_BadCoin := of_decide_eq_true (c.ex 63 rfl)
  t_BadText_BadText := of_decide_eq_true (c.ex 64 rfl)
  t_BadText_ValueError := of_decide_eq_true (c.ex 65 rfl)
  ec_BadText := excCB_ok (c.ex 66 rfl)
end Od

namespace Od
open PySem PySem.Spec PyProof.Rows L2 SX Evl
variable {P : Program} {w : World} {K : PySem.W.Frag} {mg : Str → Option Value} {base : Heap}
/-! ### is_whole -/
def kInt (t : Value) (b : Bool) : Prop := ∀ K, PySem.W.kitOne K t (.type "int") = some b
def spIsWhole (K : PySem.W.Frag) : Sp := S1 fun a H Q => ∃ (t : Value) (ki kb : Bool), TyX K H a t ∧ PySem.W.kitOne K t (.type "int") = some ki ∧ PySem.W.kitOne K t (.type "bool") = some kb ∧ Go H (Q (.bl (ki && !kb)))
theorem ok_is_whole (T : Txt K mg) : Cal CX0 P w K mg base 1 "is_whole" (spIsWhole K) :=
  cal_mk T.f_is_whole T.g_is_whole sc_is_whole (fun _ _ _ _ _ _ us hl => match us, hl with | [_], _ => rfl) len1 fun cdv A outer s H vs Q E hr hsp => by
    obtain ⟨a, rfl, t, ki, kb, ht, h1, h2, q⟩ := hsp
    refine ⟨_, (pss_cons (ps_ret (pe_and (pe_callB (call_isiK2 K) (by rfl) T.n_isinstance (by decide +kernel) (pa_cons (pv 0) (pa_cons (pe_gTy (n := "int") T.n_int) pa_nil))) (pe_one (pe_not (pe_callB (call_isiK2 K) (by rfl) T.n_isinstance (by decide +kernel) (pa_cons (pv 0) (pa_cons (pe_gTy (n := "bool") T.n_bool) pa_nil)))))))
      pss_nil), ?_⟩
    exact go_ret (ev_andV (ev_isT (ev_var rfl) ev_c (.ty _) ht h1) fun _ => ev_notV (ev_isT (ev_var rfl) ev_c (.ty _) ht h2)) q
theorem sv_is_whole {H : Hp} {x : V} (hf : flatV x = true) : SpV (spIsWhole K) [x] H (.bl (isIntV x)) := sv1 fun H1 e Q q => by
  cases x with
  | non => exact ⟨_, false, false, .base .non, kit_ty (by decide +kernel), kit_ty (by decide +kernel), q⟩
  | bl b => exact ⟨_, true, true, .base (.bl b), kit_ty (by decide +kernel), kit_ty (by decide +kernel), q⟩
  | int i => exact ⟨_, true, false, .base (.int i), kit_ty (by decide +kernel), kit_ty (by decide +kernel), q⟩
  | str z => exact ⟨_, false, false, .base (.str z), kit_ty (by decide +kernel), kit_ty (by decide +kernel), q⟩
  | _ => cases hf
/-! ### cases_of -/
def spCasesOf : Sp := S1 fun a H Q => ∃ m : List Nat, a = .str (S m) ∧ Go H (Q (.int (casesN m : Nat)))
theorem cmul_l {i j : Int} (h1 : -(2 ^ 64) < i) (h2 : i < 2 ^ 64) : CMul i j := .inl ⟨h1, h2⟩
theorem sv_cases_of {H : Hp} {m : List Nat} : SpV spCasesOf [.str (S m)] H (.int (casesN m : Nat)) := sv1 fun H1 e Q q => ⟨m, rfl, q⟩
end Od

namespace Od
open PySem PySem.Spec PyProof.Rows L2 SX Evl
variable {P : Program} {w : World} {K : PySem.W.Frag} {mg : Str → Option Value} {base : Heap}
/-! ### check_marks, of what are marks -/
def spCheckMarks : Sp := S1 fun a H Q => ∃ m : List Nat, a = .str (S m) ∧ marksB m = true ∧ m.length ≤ 10000 ∧ Go H (Q .non)
theorem ok_check_marks (T : Txt K mg) : Cal CX0 P w K mg base 1 "check_marks" spCheckMarks :=
  cal_mk T.f_check_marks T.g_check_marks sc_check_marks (fun _ _ _ _ _ _ us hl => match us, hl with | [_], _ => rfl) len1 fun cdv A outer s H vs Q E hr hsp => by
    obtain ⟨a, rfl, m, rfl, hm, hl, q⟩ := hsp
    refine ⟨_, (pss_cons (ps_if (PW.pt (pw_or (pt_not (pt_val (pe_callB (call_isiK2 K) (by rfl) T.n_isinstance (by decide +kernel) (pa_cons (pv 0) (pa_cons (pe_gTy (n := "str") T.n_str) pa_nil))))) (pw_or1 (pt_not (pt_val (pe_callB (cr_allK K rfl) (by rfl) T.n_all (by decide +kernel) (pa_cons (pe_lc (own := [("sign", 1)]) rfl sc_check_marks.nd (pi_str (pv 0)) (blkOk_by (own := [("sign", 1)]) (N := ["marks", "sign"]) (sc := defScope s_check_marks) (by decide +kernel)) (fun _ _ _ _ _ => (pg_name (i := 1) sc_check_marks.nd rfl (Or.inl rfl))) (fun _ _ _ _ _ => pts_nil) (fun _ _ _ _ _ => (pe_cmpR op_inT (pv 1) (pe_gS T.c_SIGNS k_ehlg) rfl))) pa_nil))))))) (pss_cons ps_never
      pss_nil) pss_nil)
      (pss_cons (ps_if (PW.pt (pw_and (pt_cmpR op_inT (pe_strS k_e) (pv 0) rfl) (pw_and1 (PW.pt (pw_or (pt_cmpR op_inT (pe_strS k_h) (pv 0) rfl) (pw_or1 (pt_cmpR op_inT (pe_strS k_l) (pv 0) rfl))))))) (pss_cons ps_never
      pss_nil) pss_nil)
      pss_nil)), ?_⟩
    unfold marksB at hm
    rw [Bool.and_eq_true] at hm
    refine go_when (et_or (et_not (et_B (ev_isT (ev_var rfl) ev_c (.ty _) (.base (.str _)) (kit_ty (r := true) (by decide +kernel))))) fun _ => et_not (et_B (ev_allN (bs := m.map fun c => decide (c ∈ [101, 104, 108, 103]))
      (by rw [List.map_map]; exact el_mapS (fun c => V.bl (decide (c ∈ [101, 104, 108, 103]))) (ev_var rfl) (by omega) (fun _ => rfl) (fun c _ => ev_inT (ev_var rfl) ev_c))))) (fun hb => ?_) (fun _ => ?_)
    · rw [List.all_map] at hb
      have z : (m.all fun c => decide (c ∈ [101, 104, 108, 103])) = true := hm.1
      have z2 : (m.all (_root_.id ∘ fun c => decide (c ∈ [101, 104, 108, 103]))) = true := z
      rw [z2] at hb
      cases hb
    · refine go_when (et_and (et_test (ev_inT ev_c (ev_var rfl))) fun _ => et_or (et_test (ev_inT ev_c (ev_var rfl))) fun _ => et_test (ev_inT ev_c (ev_var rfl))) (fun hb => ?_) (fun _ => go_next q)
      have z := hm.2
      rw [hb] at z
      cases z
theorem sv_check_marks {H : Hp} {m : List Nat} (hm : marksB m = true) (hl : m.length ≤ 10000) : SpV spCheckMarks [.str (S m)] H .non := sv1 fun H1 e Q q => ⟨m, rfl, hm, hl, q⟩
/-! ### weighings_for -/
def spWeighingsFor : Sp := S1 fun a H Q => ∃ n : Nat, a = .int (n : Nat) ∧ Go H (Q (.int (wf n : Nat)))
theorem sv_weighings_for {H : Hp} {n : Nat} : SpV spWeighingsFor [.int (n : Nat)] H (.int (wf n : Nat)) := sv1 fun H1 e Q q => ⟨n, rfl, q⟩
theorem wf_small {m : List Nat} (hm : m.length ≤ 10000) : wf (casesN m) ≤ 10 := by
  refine (wf_le 10 _).mp ?_
  unfold casesN
  have h1 : m.count 101 ≤ m.length := List.count_le_length
  have h3 : m.count 108 ≤ m.length := List.count_le_length
  have h4 : m.count 104 ≤ m.length := List.count_le_length
  have : (if tiltB m = true then 0 else 1) ≤ 1 := by split <;> omega
  omega
end Od

namespace Od
open PySem PySem.Spec PyProof.Rows L2 SX Evl
variable {P : Program} {w : World} {K : PySem.W.Frag} {mg : Str → Option Value} {base : Heap}
/-! ### is_side -/
def spIsSide (K : PySem.W.Frag) : Sp := S2 fun a b H Q => ∃ (o : Option (List V)) (c : Int), b = .int c ∧ Thing K H a o ∧ Go H (Q (.bl (sideO o c)))
theorem ok_is_side (T : Txt K mg) : Cal CX0 P w K mg base 2 "is_side" (spIsSide K) :=
  cal_mk T.f_is_side T.g_is_side sc_is_side (fun _ _ _ _ _ _ us hl => match us, hl with | [_, _], _ => rfl) len2 fun cdv A outer s H vs Q E hr hsp => by
    obtain ⟨a, b, rfl, o, c, rfl, ht, q⟩ := hsp
    refine ⟨_, (pss_cons (ps_if (PW.pt (pw_or (pt_not (pt_val (pe_callB (call_isiK2 K) (by rfl) T.n_isinstance (by decide +kernel) (pa_cons (pv 0) (pa_cons (pe_gTy (n := "list") T.n_list) pa_nil))))) (pw_or1 (pt_not (pt_val (pe_callB (cr_allK K rfl) (by rfl) T.n_all (by decide +kernel) (pa_cons (pe_lc (own := [("coin", 2)]) rfl sc_is_side.nd (pi_list (pv 0)) (blkOk_by (own := [("coin", 2)]) (N := ["thing", "coins", "coin", "last"]) (sc := defScope s_is_side) (by decide +kernel)) (fun _ _ _ _ _ => (pg_name (i := 2) sc_is_side.nd rfl (Or.inl rfl))) (fun _ _ _ _ _ => pts_nil) (fun _ _ _ _ _ => (pe_k (ok_is_whole T) hr (by decide) (by rfl) (pa_cons (pv 2) pa_nil)))) pa_nil))))))) (pss_cons (ps_ret pe_bl)
      pss_nil) pss_nil)
      (pss_cons (ps_set (i := 3) sc_is_side.nd rfl (Or.inl rfl) (pe_un un_negI pe_int))
      (pss_cons (ps_for PassesOwn.never rfl (pi_list (pv 0)) (pg_name (i := 2) sc_is_side.nd rfl (Or.inl rfl)) (pss_cons (ps_if (pt_not (pt_chain op_ltI op_leI (pv 3) (pv 2) (pv 1))) (pss_cons (ps_ret pe_bl)
      pss_nil) pss_nil)
      (pss_cons (ps_set (i := 3) sc_is_side.nd rfl (Or.inl rfl) (pv 2))
      pss_nil)))
      (pss_cons (ps_ret pe_bl)
      pss_nil)))), ?_⟩
    cases o with
    | none =>
      obtain ⟨t, h1, h2⟩ := ht
      refine go_when (et_or (b := true) (et_not (et_B (ev_isT (ev_var rfl) ev_c (.ty _) h1 h2))) fun h => by cases h) (fun _ => go_ret ev_c q) (fun hb => by cases hb)
    | some xs =>
      obtain ⟨p, rfl, hp, hf, hl⟩ := ht
      refine go_when (et_or (et_not (et_B (ev_isT (ev_var rfl) ev_c (.ty _) (tyx_sql hp) (kit_ty (r := true) (by decide +kernel))))) fun _ => et_not (et_B (ev_allN (bs := xs.map isIntV)
        (by rw [List.map_map]; exact el_mapL xs _root_.id (fun x => V.bl (isIntV x)) .non (ev_var rfl) (by rw [List.map_id]; exact hp) hl (fun _ => rfl) (fun x hx => ev_call0 (ea_cons (ev_var rfl) ea_nil) (sv_is_whole (List.all_eq_true.mp hf x hx))))))) (fun hb => ?_) (fun hb => ?_)
      · have e : sideO (some xs) c = false := by
          show sideV xs c = false
          unfold sideV
          rw [List.all_map] at hb
          have z : (xs.all isIntV) = false := by
            have z2 : (!true || !xs.all isIntV) = true := hb
            simpa using z2
          rw [z, Bool.false_and]
        rw [e] at q
        exact go_ret ev_c q
      · have z : xs.all isIntV = true := by
          rw [List.all_map] at hb
          have z2 : (!true || !xs.all isIntV) = false := hb
          simpa using z2
        have e := ints_of z
        generalize xs.map intOf = ns at e
        subst e
        refine go_asg (ev_negI ev_c) ?_
        refine go_forL (fun i σ Hk => (∃ (y : Option V) (last : Int), σ = [some (.ref p), some (.int c), y, some (.int last)] ∧ sideN ns c = riseB c last (ns.drop i)) ∧ Hk = H) (ev_var rfl) hp ⟨⟨none, -1, rfl, rfl⟩, rfl⟩ (fun i σ' Hk h => by rw [h.2]; exact hp) ?_ ?_
        · rintro i x σ' Hk hx ⟨⟨y, last, rfl, hr⟩, rfl⟩
          rw [List.getElem?_map] at hx
          cases hn : ns[i]? with
          | none => rw [hn] at hx; cases hx
          | some n =>
            rw [hn] at hx
            obtain rfl : V.int n = x := Option.some.inj hx
            rw [drop_at hn] at hr
            refine go_when (et_not (et_test (ev_ltLe (ev_var rfl) (ev_var rfl) (ev_var rfl)))) (fun hb => ?_) (fun hb => ?_)
            · have e : sideO (some (ns.map V.int)) c = false := by
                show sideV (ns.map V.int) c = false
                rw [sideV_ints, hr]
                show (decide (last < n) && decide (n ≤ c) && riseB c n (ns.drop (i + 1))) = false
                have z2 : (decide (last < n) && decide (n ≤ c)) = false := by rwa [Bool.not_eq_true'] at hb
                rw [z2, Bool.false_and]
              rw [e] at q
              exact go_ret ev_c q
            · refine go_asg (ev_var rfl) (go_up rfl ⟨⟨some (.int n), n, rfl, ?_⟩, rfl⟩)
              have z2 : (decide (last < n) && decide (n ≤ c)) = true := by rwa [Bool.not_eq_false'] at hb
              rw [hr]
              show (decide (last < n) && decide (n ≤ c) && riseB c n (ns.drop (i + 1))) = _
              rw [z2, Bool.true_and]
        · rintro σ' Hk ⟨⟨y, last, rfl, hr⟩, rfl⟩
          refine go_ret ev_c ?_
          have e : sideO (some (ns.map V.int)) c = true := by
            show sideV (ns.map V.int) c = true
            rw [sideV_ints, hr, List.length_map, List.drop_length]
            rfl
          rw [e] at q
          exact q
theorem sv_is_side {H : Hp} {a : V} {o : Option (List V)} {c : Int} (h : Thing K H a o) : SpV (spIsSide K) [a, .int c] H (.bl (sideO o c)) := sv2 fun H1 e Q q => ⟨o, c, rfl, h.mono e, q⟩
/-! ### is_weighing -/
def spIsWeighing (K : PySem.W.Frag) : Sp := S3 fun a b d H Q => ∃ (c : Int) (l r : Option (List V)), a = .int c ∧ Thing K H b l ∧ Thing K H d r ∧ Go H (Q (.bl (weighO c l r)))
theorem ok_is_weighing (T : Txt K mg) : Cal CX0 P w K mg base 3 "is_weighing" (spIsWeighing K) :=
  cal_mk T.f_is_weighing T.g_is_weighing sc_is_weighing (fun _ _ _ _ _ _ us hl => match us, hl with | [_, _, _], _ => rfl) len3 fun cdv A outer s H vs Q E hr hsp => by
    obtain ⟨a, b, d, rfl, c, l, r, rfl, hl, hR, q⟩ := hsp
    refine ⟨_, (pss_cons (ps_if (PW.pt (pw_or (pt_not (pt_val (pe_k (ok_is_side T) hr (by decide) (by rfl) (pa_cons (pv 1) (pa_cons (pv 0) pa_nil))))) (pw_or (pt_not (pt_val (pe_k (ok_is_side T) hr (by decide) (by rfl) (pa_cons (pv 2) (pa_cons (pv 0) pa_nil))))) (pw_or1 (pt_cmpR op_neI (pe_callB (call_lenQK K) (by rfl) T.n_len (by decide +kernel) (pa_cons (pv 1) pa_nil)) (pe_callB (call_lenQK K) (by rfl) T.n_len (by decide +kernel) (pa_cons (pv 2) pa_nil)) (nomark _)))))) (pss_cons (ps_ret pe_bl)
      pss_nil) pss_nil)
      (pss_cons (ps_ret (pe_not (pe_callB (cr_anyK K rfl) (by rfl) T.n_any (by decide +kernel) (pa_cons (pe_lc (own := [("coin", 3)]) rfl sc_is_weighing.nd (pi_list (pv 1)) (blkOk_by (own := [("coin", 3)]) (N := ["coins", "left", "right", "coin"]) (sc := defScope s_is_weighing) (by decide +kernel)) (fun _ _ _ _ _ => (pg_name (i := 3) sc_is_weighing.nd rfl (Or.inl rfl))) (fun _ _ _ _ _ => pts_nil) (fun _ _ _ _ _ => (pe_cmpR (op_inK K) (pv 3) (pv 2) rfl))) pa_nil))))
      pss_nil)), ?_⟩
    cases e1 : sideO l c with
    | false =>
      have e : weighO c l r = false := by
        cases l with
        | none => rfl
        | some l =>
          cases r with
          | none => rfl
          | some r =>
            have z : sideV l c = false := e1
            show (sideV l c && _) = false
            rw [z, Bool.false_and]
      rw [e] at q
      refine go_when (et_or (a := true) (b := true) (et_is (et_not (et_B (ev_call0 (ea_cons (ev_var rfl) (ea_cons (ev_var rfl) ea_nil)) (sv_is_side hl)))) (by rw [e1] <;> rfl)) fun h => by cases h) (fun _ => go_ret ev_c q) (fun hb => by cases hb)
    | true =>
      cases l with
      | none => cases e1
      | some l =>
        cases e2 : sideO r c with
        | false =>
          have e : weighO c (some l) r = false := by
            cases r with
            | none => rfl
            | some r =>
              have z : sideV r c = false := e2
              show (sideV l c && (sideV r c && _)) = false
              rw [z, Bool.false_and, Bool.and_false]
          rw [e] at q
          refine go_when (et_or (a := false) (b := true) (et_is (et_not (et_B (ev_call0 (ea_cons (ev_var rfl) (ea_cons (ev_var rfl) ea_nil)) (sv_is_side hl)))) (by rw [e1] <;> rfl)) fun _ =>
            et_or (a := true) (b := true) (et_is (et_not (et_B (ev_call0 (ea_cons (ev_var rfl) (ea_cons (ev_var rfl) ea_nil)) (sv_is_side hR)))) (by rw [e2] <;> rfl)) fun h => by cases h) (fun _ => go_ret ev_c q) (fun hb => by cases hb)
        | true =>
          cases r with
          | none => cases e2
          | some r =>
            obtain ⟨p1, rfl, hp1, hf1, hl1⟩ := id hl
            obtain ⟨p2, rfl, hp2, hf2, hl2⟩ := id hR
            have e : weighO c (some l) (some r) = (decide (l.length = r.length) && !(l.any fun x => inV x r)) := by
              have z1 : sideV l c = true := e1
              have z2 : sideV r c = true := e2
              show (sideV l c && (sideV r c && _)) = _
              rw [z1, z2, Bool.true_and, Bool.true_and]
            rw [e] at q
            refine go_when (et_or (a := false) (et_is (et_not (et_B (ev_call0 (ea_cons (ev_var rfl) (ea_cons (ev_var rfl) ea_nil)) (sv_is_side hl)))) (by rw [e1] <;> rfl)) fun _ =>
              et_or (a := false) (et_is (et_not (et_B (ev_call0 (ea_cons (ev_var rfl) (ea_cons (ev_var rfl) ea_nil)) (sv_is_side hR)))) (by rw [e2] <;> rfl)) fun _ =>
              et_test (ev_neI (ev_lenQ (ev_var rfl) hp1) (ev_lenQ (ev_var rfl) hp2))) (fun hb => ?_) (fun hb => ?_)
            · have z : decide (l.length = r.length) = false := by
                have z2 : (false || (false || !decide (((l.length : Nat) : Int) = ((r.length : Nat) : Int)))) = true := hb
                have z3 : ¬ ((l.length : Nat) : Int) = ((r.length : Nat) : Int) := by simpa using z2
                exact decide_eq_false fun e => z3 (by rw [e])
              rw [z, Bool.false_and] at q
              exact go_ret ev_c q
            · have z : decide (l.length = r.length) = true := by
                have z2 : (false || (false || !decide (((l.length : Nat) : Int) = ((r.length : Nat) : Int)))) = false := hb
                have z3 : ((l.length : Nat) : Int) = ((r.length : Nat) : Int) := by simpa using z2
                exact decide_eq_true (Int.ofNat_inj.mp z3)
              rw [z, Bool.true_and] at q
              refine go_ret (ev_notV (ev_anyN (bs := l.map fun x => inV x r) ?_)) (by rw [List.any_map]; exact q)
              rw [List.map_map]
              exact el_mapL l _root_.id (fun x => V.bl (inV x r)) .non (ev_var rfl) (by rw [List.map_id]; exact hp1) hl1 (fun _ => rfl) (fun x hx => ev_in (neg := false) (ev_var rfl) (ev_var rfl) hp2 (List.all_eq_true.mp hf1 x hx) hf2)
theorem sv_is_weighing {H : Hp} {b d : V} {l r : Option (List V)} {c : Int} (hl : Thing K H b l) (hr : Thing K H d r) : SpV (spIsWeighing K) [.int c, b, d] H (.bl (weighO c l r)) := sv3 fun H1 e Q q => ⟨c, l, r, rfl, hl.mono e, hr.mono e, q⟩
end Od

namespace Od
open PySem PySem.Spec PyProof.Rows L2 SX Evl
variable {P : Program} {w : World} {K : PySem.W.Frag} {mg : Str → Option Value} {base : Heap}
/-! ### left_over -/
def spLeftOver : Sp := S3 fun a b d H Q => ∃ (c : Nat) (z : Int) (o : List Nat), a = .str (S [c]) ∧ b = .int z ∧ d = .str (S o) ∧ Go H (Q (.str (S [leftover c z o])))
theorem in2 {c a b : Nat} : decide (c ∈ [a, b]) = (decide (c = a) || decide (c = b)) := by simp
theorem ok_left_over (T : Txt K mg) : Cal CX0 P w K mg base 1 "left_over" spLeftOver :=
  cal_mk T.f_left_over T.g_left_over sc_left_over (fun _ _ _ _ _ _ us hl => match us, hl with | [_, _, _], _ => rfl) len3 fun cdv A outer s H vs Q E hr hsp => by
    obtain ⟨a, b, d, rfl, c, z, o, rfl, rfl, rfl, q⟩ := hsp
    refine ⟨_, (pss_cons (ps_if (pt_cmpR op_eqT (pv 2) (pe_strS k_even) (nomark _)) (pss_cons (ps_ret (pe_ifExp (pt_cmpR op_eqI (pv 1) pe_int (nomark _)) (pv 0) (pe_strS k_g)))
      pss_nil) pss_nil)
      (pss_cons (ps_if (PW.pt (pw_and (pt_cmpR op_gtI (pv 1) pe_int (nomark _)) (pw_and1 (pt_cmpR op_inT (pv 0) (pe_strS k_eh) rfl)))) (pss_cons (ps_ret (pe_strS k_h))
      pss_nil) pss_nil)
      (pss_cons (ps_if (PW.pt (pw_and (pt_cmpR op_ltI (pv 1) pe_int (nomark _)) (pw_and1 (pt_cmpR op_inT (pv 0) (pe_strS k_el) rfl)))) (pss_cons (ps_ret (pe_strS k_l))
      pss_nil) pss_nil)
      (pss_cons (ps_ret (pe_strS k_g))
      pss_nil)))), ?_⟩
    unfold leftover at q
    refine go_when (et_test (ev_eqT (ev_var rfl) ev_c)) (fun hb => ?_) (fun hb => ?_)
    · rw [if_pos (of_decide_eq_true hb)] at q
      by_cases hz : z = 0
      · rw [if_pos hz] at q
        exact go_ret (ev_if (et_test (ev_eqI (ev_var rfl) ev_c)) (fun _ => ev_var rfl) (fun h => absurd hz (of_decide_eq_false h))) q
      · rw [if_neg hz] at q
        exact go_ret (ev_if (et_test (ev_eqI (ev_var rfl) ev_c)) (fun h => absurd (of_decide_eq_true h) hz) (fun _ => ev_c)) q
    · rw [if_neg (of_decide_eq_false hb)] at q
      refine go_when (et_and (et_test (ev_gtI (ev_var rfl) ev_c)) fun _ => et_test (ev_inT (ev_var rfl) ev_c)) (fun h1 => ?_) (fun h1 => ?_)
      · rw [Bool.and_eq_true, decide_eq_true_eq, decide_eq_true_eq] at h1
        rw [if_pos ⟨h1.1, by simpa using h1.2⟩] at q
        exact go_ret ev_c q
      · have n1 : ¬ (0 < z ∧ (c = 101 ∨ c = 104)) := fun hh => by
          rw [decide_eq_true hh.1, Bool.true_and, decide_eq_false_iff_not] at h1
          exact h1 (by simpa using hh.2)
        rw [if_neg n1] at q
        refine go_when (et_and (et_test (ev_ltI (ev_var rfl) ev_c)) fun _ => et_test (ev_inT (ev_var rfl) ev_c)) (fun h2 => ?_) (fun h2 => ?_)
        · rw [Bool.and_eq_true, decide_eq_true_eq, decide_eq_true_eq] at h2
          rw [if_pos ⟨h2.1, by simpa using h2.2⟩] at q
          exact go_ret ev_c q
        · have n2 : ¬ (z < 0 ∧ (c = 101 ∨ c = 108)) := fun hh => by
            rw [decide_eq_true hh.1, Bool.true_and, decide_eq_false_iff_not] at h2
            exact h2 (by simpa using hh.2)
          rw [if_neg n2] at q
          exact go_ret ev_c q
theorem sv_left_over {H : Hp} {c : Nat} {z : Int} {o : List Nat} : SpV spLeftOver [.str (S [c]), .int z, .str (S o)] H (.str (S [leftover c z o])) := sv3 fun H1 e Q q => ⟨c, z, o, rfl, rfl, rfl, q⟩
/-! ### sides_of -/
/-- two lists of counts, each within 0 .. n -/
structure Pair (K : PySem.W.Frag) (H : Hp) (n : Nat) (b d : V) (l r : List Int) : Prop where
  pb : ∃ p, b = .ref p ∧ SqL K H p (l.map V.int)
  pd : ∃ p, d = .ref p ∧ SqL K H p (r.map V.int)
  hl : ∀ x ∈ l, 0 ≤ x ∧ x ≤ n
  hr : ∀ x ∈ r, 0 ≤ x ∧ x ≤ n
theorem Pair.mono {H H1 : Hp} {n : Nat} {b d : V} {l r : List Int} (e : Ex H H1) (h : Pair K H n b d l r) : Pair K H1 n b d l r := by
  obtain ⟨⟨p, h1, h2⟩, ⟨p', h3, h4⟩, h5, h6⟩ := h
  exact ⟨⟨p, h1, ex_l e h2⟩, ⟨p', h3, ex_l e h4⟩, h5, h6⟩
def spSidesOf (K : PySem.W.Frag) : Sp := S4 fun a b d e H Q => ∃ (n : Nat) (l r : List Int) (o : List Nat), a = .int (n : Nat) ∧ e = .str (S o) ∧ Pair K H n b d l r ∧ n ≤ 10000 ∧ NewL ((sidesL n l r o).map V.int) H Q
theorem put_loop {H : Hp} {q pd : Addr} {n : Nat} {dn base0 : List Int} {v : Int} {tv : TE} {D : Ends} {tz : TS} (hq : H q = none) (hd : SqL K H pd (dn.map V.int)) (hdn : ∀ x ∈ dn, 0 ≤ x ∧ x ≤ n) (hb : base0.length = n + 1) {iF iC : Nat} {tl : TE}
    (S0 : Option V → List (Option V)) (hset : ∀ y x, (S0 y).set iC (some x) = S0 (some x)) (hF : ∀ y, (S0 y)[iF]? = some (some (.ref q))) (hC : ∀ x, (S0 (some x))[iC]? = some (some x)) (hv : ∀ y H, Ev tv (S0 y) H (.int v)) (y0 : Option V)
    (htl : Ev tl (S0 y0) (upd H q (.lst (base0.map V.int))) (.ref pd)) (k : ∀ y, Go (upd H q (.lst ((putAll v base0 dn).map V.int))) (tz D (S0 y))) :
    Go (upd H q (.lst (base0.map V.int))) (tSeq (tFor (iList K tl) (gName iC) (tSeq (tAsg tv (gSub (tVar iF) (tVar iC) rSetL)) tNext)) tz D (S0 y0)) := by
  have keep : ∀ o, SqL K (upd H q o) pd (dn.map V.int) := fun o => ex_l (Ex.new hq) hd
  refine go_forL (fun i σ Hk => (∃ y, σ = S0 y) ∧ Hk = upd H q (.lst ((putAll v base0 (dn.take i)).map V.int))) htl (keep _) ⟨⟨y0, rfl⟩, rfl⟩ (fun i σ' Hk h => by rw [h.2]; exact keep _) ?_ ?_
  · rintro i x σ' Hk hx ⟨⟨y, rfl⟩, rfl⟩
    rw [List.getElem?_map] at hx
    cases hn : dn[i]? with
    | none => rw [hn] at hx; cases hx
    | some z =>
      rw [hn] at hx
      obtain rfl : V.int z = x := Option.some.inj hx
      have hz := hdn z (List.mem_of_getElem? hn)
      rw [hset]
      have ez : z = ((z.toNat : Nat) : Int) := by omega
      refine go_setL (n := z.toNat) upd_same (hv _ _) (ev_var (hF _)) (by rw [← ez]; exact ev_var (hC _)) ?_ (go_up rfl ⟨⟨_, rfl⟩, ?_⟩)
      · rw [List.length_map, putAll_len, hb]
        omega
      · rw [putAll_take v hn, List.map_set, upd_upd]
  · rintro σ' Hk ⟨⟨y, rfl⟩, rfl⟩
    rw [List.length_map, List.take_length]
    exact k y
theorem ok_sides_of (T : Txt K mg) : Cal CX0 P w K mg base 1 "sides_of" (spSidesOf K) :=
  cal_mk T.f_sides_of T.g_sides_of sc_sides_of (fun _ _ _ _ _ _ us hl => match us, hl with | [_, _, _, _], _ => rfl) len4 fun cdv A outer s H vs Q E hr hsp => by
    obtain ⟨a, b, d, e, rfl, n, l, r, o, rfl, rfl, ⟨⟨p1, rfl, hp1⟩, ⟨p2, rfl, hp2⟩, hl, hR⟩, hn, q⟩ := hsp
    refine ⟨_, (pss_cons (ps_set (i := 4) sc_sides_of.nd rfl (Or.inl rfl) (pe_op op_rep (pe_lst (pa_cons pe_int pa_nil)) (pe_op op_addI (pv 0) pe_int)))
      (pss_cons (ps_par (by rfl) sc_sides_of.nd (i := 5) (j := 6) rfl rfl (by decide) rfl rfl (pa_cons (pv 1) (pa_cons (pv 2) pa_nil)) (by rfl))
      (pss_cons (ps_if (pt_cmpR op_eqT (pv 3) (pe_strS k_right) (nomark _)) (pss_cons (ps_par (by rfl) sc_sides_of.nd (i := 5) (j := 6) rfl rfl (by decide) rfl rfl (pa_cons (pv 2) (pa_cons (pv 1) pa_nil)) (by rfl))
      pss_nil) pss_nil)
      (pss_cons (ps_for PassesOwn.never rfl (pi_list (pv 5)) (pg_name (i := 7) sc_sides_of.nd rfl (Or.inl rfl)) (pss_cons (ps_asg pe_int (pg_sub (pv 4) (pv 7) set_list))
      pss_nil))
      (pss_cons (ps_for PassesOwn.never rfl (pi_list (pv 6)) (pg_name (i := 7) sc_sides_of.nd rfl (Or.inl rfl)) (pss_cons (ps_asg (pe_un un_negI pe_int) (pg_sub (pv 4) (pv 7) set_list))
      pss_nil))
      (pss_cons (ps_ret (pv 4))
      pss_nil)))))), ?_⟩
    refine go_asgL (el_rep (el_lst (ea_cons ev_c ea_nil) (by decide)) (ev_addI (ev_var rfl) ev_c) (by omega) (by omega) (by show 1 * _ ≤ _; omega)) fun f hf => ?_
    have e0 : (List.replicate (((n : Nat) : Int) + 1).toNat [V.int 0]).flatten = (List.replicate (n + 1) (0 : Int)).map V.int := by
      have e1 : (((n : Nat) : Int) + 1).toNat = n + 1 := by omega
      rw [e1, List.map_replicate]
      generalize n + 1 = k
      induction k with
      | zero => rfl
      | succ k ih => rw [List.replicate_succ, List.flatten_cons, ih, List.replicate_succ] <;> rfl
    rw [e0]
    refine go_par (ea_cons (ev_var rfl) (ea_cons (ev_var rfl) ea_nil)) ?_
    refine go_whenS (et_test (ev_eqT (ev_var rfl) ev_c)) [some (.int (n : Nat)), some (.ref p1), some (.ref p2), some (.str (S o)), some (.ref f), some (.ref (if o = tRight then p2 else p1)), some (.ref (if o = tRight then p1 else p2)), none] (fun hb k => ?_) (fun hb => ?_) ?_
    · have ho : o = tRight := of_decide_eq_true hb
      rw [if_pos ho, if_pos ho] at k
      exact go_par (ea_cons (ev_var rfl) (ea_cons (ev_var rfl) ea_nil)) (go_next k)
    · have ho : ¬ o = tRight := of_decide_eq_false hb
      rw [if_neg ho, if_neg ho]
      rfl
    · have hd : SqL K H (if o = tRight then p2 else p1) ((if o = tRight then r else l).map V.int) := by
        split
        · exact hp2
        · exact hp1
      have hu : SqL K H (if o = tRight then p1 else p2) ((if o = tRight then l else r).map V.int) := by
        split
        · exact hp1
        · exact hp2
      have bd : ∀ x ∈ (if o = tRight then r else l), 0 ≤ x ∧ x ≤ (n : Nat) := by
        split
        · exact hR
        · exact hl
      have bu : ∀ x ∈ (if o = tRight then l else r), 0 ≤ x ∧ x ≤ (n : Nat) := by
        split
        · exact hl
        · exact hR
      have q2 := q f hf
      unfold sidesL at q2
      generalize (if o = tRight then p2 else p1) = pd at *
      generalize (if o = tRight then p1 else p2) = pu at *
      generalize (if o = tRight then r else l) = dn at *
      generalize (if o = tRight then l else r) = up at *
      refine put_loop (n := n) (v := 1) hf hd bd (by rw [List.length_replicate]) (fun y => [some (.int (n : Nat)), some (.ref p1), some (.ref p2), some (.str (S o)), some (.ref f), some (.ref pd), some (.ref pu), y]) (fun _ _ => rfl) (fun _ => rfl) (fun _ => rfl) (fun _ _ => ev_c) none (ev_var rfl) fun y => ?_
      refine put_loop (n := n) (v := -1) hf hu bu (by rw [putAll_len, List.length_replicate]) (fun y => [some (.int (n : Nat)), some (.ref p1), some (.ref p2), some (.str (S o)), some (.ref f), some (.ref pd), some (.ref pu), y]) (fun _ _ => rfl) (fun _ => rfl) (fun _ => rfl) (fun _ _ => ev_negI ev_c) y (ev_var rfl) fun y => ?_
      exact go_ret (ev_var rfl) q2
theorem sl_sides_of {H : Hp} {n : Nat} {b d : V} {l r : List Int} {o : List Nat} (h : Pair K H n b d l r) (hn : n ≤ 10000) : SpL (spSidesOf K) [.int (n : Nat), b, d, .str (S o)] H ((sidesL n l r o).map V.int) :=
  sl4 fun H1 e Q q => ⟨n, l, r, o, rfl, rfl, h.mono e, hn, q⟩
end Od

namespace Od
open PySem PySem.Spec PyProof.Rows L2 SX Evl
variable {P : Program} {w : World} {K : PySem.W.Frag} {mg : Str → Option Value} {base : Heap}
/-! ### behind_of -/
def spBehindOf (K : PySem.W.Frag) : Sp := S4 fun a b d e H Q => ∃ (m : List Nat) (l r : List Int) (o : List Nat), a = .str (S m) ∧ e = .str (S o) ∧ Pair K H m.length b d l r ∧ m.length ≤ 10000 ∧ Go H (Q (.str (S (behindL m l r o))))
theorem ok_behind_of (T : Txt K mg) : Cal CX0 P w K mg base 2 "behind_of" (spBehindOf K) :=
  cal_mk T.f_behind_of T.g_behind_of sc_behind_of (fun _ _ _ _ _ _ us hl => match us, hl with | [_, _, _, _], _ => rfl) len4 fun cdv A outer s H vs Q E hr hsp => by
    obtain ⟨a, b, d, e, rfl, m, l, r, o, rfl, rfl, hp, hm, q⟩ := hsp
    refine ⟨_, (pss_cons (ps_set (i := 4) sc_behind_of.nd rfl (Or.inr rfl) (pe_k (ok_sides_of T) hr (by decide) (by rfl) (pa_cons (pe_callB call_lenT (by rfl) T.n_len (by decide +kernel) (pa_cons (pv 0) pa_nil)) (pa_cons (pv 1) (pa_cons (pv 2) (pa_cons (pv 3) pa_nil))))))
      (pss_cons (ps_ret (pe_m1 PySem.F.slot_str_join PySem.F.type_str_join mt_joinT (pe_strS k_empty) (pe_lc (own := [("coin", 5), ("sign", 6)]) rfl sc_behind_of.nd (pi_enumS (by rfl) T.n_enumerate (pa_cons (pv 0) pa_nil)) (blkOk_by (own := [("coin", 5), ("sign", 6)]) (N := ["marks", "left", "right", "outcome", "sides", "coin", "sign"]) (sc := defScope s_behind_of) (by decide +kernel)) (fun _ _ _ _ _ => (pg_tupK K 2 rfl (pgs_cons (pg_name (i := 5) sc_behind_of.nd rfl (Or.inl rfl)) (pgs_cons (pg_name (i := 6) sc_behind_of.nd rfl (Or.inl rfl)) pgs_nil)))) (fun _ _ _ _ _ => pts_nil) (fun _ _ _ _ _ => (pe_k (ok_left_over T) hr (by decide) (by rfl) (pa_cons (pv 6) (pa_cons (pe_ix (ix_listK K) (pv 4) (pv 5) (fun _ _ => rfl)) (pa_cons (pv 3) pa_nil))))))))
      pss_nil)), ?_⟩
    refine go_asgL (el_call0 (ea_cons (ev_lenT (ev_var rfl) (by omega)) (ea_cons (ev_var rfl) (ea_cons (ev_var rfl) (ea_cons (ev_var rfl) ea_nil)))) (sl_sides_of hp hm)) fun f hf => ?_
    have eq1 : (List.range m.length).map (fun i => leftover (m.getD i 0) (sideOf l r o (i : Nat)) o) = behindL m l r o := rfl
    refine go_ret (ev_joinOne (List.range m.length) (fun i => leftover (m.getD i 0) (sideOf l r o (i : Nat)) o) ev_c ?_ (by rw [List.length_range]; omega)) (by rw [eq1]; exact q.mono (Ex.new hf))
    refine el_mapE (fun i => V.str (S [leftover (m.getD i 0) (sideOf l r o (i : Nat)) o])) (ea_cons (ev_var rfl) ea_nil) (by omega) (fun _ _ => rfl) (fun i hi => ?_)
    refine ev_call0 (ea_cons (ev_var rfl) (ea_cons (ev_ixL (n := i) (ev_var rfl) (ev_var rfl) (sq_of upd_same) ?_) (ea_cons (ev_var rfl) ea_nil))) sv_left_over
    rw [List.getElem?_map, sidesL_get (fun x hx => (hp.hl x hx).1) (fun x hx => (hp.hr x hx).1) (by omega)]
    rfl
theorem sv_behind_of {H : Hp} {m : List Nat} {b d : V} {l r : List Int} {o : List Nat} (h : Pair K H m.length b d l r) (hm : m.length ≤ 10000) : SpV (spBehindOf K) [.str (S m), b, d, .str (S o)] H (.str (S (behindL m l r o))) :=
  sv4 fun H1 e Q q => ⟨m, l, r, o, rfl, rfl, h.mono e, hm, q⟩
/-! ### many_behind -/
def spManyBehind (K : PySem.W.Frag) : Sp := S4 fun a b d e H Q => ∃ (m : List Nat) (l r : List Int) (o : List Nat), a = .str (S m) ∧ e = .str (S o) ∧ Pair K H m.length b d l r ∧ m.length ≤ 10000 ∧ Go H (Q (.int (manyN m l r o : Nat)))
theorem ok_many_behind (T : Txt K mg) : Cal CX0 P w K mg base 3 "many_behind" (spManyBehind K) :=
  cal_mk T.f_many_behind T.g_many_behind sc_many_behind (fun _ _ _ _ _ _ us hl => match us, hl with | [_, _, _, _], _ => rfl) len4 fun cdv A outer s H vs Q E hr hsp => by
    obtain ⟨a, b, d, e, rfl, m, l, r, o, rfl, rfl, hp, hm, q⟩ := hsp
    refine ⟨_, (pss_cons (ps_set (i := 4) sc_many_behind.nd rfl (Or.inl rfl) (pe_k (ok_behind_of T) hr (by decide) (by rfl) (pa_cons (pv 0) (pa_cons (pv 1) (pa_cons (pv 2) (pa_cons (pv 3) pa_nil))))))
      (pss_cons (ps_set (i := 5) sc_many_behind.nd rfl (Or.inl rfl) (pe_op op_addI (pe_op op_addI (pe_op op_mulI pe_int (pe_m1 PySem.F.slot_str_count PySem.F.type_str_count mt_countT (pv 4) (pe_strS k_e))) (pe_m1 PySem.F.slot_str_count PySem.F.type_str_count mt_countT (pv 4) (pe_strS k_h))) (pe_m1 PySem.F.slot_str_count PySem.F.type_str_count mt_countT (pv 4) (pe_strS k_l))))
      (pss_cons (ps_if (PW.pt (pw_and (pt_cmpR op_eqT (pv 3) (pe_strS k_even) (nomark _)) (pw_and (pt_cmpR op_notInT (pe_strS k_h) (pv 0) rfl) (pw_and1 (pt_cmpR op_notInT (pe_strS k_l) (pv 0) rfl))))) (pss_cons (ps_aug (i := 5) sc_many_behind.nd rfl (Or.inl rfl) pe_int ip_add)
      pss_nil) pss_nil)
      (pss_cons (ps_ret (pv 5))
      pss_nil)))), ?_⟩
    refine go_asg (ev_call0 (ea_cons (ev_var rfl) (ea_cons (ev_var rfl) (ea_cons (ev_var rfl) (ea_cons (ev_var rfl) ea_nil)))) (sv_behind_of hp hm)) ?_
    refine go_asg (ev_addI (ev_addI (ev_mulI ev_c (ev_countT (ev_var rfl) ev_c) (cmul_l (by decide) (by decide))) (ev_countT (ev_var rfl) ev_c)) (ev_countT (ev_var rfl) ev_c)) ?_
    have et : (!decide (104 ∈ m) && !decide (108 ∈ m)) = !tiltB m := by
      unfold tiltB
      cases decide (104 ∈ m) <;> rfl
    refine go_when (et_and (et_test (ev_eqT (ev_var rfl) ev_c)) fun _ => et_is (et_and (et_test (ev_notInT ev_c (ev_var rfl))) fun _ => et_test (ev_notInT ev_c (ev_var rfl))) et) (fun hb => ?_) (fun hb => ?_)
    · refine go_aug rfl ev_c (go_next (go_ret (ev_var rfl) ?_))
      have e2 : ((manyN m l r o : Nat) : Int) = 2 * (((behindL m l r o).count 101 : Nat) : Int) + (((behindL m l r o).count 104 : Nat) : Int) + (((behindL m l r o).count 108 : Nat) : Int) + 1 := by
        have hb2 : (decide (o = tEven) && !tiltB m) = true := hb
        unfold manyN
        rw [hb2]
        simp
      rw [← e2]
      exact q
    · refine go_ret (ev_var rfl) ?_
      have e2 : ((manyN m l r o : Nat) : Int) = 2 * (((behindL m l r o).count 101 : Nat) : Int) + (((behindL m l r o).count 104 : Nat) : Int) + (((behindL m l r o).count 108 : Nat) : Int) := by
        have hb2 : (decide (o = tEven) && !tiltB m) = false := hb
        unfold manyN
        rw [hb2]
        simp
      rw [← e2]
      exact q
theorem sv_many_behind {H : Hp} {m : List Nat} {b d : V} {l r : List Int} {o : List Nat} (h : Pair K H m.length b d l r) (hm : m.length ≤ 10000) : SpV (spManyBehind K) [.str (S m), b, d, .str (S o)] H (.int (manyN m l r o : Nat)) :=
  sv4 fun H1 e Q q => ⟨m, l, r, o, rfl, rfl, h.mono e, hm, q⟩
end Od

namespace Od
open PySem PySem.Spec PyProof.Rows L2 SX Evl
variable {P : Program} {w : World} {K : PySem.W.Frag} {mg : Str → Option Value} {base : Heap}
/-! ### check_weighing, behind, weighed: of what is right -/
/-- two lists of ints that are a weighing -/
def WPair (K : PySem.W.Frag) (H : Hp) (n : Nat) (b d : V) (l r : List Int) : Prop := (∃ p, b = .ref p ∧ SqL K H p (l.map V.int)) ∧ (∃ p, d = .ref p ∧ SqL K H p (r.map V.int)) ∧ weighB (n : Nat) l r = true ∧ l.length ≤ 20000 ∧ r.length ≤ 20000
theorem WPair.mono {H H1 : Hp} {n : Nat} {b d : V} {l r : List Int} (e : Ex H H1) (h : WPair K H n b d l r) : WPair K H1 n b d l r := by
  obtain ⟨⟨p, h1, h2⟩, ⟨p', h3, h4⟩, h5⟩ := h
  exact ⟨⟨p, h1, ex_l e h2⟩, ⟨p', h3, ex_l e h4⟩, h5⟩
theorem WPair.things {H : Hp} {n : Nat} {b d : V} {l r : List Int} (h : WPair K H n b d l r) : Thing K H b (some (l.map V.int)) ∧ Thing K H d (some (r.map V.int)) := by
  obtain ⟨⟨p, rfl, h2⟩, ⟨p', rfl, h4⟩, _, h6, h7⟩ := h
  exact ⟨thing_ints h2 (by omega), thing_ints h4 (by omega)⟩
theorem WPair.pair {H : Hp} {n : Nat} {b d : V} {l r : List Int} (h : WPair K H n b d l r) : Pair K H n b d l r := by
  obtain ⟨h1, h2, h5, _⟩ := h
  obtain ⟨s1, s2, _⟩ := weigh_un h5
  exact ⟨h1, h2, fun x hx => by have := (lt_side l _ _ s1).2 x hx; omega, fun x hx => by have := (lt_side r _ _ s2).2 x hx; omega⟩
def spCheckWeighing (K : PySem.W.Frag) : Sp := S3 fun a b d H Q => ∃ (n : Nat) (l r : List Int), a = .int (n : Nat) ∧ WPair K H n b d l r ∧ Go H (Q .non)
theorem ok_check_weighing (T : Txt K mg) : Cal CX0 P w K mg base 4 "check_weighing" (spCheckWeighing K) :=
  cal_mk T.f_check_weighing T.g_check_weighing sc_check_weighing (fun _ _ _ _ _ _ us hl => match us, hl with | [_, _, _], _ => rfl) len3 fun cdv A outer s H vs Q E hr hsp => by
    obtain ⟨a, b, d, rfl, n, l, r, rfl, hw, q⟩ := hsp
    refine ⟨_, (pss_cons (ps_if (pt_not (pt_val (pe_k (ok_is_weighing T) hr (by decide) (by rfl) (pa_cons (pv 0) (pa_cons (pv 1) (pa_cons (pv 2) pa_nil)))))) (pss_cons ps_never
      pss_nil) pss_nil)
      pss_nil), ?_⟩
    refine go_when (et_not (et_B (ev_call0 (ea_cons (ev_var rfl) (ea_cons (ev_var rfl) (ea_cons (ev_var rfl) ea_nil))) (sv_is_weighing hw.things.1 hw.things.2)))) (fun hb => ?_) (fun _ => go_next q)
    rw [weighO_ints, hw.2.2.1] at hb
    cases hb
theorem sv_check_weighing {H : Hp} {n : Nat} {b d : V} {l r : List Int} (h : WPair K H n b d l r) : SpV (spCheckWeighing K) [.int (n : Nat), b, d] H .non := sv3 fun H1 e Q q => ⟨n, l, r, rfl, h.mono e, q⟩
theorem inV_outs {o : List Nat} (h : o ∈ outs) : inV (.str (S o)) (outs.map fun o => V.str (S o)) = true := by
  unfold inV
  rw [List.any_map, List.any_eq_true]
  exact ⟨o, h, by show (S o == S o) = true; exact beq_self_eq_true _⟩
theorem outs_at (T : Txt K mg) (H : Hp) : SqL K H (He.ga K "OUTCOMES") (outs.map fun o => V.str (S o)) := by
  have z := T.l_OUTCOMES H
  rw [k_left, k_right, k_even] at z
  exact z
def spBehind (K : PySem.W.Frag) : Sp := S4 fun a b d e H Q => ∃ (m : List Nat) (l r : List Int) (o : List Nat), a = .str (S m) ∧ e = .str (S o) ∧ marksB m = true ∧ m.length ≤ 10000 ∧ WPair K H m.length b d l r ∧ o ∈ outs ∧ 1 ≤ manyN m l r o ∧ Go H (Q (.str (S (behindL m l r o))))
theorem ok_behind (T : Txt K mg) : Cal CX0 P w K mg base 5 "behind" (spBehind K) :=
  cal_mk T.f_behind T.g_behind sc_behind (fun _ _ _ _ _ _ us hl => match us, hl with | [_, _, _, _], _ => rfl) len4 fun cdv A outer s H vs Q E hr hsp => by
    obtain ⟨a, b, d, e, rfl, m, l, r, o, rfl, rfl, hm, hl, hw, ho, h1, q⟩ := hsp
    refine ⟨_, (pss_cons (ps_expr (pe_k (ok_check_marks T) hr (by decide) (by rfl) (pa_cons (pv 0) pa_nil)))
      (pss_cons (ps_expr (pe_k (ok_check_weighing T) hr (by decide) (by rfl) (pa_cons (pe_callB call_lenT (by rfl) T.n_len (by decide +kernel) (pa_cons (pv 0) pa_nil)) (pa_cons (pv 1) (pa_cons (pv 2) pa_nil)))))
      (pss_cons (ps_if (PW.pt (pw_or (pt_not (pt_val (pe_callB (call_isiK2 K) (by rfl) T.n_isinstance (by decide +kernel) (pa_cons (pv 3) (pa_cons (pe_gTy (n := "str") T.n_str) pa_nil))))) (pw_or1 (pt_cmpR (op_notInK K) (pv 3) (pe_gR T.g_OUTCOMES) rfl)))) (pss_cons ps_never
      pss_nil) pss_nil)
      (pss_cons (ps_if (pt_cmpR op_eqI (pe_k (ok_many_behind T) hr (by decide) (by rfl) (pa_cons (pv 0) (pa_cons (pv 1) (pa_cons (pv 2) (pa_cons (pv 3) pa_nil))))) pe_int (nomark _)) (pss_cons ps_never
      pss_nil) pss_nil)
      (pss_cons (ps_ret (pe_k (ok_behind_of T) hr (by decide) (by rfl) (pa_cons (pv 0) (pa_cons (pv 1) (pa_cons (pv 2) (pa_cons (pv 3) pa_nil))))))
      pss_nil))))), ?_⟩
    refine go_drop (ev_call0 (ea_cons (ev_var rfl) ea_nil) (sv_check_marks hm hl)) ?_
    refine go_drop (ev_call0 (ea_cons (ev_lenT (ev_var rfl) (by omega)) (ea_cons (ev_var rfl) (ea_cons (ev_var rfl) ea_nil))) (sv_check_weighing hw)) ?_
    refine go_when (b := false) (et_is (et_or (et_not (et_B (ev_isT (ev_var rfl) ev_c (.ty _) (.base (.str _)) (kit_ty (r := true) (by decide +kernel))))) fun _ => et_test (ev_in (neg := true) (ev_var rfl) ev_c (outs_at T H) rfl (by rfl))) ?_) (fun hb => by cases hb) (fun _ => ?_)
    · rw [if_pos rfl, inV_outs ho] <;> rfl
    · refine go_when (b := false) (et_is (et_test (ev_eqI (ev_call0 (ea_cons (ev_var rfl) (ea_cons (ev_var rfl) (ea_cons (ev_var rfl) (ea_cons (ev_var rfl) ea_nil)))) (sv_many_behind hw.pair hl)) ev_c)) (decide_eq_false (by omega))) (fun hb => by cases hb) (fun _ => ?_)
      exact go_ret (ev_call0 (ea_cons (ev_var rfl) (ea_cons (ev_var rfl) (ea_cons (ev_var rfl) (ea_cons (ev_var rfl) ea_nil)))) (sv_behind_of hw.pair hl)) q
theorem sv_behind {H : Hp} {m : List Nat} {b d : V} {l r : List Int} {o : List Nat} (hm : marksB m = true) (hl : m.length ≤ 10000) (h : WPair K H m.length b d l r) (ho : o ∈ outs) (h1 : 1 ≤ manyN m l r o) : SpV (spBehind K) [.str (S m), b, d, .str (S o)] H (.str (S (behindL m l r o))) :=
  sv4 fun H1 e Q q => ⟨m, l, r, o, rfl, rfl, hm, hl, h.mono e, ho, h1, q⟩
def S5 (R : V → V → V → V → V → Hp → VK → Prop) : Sp := fun vs H Q _ => ∃ a b c d e, vs = [a, b, c, d, e] ∧ R a b c d e H Q
theorem len5 {R : V → V → V → V → V → Hp → VK → Prop} (vs : List V) (H : Hp) (Q : VK) (E : XK) (h : S5 R vs H Q E) : vs.length = 5 := by
  obtain ⟨a, b, c, d, e, rfl, _⟩ := h
  rfl
theorem sv5 {R : V → V → V → V → V → Hp → VK → Prop} {a b c d f z : V} {H : Hp} (h : ∀ H1, Ex H H1 → ∀ Q, Go H1 (Q z) → R a b c d f H1 Q) : SpV (S5 R) [a, b, c, d, f] H z := fun H1 e Q q _ => ⟨a, b, c, d, f, rfl, h H1 e Q q⟩
def spWeighed (K : PySem.W.Frag) : Sp := S5 fun a b c d e H Q => ∃ (n : Nat) (odd : Int) (hv : Bool) (l r : List Int), a = .int (n : Nat) ∧ b = .int odd ∧ c = .bl hv ∧ -1 ≤ odd ∧ odd < n ∧ WPair K H n d e l r ∧ Go H (Q (.str (S (outc l r odd hv))))
theorem ok_weighed (T : Txt K mg) : Cal CX0 P w K mg base 5 "weighed" (spWeighed K) :=
  cal_mk T.f_weighed T.g_weighed sc_weighed (fun _ _ _ _ _ _ us hl => match us, hl with | [_, _, _, _, _], _ => rfl) len5 fun cdv A outer s H vs Q E hr hsp => by
    obtain ⟨a, b, c, d, e, rfl, n, odd, hv, l, r, rfl, rfl, rfl, h1, h2, hw, q⟩ := hsp
    refine ⟨_, (pss_cons (ps_if (PW.pt (pw_or (pt_not (pt_val (pe_k (ok_is_whole T) hr (by decide) (by rfl) (pa_cons (pv 0) pa_nil)))) (pw_or (pt_cmpR op_ltI (pv 0) pe_int (nomark _)) (pw_or (pt_not (pt_val (pe_k (ok_is_whole T) hr (by decide) (by rfl) (pa_cons (pv 1) pa_nil)))) (pw_or (pt_not (pt_chain op_leI op_ltI (pe_un un_negI pe_int) (pv 1) (pv 0))) (pw_or1 (pt_not (pt_val (pe_callB (call_isiK2 K) (by rfl) T.n_isinstance (by decide +kernel) (pa_cons (pv 2) (pa_cons (pe_gTy (n := "bool") T.n_bool) pa_nil))))))))))) (pss_cons ps_never
      pss_nil) pss_nil)
      (pss_cons (ps_expr (pe_k (ok_check_weighing T) hr (by decide) (by rfl) (pa_cons (pv 0) (pa_cons (pv 3) (pa_cons (pv 4) pa_nil)))))
      (pss_cons (ps_if (pt_cmpR (op_inK K) (pv 1) (pv 3) rfl) (pss_cons (ps_ret (pe_ifExp (pt_val (pv 2)) (pe_strS k_left) (pe_strS k_right)))
      pss_nil) pss_nil)
      (pss_cons (ps_if (pt_cmpR (op_inK K) (pv 1) (pv 4) rfl) (pss_cons (ps_ret (pe_ifExp (pt_val (pv 2)) (pe_strS k_right) (pe_strS k_left)))
      pss_nil) pss_nil)
      (pss_cons (ps_ret (pe_strS k_even))
      pss_nil))))), ?_⟩
    obtain ⟨⟨p1, rfl, s1⟩, ⟨p2, rfl, s2⟩, _⟩ := id hw
    refine go_when (b := false) (et_is (et_or (a := false) (et_is (et_not (et_B (ev_call0 (ea_cons (ev_var rfl) ea_nil) (sv_is_whole rfl)))) rfl) fun _ => et_or (a := false) (et_is (et_test (ev_ltI (ev_var rfl) ev_c)) (decide_eq_false (by omega))) fun _ =>
      et_or (a := false) (et_is (et_not (et_B (ev_call0 (ea_cons (ev_var rfl) ea_nil) (sv_is_whole rfl)))) rfl) fun _ => et_or (a := false) (et_is (et_not (et_test (ev_leLt (ev_negI ev_c) (ev_var rfl) (ev_var rfl)))) (by rw [decide_eq_true h1, decide_eq_true h2] <;> rfl)) fun _ =>
      et_not (et_B (ev_isT (ev_var rfl) ev_c (.ty _) (.base (.bl _)) (kit_ty (r := true) (by decide +kernel))))) rfl) (fun hb => by cases hb) (fun _ => ?_)
    refine go_drop (ev_call0 (ea_cons (ev_var rfl) (ea_cons (ev_var rfl) (ea_cons (ev_var rfl) ea_nil))) (sv_check_weighing hw)) ?_
    unfold outc at q
    refine go_when (et_is (et_test (ev_in (neg := false) (ev_var rfl) (ev_var rfl) s1 rfl (all_flat l))) (inV_ints odd l)) (fun hb => ?_) (fun hb => ?_)
    · rw [if_pos (of_decide_eq_true hb)] at q
      refine go_ret (ev_if (et_test (ev_var rfl)) (fun h => ?_) (fun h => ?_)) q
      · subst h; exact ev_c
      · subst h; exact ev_c
    · rw [if_neg (of_decide_eq_false hb)] at q
      refine go_when (et_is (et_test (ev_in (neg := false) (ev_var rfl) (ev_var rfl) s2 rfl (all_flat r))) (inV_ints odd r)) (fun hb => ?_) (fun hb => ?_)
      · rw [if_pos (of_decide_eq_true hb)] at q
        refine go_ret (ev_if (et_test (ev_var rfl)) (fun h => ?_) (fun h => ?_)) q
        · subst h; exact ev_c
        · subst h; exact ev_c
      · rw [if_neg (of_decide_eq_false hb)] at q
        exact go_ret ev_c q
theorem sv_weighed {H : Hp} {n : Nat} {odd : Int} {hv : Bool} {d e : V} {l r : List Int} (h1 : -1 ≤ odd) (h2 : odd < n) (h : WPair K H n d e l r) : SpV (spWeighed K) [.int (n : Nat), .int odd, .bl hv, d, e] H (.str (S (outc l r odd hv))) :=
  sv5 fun H1 e Q q => ⟨n, odd, hv, l, r, rfl, rfl, rfl, h1, h2, h.mono e, q⟩
end Od

namespace Od
open PySem PySem.Spec PyProof.Rows L2 SX Evl
variable {P : Program} {w : World} {K : PySem.W.Frag} {mg : Str → Option Value} {base : Heap}
/-! ### behind, that may raise Never -/
def behR (K : PySem.W.Frag) (m : List Nat) (l r : List Int) (o : List Nat) : Res := if manyN m l r o = 0 then .exc (He.ga K "Never") else .val (.str (S (behindL m l r o)))
def spBehindX (K : PySem.W.Frag) : Sp := S4x fun a b d e H Q E => ∃ (m : List Nat) (l r : List Int) (o : List Nat), a = .str (S m) ∧ e = .str (S o) ∧ marksB m = true ∧ m.length ≤ 10000 ∧ WPair K H m.length b d l r ∧ o ∈ outs ∧ ends (behR K m l r o) H Q E
theorem okx_behind (T : Txt K mg) : Cal (CXn P w) P w K mg base 5 "behind" (spBehindX K) :=
  calx_mk T.f_behind T.g_behind sc_behind (fun _ _ _ _ _ _ us hl => match us, hl with | [_, _, _, _], _ => rfl) lenx4 fun cdv A outer s H vs Q E hr hsp => by
    obtain ⟨a, b, d, e, rfl, m, l, r, o, rfl, rfl, hm, hl, hw, ho, q⟩ := hsp
    refine ⟨_, (pss_cons (ps_expr (pe_k (ok_check_marks T) hr (by decide) (by rfl) (pa_cons (pv 0) pa_nil)))
      (pss_cons (ps_expr (pe_k (ok_check_weighing T) hr (by decide) (by rfl) (pa_cons (pe_callB call_lenT (by rfl) T.n_len (by decide +kernel) (pa_cons (pv 0) pa_nil)) (pa_cons (pv 1) (pa_cons (pv 2) pa_nil)))))
      (pss_cons (ps_if (PW.pt (pw_or (pt_not (pt_val (pe_callB (call_isiK2 K) (by rfl) T.n_isinstance (by decide +kernel) (pa_cons (pv 3) (pa_cons (pe_gTy (n := "str") T.n_str) pa_nil))))) (pw_or1 (pt_cmpR (op_notInK K) (pv 3) (pe_gR T.g_OUTCOMES) rfl)))) (pss_cons (L2N.ps_raise rfl (L2N.takes_of rfl rfl rfl rfl) (L2N.pmk_own PySem.F.excBase_ValueError (T.x_BadOutcome).1 T.g_BadOutcome (T.x_BadOutcome).2.1 (raises_own (T.x_BadOutcome).2.2.1 (T.x_BadOutcome).2.2.2) rfl))
      pss_nil) pss_nil)
      (pss_cons (ps_if (pt_cmpR op_eqI (pe_k (ok_many_behind T) hr (by decide) (by rfl) (pa_cons (pv 0) (pa_cons (pv 1) (pa_cons (pv 2) (pa_cons (pv 3) pa_nil))))) pe_int (nomark _)) (pss_cons (L2N.ps_raise rfl (L2N.takes_of rfl rfl rfl rfl) (L2N.pmk_own PySem.F.excBase_ValueError (T.x_Never).1 T.g_Never (T.x_Never).2.1 (raises_own (T.x_Never).2.2.1 (T.x_Never).2.2.2) rfl))
      pss_nil) pss_nil)
      (pss_cons (ps_ret (pe_k (ok_behind_of T) hr (by decide) (by rfl) (pa_cons (pv 0) (pa_cons (pv 1) (pa_cons (pv 2) (pa_cons (pv 3) pa_nil))))))
      pss_nil))))), ?_⟩
    refine go_drop (ev_call0 (ea_cons (ev_var rfl) ea_nil) (sv_check_marks hm hl)) ?_
    refine go_drop (ev_call0 (ea_cons (ev_lenT (ev_var rfl) (by omega)) (ea_cons (ev_var rfl) (ea_cons (ev_var rfl) ea_nil))) (sv_check_weighing hw)) ?_
    refine go_when (b := false) (et_is (et_or (et_not (et_B (ev_isT (ev_var rfl) ev_c (.ty _) (.base (.str _)) (kit_ty (r := true) (by decide +kernel))))) fun _ => et_test (ev_in (neg := true) (ev_var rfl) ev_c (outs_at T H) rfl (by rfl))) ?_) (fun hb => by cases hb) (fun _ => ?_)
    · rw [if_pos rfl, inV_outs ho] <;> rfl
    · unfold behR at q
      refine go_when (et_test (ev_eqI (ev_call0 (ea_cons (ev_var rfl) (ea_cons (ev_var rfl) (ea_cons (ev_var rfl) (ea_cons (ev_var rfl) ea_nil)))) (sv_many_behind hw.pair hl)) ev_c)) (fun hb => ?_) (fun hb => ?_)
      · have hz : manyN m l r o = 0 := by
          have := of_decide_eq_true hb
          omega
        rw [if_pos hz] at q
        exact (show Go H (E (.ref (He.ga K "Never")) none) from q)
      · have hz : ¬ manyN m l r o = 0 := by
          have := of_decide_eq_false hb
          omega
        rw [if_neg hz] at q
        exact go_ret (ev_call0 (ea_cons (ev_var rfl) (ea_cons (ev_var rfl) (ea_cons (ev_var rfl) (ea_cons (ev_var rfl) ea_nil)))) (sv_behind_of hw.pair hl)) q
theorem sx_behind {H : Hp} {m : List Nat} {b d : V} {l r : List Int} {o : List Nat} (hm : marksB m = true) (hl : m.length ≤ 10000) (h : WPair K H m.length b d l r) (ho : o ∈ outs) : SpE (spBehindX K) [.str (S m), b, d, .str (S o)] H (behR K m l r o) :=
  fun H1 e Q E q => ⟨_, _, _, _, rfl, m, l, r, o, rfl, rfl, hm, hl, h.mono e, ho, q⟩
/-! ### law_told -/
abbrev tNever : List Nat := [110, 101, 118, 101, 114]
def toldL (m : List Nat) (l r : List Int) (o : List Nat) : List Nat := if manyN m l r o = 0 then tNever else behindL m l r o
def spLawTold (K : PySem.W.Frag) : Sp := S4 fun a b d e H Q => ∃ (m : List Nat) (l r : List Int) (o : List Nat), a = .str (S m) ∧ e = .str (S o) ∧ marksB m = true ∧ m.length ≤ 10000 ∧ WPair K H m.length b d l r ∧ o ∈ outs ∧ Go H (Q (.str (S (toldL m l r o))))
theorem ev_anyQ {σ : L2.St} {H : Hp} {ta : TE} {p : Addr} {bs : List Bool} (ha : Ev ta σ H (.ref p)) (h : SqL K H p (bs.map V.bl)) : Ev (tCB (rAny K) (tCons ta tNil)) σ H (.bl (bs.any _root_.id)) := fun H1 e Q q => ha H1 e _ fun H2 e2 => ⟨p, bs, rfl, ex_l (e.trans e2) h, q H2 e2⟩
theorem go_tryAs {H : Hp} {σ : L2.St} {D : Ends} {tz : TS} {tb : WX → TS} {ts : Addr → Value → Option Addr → TS} {c : Value} {i : Nat} {Wo : WX} (h : Go H (tb (wAs K c i ts Wo { D with nx := tz D }) { D with nx := tz D } σ)) : Go H (tSeq (fun D σ H => tb (wAs K c i ts Wo D) D σ H) tz D σ) := h
/-- an exception meets the clause -/
theorem w_meets {H : Hp} {σ : L2.St} {D : Ends} {ts : Addr → Value → Option Addr → TS} {cls c : Value} {i : Nat} {Wo : WX} (he : PySem.W.exmOne K cls c = some true)
    (k : ∀ a H1, Ex H H1 → H1 a = none → Go H1 (ts a cls none { nx := fun σ' H' => D.nx (σ'.set i none) H', rt := D.rt, bk := fun σ' H' => D.bk (σ'.set i none) H', ct := fun σ' H' => D.ct (σ'.set i none) H' } (σ.set i (some (.ref a))))) : Go H (wAs K c i ts Wo D cls none σ) := fun H1 e =>
  ⟨true, he, fun _ a ha => (k a H1 e ha).here, fun h => by cases h⟩
theorem ok_law_told (T : Txt K mg) : Cal CX0 P w K mg base 6 "_law_told" (spLawTold K) :=
  cal_mk T.f_law_told T.g_law_told sc_law_told (fun _ _ _ _ _ _ us hl => match us, hl with | [_, _, _, _], _ => rfl) len4 fun cdv A outer s H vs Q E hr hsp => by
    obtain ⟨a, b, d, e, rfl, m, l, r, o, rfl, rfl, hm, hl, hw, ho, q⟩ := hsp
    refine ⟨_, (pss_cons (L2N.ps_try_as (i := 4) (tb := fun W => (tSeq (tRet (tCallS (spBehindX K) (WE W) (tCons (tVar 0) (tCons (tVar 1) (tCons (tVar 2) (tCons (tVar 3) tNil)))))) tNext)) (ts := fun a cls d => (tSeq (tAsg (tLst (tCons (tCB (rIsX K a cls d) (tCons (tVar 4) (tCons (tC (.ref (He.ga K "BadCoin"))) tNil))) (tCons (tCB (rIsX K a cls d) (tCons (tVar 4) (tCons (tC (.ref (He.ga K "BadMarks"))) tNil))) (tCons (tCB (rIsX K a cls d) (tCons (tVar 4) (tCons (tC (.ref (He.ga K "BadOutcome"))) tNil))) tNil)))) (gName 5)) (tSeq (tAsg (tOp rCat (tVar 5) (tLst (tCons (tCB (rIsX K a cls d) (tCons (tVar 4) (tCons (tC (.ref (He.ga K "BadText"))) tNil))) (tCons (tCB (rIsX K a cls d) (tCons (tVar 4) (tCons (tC (.ref (He.ga K "BadWeighing"))) tNil))) tNil)))) (gName 5)) (tSeq (tDrop (tBM K "list" rAppend (tVar 5) (tCons (tNotV (tCB (rIsX K a cls d) (tCons (tVar 4) (tCons (tC (.ty "ValueError")) tNil)))) tNil))) (tSeq (tRet (tIf (tAnd (tB (tCB (rIsX K a cls d) (tCons (tVar 4) (tCons (tC (.ref (He.ga K "Never"))) tNil)))) (tNot (tB (tCB (rAny K) (tCons (tVar 5) tNil))))) (tC (.str (S [110, 101, 118, 101, 114]))) (tC (.str (S [111, 116, 104, 101, 114]))))) tNext))))) (Wout := fun _ _ _ _ => False) rfl rfl sc_law_told.nd rfl rfl ⟨rfl, by decide, .inl T.g_CoinError⟩ takesN0 (fun W pn xe tk po => by exact (pss_cons (ps_ret (pe_kx (okx_behind T) hr (by decide) (by rfl) tk (pa_cons (pv 0) (pa_cons (pv 1) (pa_cons (pv 2) (pa_cons (pv 3) pa_nil))))))
      pss_nil)) (fun a oe cls d pn hz hf => by exact (pss_cons (ps_set (i := 5) sc_law_told.nd rfl (Or.inl rfl) (pe_lst (pa_cons (pe_callB (call_isX K hz hf) (by rfl) T.n_isinstance (by decide +kernel) (pa_cons (pv 4) (pa_cons (pe_gR T.g_BadCoin) pa_nil))) (pa_cons (pe_callB (call_isX K hz hf) (by rfl) T.n_isinstance (by decide +kernel) (pa_cons (pv 4) (pa_cons (pe_gR T.g_BadMarks) pa_nil))) (pa_cons (pe_callB (call_isX K hz hf) (by rfl) T.n_isinstance (by decide +kernel) (pa_cons (pv 4) (pa_cons (pe_gR T.g_BadOutcome) pa_nil))) pa_nil)))))
      (pss_cons (ps_set (i := 5) sc_law_told.nd rfl (Or.inl rfl) (pe_op op_cat (pv 5) (pe_lst (pa_cons (pe_callB (call_isX K hz hf) (by rfl) T.n_isinstance (by decide +kernel) (pa_cons (pv 4) (pa_cons (pe_gR T.g_BadText) pa_nil))) (pa_cons (pe_callB (call_isX K hz hf) (by rfl) T.n_isinstance (by decide +kernel) (pa_cons (pv 4) (pa_cons (pe_gR T.g_BadWeighing) pa_nil))) pa_nil)))))
      (pss_cons (ps_expr (pe_bm PySem.F.plainAttrs_list PySem.F.slot_list_append PySem.F.type_list_append mt_append (pv 5) (pa_cons (pe_not (pe_callB (call_isX K hz hf) (by rfl) T.n_isinstance (by decide +kernel) (pa_cons (pv 4) (pa_cons (pe_gTy (n := "ValueError") T.n_ValueError) pa_nil)))) pa_nil)))
      (pss_cons (ps_ret (pe_ifExp (PW.pt (pw_and (pt_val (pe_callB (call_isX K hz hf) (by rfl) T.n_isinstance (by decide +kernel) (pa_cons (pv 4) (pa_cons (pe_gR T.g_Never) pa_nil)))) (pw_and1 (pt_not (pt_val (pe_callB (cr_anyH K (hot_of hz hf)) (by rfl) T.n_any (by decide +kernel) (pa_cons (pv 5) pa_nil))))))) (pe_strS k_never) (pe_strS k_other)))
      pss_nil))))))
      pss_nil), ?_⟩
    unfold toldL at q
    refine go_tryAs (tb := fun W => tSeq (tRet (tCallS (spBehindX K) (WE W) (tCons (tVar 0) (tCons (tVar 1) (tCons (tVar 2) (tCons (tVar 3) tNil)))))) tNext) (go_retX (r := behR K m l r o) (ea_cons (ev_var rfl) (ea_cons (ev_var rfl) (ea_cons (ev_var rfl) (ea_cons (ev_var rfl) ea_nil)))) (sx_behind hm hl hw ho) ?_)
    unfold behR
    by_cases hz : manyN m l r o = 0
    · rw [if_pos hz]
      rw [if_pos hz] at q
      refine w_meets T.e_Never_CoinError fun a H1 e1 ha => ?_
      have q1 := q.mono e1
      have C := T.ec_Never
      refine go_asgL (xs := [false, false, false].map V.bl) (el_lst (ea_cons (ev_isX (ev_var rfl) ev_c (.own _) C T.t_Never_BadCoin) (ea_cons (ev_isX (ev_var rfl) ev_c (.own _) C T.t_Never_BadMarks) (ea_cons (ev_isX (ev_var rfl) ev_c (.own _) C T.t_Never_BadOutcome) ea_nil))) (by simp)) fun p hp => ?_
      refine go_asgL (xs := [false, false, false, false, false].map V.bl) (el_catN (xs := [false, false, false].map V.bl) (ys := [false, false].map V.bl) (ev_var rfl) (el_lst (ea_cons (ev_isX (ev_var rfl) ev_c (.own _) C T.t_Never_BadText) (ea_cons (ev_isX (ev_var rfl) ev_c (.own _) C T.t_Never_BadWeighing) ea_nil)) (by simp)) upd_same (by decide)) fun p2 hp2 => ?_
      refine go_app (xs := [false, false, false, false, false].map V.bl) upd_same (ev_var rfl) (ev_notV (ev_isX (ev_var rfl) ev_c (.ty _) C T.t_Never_ValueError)) (by decide) ?_
      refine go_ret (v := .str (S tNever)) (ev_if (b := true) (et_is (et_and (et_B (ev_isX (ev_var rfl) ev_c (.own _) C T.t_Never_Never)) fun _ => et_not (et_B (ev_anyQ (bs := [false, false, false, false, false, false]) (ev_var rfl) (sq_of (by rw [upd_same] <;> rfl))))) rfl) (fun _ => ev_c) (fun h => by cases h)) ?_
      refine q1.mono fun b u hb => ?_
      have hb2 := Ex.new (o := HO.lst ([false, false, false].map V.bl)) hp _ _ hb
      rw [upd_ne (ne_of_none hb2 hp2), upd_ne (ne_of_none hb2 hp2)]
      exact hb2
    · rw [if_neg hz]
      rw [if_neg hz] at q
      exact q
theorem sv_law_told {H : Hp} {m : List Nat} {b d : V} {l r : List Int} {o : List Nat} (hm : marksB m = true) (hl : m.length ≤ 10000) (h : WPair K H m.length b d l r) (ho : o ∈ outs) : SpV (spLawTold K) [.str (S m), b, d, .str (S o)] H (.str (S (toldL m l r o))) :=
  sv4 fun H1 e Q q => ⟨m, l, r, o, rfl, rfl, hm, hl, h.mono e, ho, q⟩
end Od

namespace Od
open PySem PySem.Spec PyProof.Rows L2 SX Evl
variable {P : Program} {w : World} {K : PySem.W.Frag} {mg : Str → Option Value} {base : Heap}
/-! ### law_cell_at, law_draw -/
def spCellAt (K : PySem.W.Frag) : Sp := S2 fun a b H Q => ∃ (p : Addr) (xs : List Int) (k : Nat), a = .ref p ∧ SqL K H p (xs.map V.int) ∧ b = .int (k : Nat) ∧ Go H (Q (.int (xs.getD k 0)))
theorem ok_law_cell_at (T : Txt K mg) : Cal CX0 P w K mg base 1 "_law_cell_at" (spCellAt K) :=
  cal_mk T.f_law_cell_at T.g_law_cell_at sc_law_cell_at (fun _ _ _ _ _ _ us hl => match us, hl with | [_, _], _ => rfl) len2 fun cdv A outer s H vs Q E hr hsp => by
    obtain ⟨a, b, rfl, p, xs, k, rfl, hp, rfl, q⟩ := hsp
    refine ⟨_, (pss_cons (ps_if (pt_cmpR op_ltI (pv 1) (pe_callB (call_lenQK K) (by rfl) T.n_len (by decide +kernel) (pa_cons (pv 0) pa_nil)) (nomark _)) (pss_cons (ps_ret (pe_ix (ix_listK K) (pv 0) (pv 1) (fun _ _ => rfl)))
      pss_nil) pss_nil)
      (pss_cons (ps_ret pe_int)
      pss_nil)), ?_⟩
    refine go_when (et_test (ev_ltI (ev_var rfl) (ev_lenQ (ev_var rfl) hp))) (fun hb => ?_) (fun hb => ?_)
    · have h := of_decide_eq_true hb
      rw [List.length_map] at h
      have h2 : k < xs.length := by omega
      refine go_ret (ev_ixL (n := k) (ev_var rfl) (ev_var rfl) hp ?_) q
      rw [List.getElem?_map, List.getElem?_eq_getElem h2, List.getD_eq_getElem?_getD, List.getElem?_eq_getElem h2]
      rfl
    · have h := of_decide_eq_false hb
      rw [List.length_map] at h
      have e : xs.getD k 0 = 0 := by rw [List.getD_eq_getElem?_getD, List.getElem?_eq_none (by omega)]; rfl
      rw [e] at q
      exact go_ret ev_c q
theorem sv_cell_at {H : Hp} {p : Addr} {xs : List Int} {k : Nat} (h : SqL K H p (xs.map V.int)) : SpV (spCellAt K) [.ref p, .int (k : Nat)] H (.int (xs.getD k 0)) := sv2 fun H1 e Q q => ⟨p, xs, k, rfl, ex_l e h, rfl, q⟩
def spDraw : Sp := S3 fun a b c H Q => ∃ (x : Int) (k : Nat) (many : Int), a = .int x ∧ b = .int (k : Nat) ∧ c = .int many ∧ 0 < many ∧ Go H (Q (.int (drawI x k many)))
theorem ok_law_draw (T : Txt K mg) : Cal CX0 P w K mg base 1 "_law_draw" spDraw :=
  cal_mk T.f_law_draw T.g_law_draw sc_law_draw (fun _ _ _ _ _ _ us hl => match us, hl with | [_, _, _], _ => rfl) len3 fun cdv A outer s H vs Q E hr hsp => by
    obtain ⟨a, b, c, rfl, x, k, many, rfl, rfl, rfl, hm, q⟩ := hsp
    refine ⟨_, (pss_cons (ps_set (i := 3) sc_law_draw.nd rfl (Or.inl rfl) (pe_tup (pa_cons pe_int (pa_cons pe_int (pa_cons pe_int (pa_cons pe_int (pa_cons pe_int (pa_cons pe_int (pa_cons pe_int (pa_cons pe_int (pa_cons pe_int (pa_cons pe_int (pa_cons pe_int (pa_cons pe_int (pa_cons pe_int (pa_cons pe_int (pa_cons pe_int (pa_cons pe_int pa_nil))))))))))))))))))
      (pss_cons (ps_ret (pe_op op_modI (pe_op op_modI (pe_op op_addI (pe_op op_mulI (pv 0) pe_int) (pe_op op_mulI (pv 1) pe_int)) (pe_ix (ix_tupK K) (pv 3) (pe_op op_modI (pv 1) pe_int) (fun _ _ => rfl))) (pv 2)))
      pss_nil)), ?_⟩
    refine go_asgU (xs := primes.map V.int) (eu_tup (ea_cons ev_c (ea_cons ev_c (ea_cons ev_c (ea_cons ev_c (ea_cons ev_c (ea_cons ev_c (ea_cons ev_c (ea_cons ev_c (ea_cons ev_c (ea_cons ev_c (ea_cons ev_c (ea_cons ev_c (ea_cons ev_c (ea_cons ev_c (ea_cons ev_c (ea_cons ev_c ea_nil)))))))))))))))) (by decide)) fun p hp => ?_
    have hk : k % 16 < 16 := Nat.mod_lt _ (by decide)
    refine go_ret (ev_modI (ev_modI (ev_addI (ev_mulI (ev_var rfl) ev_c (.inr ⟨by decide, by decide⟩)) (ev_mulI (ev_var rfl) ev_c (.inr ⟨by decide, by decide⟩))) (ev_ixT (n := k % 16) (ev_var rfl) (ev_is (ev_modI (ev_var rfl) ev_c (by decide)) (by congr 1)) (st_of upd_same) (primes_at _ hk)) (primes_pos _ hk)) (ev_var rfl) hm) (q.mono (Ex.new hp))
theorem sv_draw {H : Hp} {x : Int} {k : Nat} {many : Int} (h : 0 < many) : SpV spDraw [.int x, .int (k : Nat), .int many] H (.int (drawI x k many)) := sv3 fun H1 e Q q => ⟨x, k, many, rfl, rfl, rfl, h, q⟩
end Od

namespace Od
open PySem PySem.Spec PyProof.Rows L2 SX Evl
variable {P : Program} {w : World} {K : PySem.W.Frag} {mg : Str → Option Value} {base : Heap}
/-! ### law_marks -/
def tabS : List (List Nat) := [[101, 101, 101, 103], [104, 108, 103], [104, 104, 104, 108], [101, 103], [103, 103, 103, 108]]
def kindI (xs : List Int) : Nat := (drawI (xs.getD 0 0) 6 5).toNat
def signsL (xs : List Int) : List Nat := tabS.getD (kindI xs) []
def markAt (xs : List Int) (k : Nat) : Nat := (signsL xs).getD (drawI (xs.getD k 0) (k % 5 + 1) ((signsL xs).length : Nat)).toNat 0
def marksL (xs : List Int) : List Nat := (List.range xs.length).map fun k => markAt xs k
theorem kind_lt (xs : List Int) : kindI xs < 5 := by
  have a := draw_0 (c := xs.getD 0 0) (k := 6) (many := 5) (by decide)
  have b := draw_lt (c := xs.getD 0 0) (k := 6) (many := 5) (by decide)
  unfold kindI
  omega
theorem tab_at : ∀ i, i < 5 → 0 < (tabS.getD i []).length ∧ (tabS.getD i []).length ≤ 4 ∧ (∀ c ∈ tabS.getD i [], c = 101 ∨ c = 104 ∨ c = 108 ∨ c = 103) ∧ (101 ∈ tabS.getD i [] → ¬ 104 ∈ tabS.getD i [] ∧ ¬ 108 ∈ tabS.getD i []) := by decide
theorem marks_len (xs : List Int) : (marksL xs).length = xs.length := by
  unfold marksL
  rw [List.length_map, List.length_range]
theorem mark_mem (xs : List Int) (k : Nat) : markAt xs k ∈ signsL xs := by
  have h := (tab_at _ (kind_lt xs)).1
  have a := draw_0 (c := xs.getD k 0) (k := k % 5 + 1) (many := ((signsL xs).length : Nat)) (by unfold signsL; omega)
  have b := draw_lt (c := xs.getD k 0) (k := k % 5 + 1) (many := ((signsL xs).length : Nat)) (by unfold signsL; omega)
  exact get_mem (by omega)
theorem marks_ok (xs : List Int) : marksB (marksL xs) = true := by
  obtain ⟨_, _, h1, h2⟩ := tab_at _ (kind_lt xs)
  have sub : ∀ c ∈ marksL xs, c ∈ signsL xs := fun c hc => by
    obtain ⟨k, _, rfl⟩ := List.mem_map.mp hc
    exact mark_mem xs k
  exact marks_mk (fun c hc => h1 c (sub c hc)) fun h => ⟨fun q => (h2 (sub _ h)).1 (sub _ q), fun q => (h2 (sub _ h)).2 (sub _ q)⟩
def spLawMarks (K : PySem.W.Frag) : Sp := S1 fun a H Q => ∃ (p : Addr) (xs : List Int), a = .ref p ∧ SqL K H p (xs.map V.int) ∧ xs.length ≤ 1000 ∧ Go H (Q (.str (S (marksL xs))))
theorem ok_law_marks (T : Txt K mg) : Cal CX0 P w K mg base 2 "_law_marks" (spLawMarks K) :=
  cal_mk T.f_law_marks T.g_law_marks sc_law_marks (fun _ _ _ _ _ _ us hl => match us, hl with | [_], _ => rfl) len1 fun cdv A outer s H vs Q E hr hsp => by
    obtain ⟨a, rfl, p, xs, rfl, hp, hl, q⟩ := hsp
    refine ⟨_, (pss_cons (ps_set (i := 1) sc_law_marks.nd rfl (Or.inl rfl) (pe_k (ok_law_draw T) hr (by decide) (by rfl) (pa_cons (pe_k (ok_law_cell_at T) hr (by decide) (by rfl) (pa_cons (pv 0) (pa_cons pe_int pa_nil))) (pa_cons pe_int (pa_cons pe_int pa_nil)))))
      (pss_cons (ps_set (i := 2) sc_law_marks.nd rfl (Or.inr rfl) (pe_ix (ix_tupK K) (pe_tup (pa_cons (pe_strS k_eeeg) (pa_cons (pe_strS k_hlg) (pa_cons (pe_strS k_hhhl) (pa_cons (pe_strS k_eg) (pa_cons (pe_strS k_gggl) pa_nil)))))) (pv 1) (fun _ _ => rfl)))
      (pss_cons (ps_ret (pe_m1 PySem.F.slot_str_join PySem.F.type_str_join mt_joinT (pe_strS k_empty) (pe_lc (own := [("_law_k", 3)]) rfl sc_law_marks.nd (pi_range1 (by rfl) T.n_range (pa_cons (pe_callB (call_lenQK K) (by rfl) T.n_len (by decide +kernel) (pa_cons (pv 0) pa_nil)) pa_nil)) (blkOk_by (own := [("_law_k", 3)]) (N := ["_law_script", "_law_kind", "_law_signs", "_law_k"]) (sc := defScope s_law_marks) (by decide +kernel)) (fun _ _ _ _ _ => (pg_name (i := 3) sc_law_marks.nd rfl (Or.inl rfl))) (fun _ _ _ _ _ => pts_nil) (fun _ _ _ _ _ => (pe_ix ix_str (pv 2) (pe_k (ok_law_draw T) hr (by decide) (by rfl) (pa_cons (pe_ix (ix_listK K) (pv 0) (pv 3) (fun _ _ => rfl)) (pa_cons (pe_op op_addI (pe_op op_modI (pv 3) pe_int) pe_int) (pa_cons (pe_callB call_lenT (by rfl) T.n_len (by decide +kernel) (pa_cons (pv 2) pa_nil)) pa_nil)))) (fun _ _ => rfl))))))
      pss_nil))), ?_⟩
    have ek : drawI (xs.getD 0 0) 6 5 = ((kindI xs : Nat) : Int) := by
      have a := draw_0 (c := xs.getD 0 0) (k := 6) (many := 5) (by decide)
      unfold kindI
      omega
    obtain ⟨h0, h4, _⟩ := tab_at _ (kind_lt xs)
    refine go_asg (ev_is (ev_call0 (ea_cons (ev_call0 (ea_cons (ev_var rfl) (ea_cons ev_c ea_nil)) (sv_cell_at (k := 0) hp)) (ea_cons ev_c (ea_cons ev_c ea_nil))) (sv_draw (k := 6) (by decide))) (by rw [ek])) ?_
    refine go_asg (v := .str (S (signsL xs))) (ev_ixU (xs := tabS.map fun t => .str (S t)) (n := kindI xs) (eu_tup (ea_cons ev_c (ea_cons ev_c (ea_cons ev_c (ea_cons ev_c (ea_cons ev_c ea_nil))))) (by decide)) (ev_var rfl) ?_) ?_
    · rw [List.getElem?_map]
      unfold signsL
      have hk := kind_lt xs
      rw [List.getD_eq_getElem?_getD, List.getElem?_eq_getElem (by exact hk)]
      rfl
    · have ml : (marksL xs).length ≤ 1000 := by rw [marks_len]; exact hl
      refine go_ret (ev_joinOne (List.range xs.length) (markAt xs) ev_c ?_ (by rw [List.length_range]; omega)) q
      refine el_mapR (fun k => V.str (S [markAt xs k])) (ea_cons (ev_is (ev_lenQ (ev_var rfl) hp) (by rw [List.length_map])) ea_nil) (by omega) (fun _ => rfl) fun k hk => ?_
      have hs : 0 < ((signsL xs).length : Nat) := h0
      have a := draw_0 (c := xs.getD k 0) (k := k % 5 + 1) (many := ((signsL xs).length : Nat)) (by omega)
      have b := draw_lt (c := xs.getD k 0) (k := k % 5 + 1) (many := ((signsL xs).length : Nat)) (by omega)
      have hs4 : (signsL xs).length ≤ 4 := h4
      refine ev_ixS (n := (drawI (xs.getD k 0) (k % 5 + 1) ((signsL xs).length : Nat)).toNat) (ev_var rfl) (ev_is (ev_call0 (ea_cons (ev_ixL (n := k) (v := .int (xs.getD k 0)) (ev_var rfl) (ev_var rfl) hp ?_) (ea_cons (ev_is (ev_addI (ev_modI (ev_var rfl) ev_c (by decide)) ev_c) (w := .int ((k % 5 + 1 : Nat) : Int)) (by congr 1)) (ea_cons (ev_lenT (ev_var rfl) (by omega)) ea_nil))) (sv_draw (by omega))) ?_) (by omega) (by omega)
      · rw [List.getElem?_map, List.getElem?_eq_getElem hk, List.getD_eq_getElem?_getD, List.getElem?_eq_getElem hk]
        rfl
      · congr 1
        omega
theorem sv_law_marks {H : Hp} {p : Addr} {xs : List Int} (h : SqL K H p (xs.map V.int)) (hl : xs.length ≤ 1000) : SpV (spLawMarks K) [.ref p] H (.str (S (marksL xs))) := sv1 fun H1 e Q q => ⟨p, xs, rfl, ex_l e h, hl, q⟩
/-! ### law_cases -/
theorem ok_law_cases (T : Txt K mg) : Cal CX0 P w K mg base 1 "_law_cases" spCasesOf :=
  cal_mk T.f_law_cases T.g_law_cases sc_law_cases (fun _ _ _ _ _ _ us hl => match us, hl with | [_], _ => rfl) len1 fun cdv A outer s H vs Q E hr hsp => by
    obtain ⟨a, rfl, m, rfl, q⟩ := hsp
    refine ⟨_, (pss_cons (ps_set (i := 1) sc_law_cases.nd rfl (Or.inl rfl) (pe_op op_addI (pe_op op_addI (pe_op op_mulI pe_int (pe_m1 PySem.F.slot_str_count PySem.F.type_str_count mt_countT (pv 0) (pe_strS k_e))) (pe_m1 PySem.F.slot_str_count PySem.F.type_str_count mt_countT (pv 0) (pe_strS k_h))) (pe_m1 PySem.F.slot_str_count PySem.F.type_str_count mt_countT (pv 0) (pe_strS k_l))))
      (pss_cons (ps_ret (pe_ifExp (PW.pt (pw_or (pt_cmpR op_inT (pe_strS k_h) (pv 0) rfl) (pw_or1 (pt_cmpR op_inT (pe_strS k_l) (pv 0) rfl)))) (pv 1) (pe_op op_addI (pv 1) pe_int)))
      pss_nil)), ?_⟩
    refine go_asg (ev_addI (ev_addI (ev_mulI ev_c (ev_countT (ev_var rfl) ev_c) (cmul_l (by decide) (by decide))) (ev_countT (ev_var rfl) ev_c)) (ev_countT (ev_var rfl) ev_c)) ?_
    refine go_ret (ev_if (b := tiltB m) (et_or (et_test (ev_inT ev_c (ev_var rfl))) fun _ => et_test (ev_inT ev_c (ev_var rfl))) (fun hb => ?_) (fun hb => ?_)) q
    · refine ev_is (ev_var rfl) ?_
      unfold casesN
      rw [hb]
      simp
    · refine ev_is (ev_addI (ev_var rfl) ev_c) ?_
      unfold casesN
      rw [hb]
      simp
theorem sv_law_cases {H : Hp} {m : List Nat} : SpV spCasesOf [.str (S m)] H (.int (casesN m : Nat)) := sv_cases_of
/-! ### law_power -/
def spLawPower : Sp := S1 fun a H Q => ∃ n : Nat, a = .int (n : Nat) ∧ n ≤ 1000 ∧ Go H (Q (.int ((3 ^ n : Nat) : Nat)))
theorem ok_law_power (T : Txt K mg) : Cal CX0 P w K mg base 1 "_law_power" spLawPower :=
  cal_mk T.f_law_power T.g_law_power sc_law_power (fun _ _ _ _ _ _ us hl => match us, hl with | [_], _ => rfl) len1 fun cdv A outer s H vs Q E hr hsp => by
    obtain ⟨a, rfl, n, rfl, hn, q⟩ := hsp
    refine ⟨_, (pss_cons (ps_set (i := 1) sc_law_power.nd rfl (Or.inl rfl) pe_int)
      (pss_cons (ps_for PassesOwn.never rfl (pi_range1 (by rfl) T.n_range (pa_cons (pv 0) pa_nil)) (pg_name (i := 2) sc_law_power.nd rfl (Or.inl rfl)) (pss_cons (ps_set (i := 1) sc_law_power.nd rfl (Or.inl rfl) (pe_op op_mulI pe_int (pv 1)))
      pss_nil))
      (pss_cons (ps_ret (pv 1))
      pss_nil))), ?_⟩
    refine go_asg ev_c ?_
    refine go_forR (fun i σ Hk => (∃ z, σ = [some (.int (n : Nat)), some (.int ((3 ^ i : Nat) : Nat)), z]) ∧ Hk = H) (ea_cons (ev_var rfl) ea_nil) (by omega) ⟨⟨_, rfl⟩, rfl⟩ ?_ ?_
    · rintro i σ Hk hi ⟨⟨z, rfl⟩, rfl⟩
      refine go_asg (ev_mulI ev_c (ev_var rfl) (cmul_l (by decide) (by decide))) (go_up rfl ?_)
      refine ⟨⟨some (.int (i : Nat)), ?_⟩, rfl⟩
      have e : 3 * (((3 ^ i : Nat) : Nat) : Int) = ((3 ^ (i + 1) : Nat) : Int) := by
        rw [Nat.pow_succ]
        omega
      show [some (V.int (n : Nat)), some (V.int (3 * (((3 ^ i : Nat) : Nat) : Int))), some (V.int (i : Nat))] = _
      rw [e]
    · rintro σ Hk ⟨⟨z, rfl⟩, rfl⟩
      exact go_ret (ev_var rfl) q
theorem sv_law_power {H : Hp} {n : Nat} (hn : n ≤ 1000) : SpV spLawPower [.int (n : Nat)] H (.int ((3 ^ n : Nat) : Nat)) := sv1 fun H1 e Q q => ⟨n, rfl, hn, q⟩
/-! ### law_whole -/
theorem ok_law_whole (T : Txt K mg) : Cal CX0 P w K mg base 1 "_law_whole" (spIsWhole K) :=
  cal_mk T.f_law_whole T.g_law_whole sc_law_whole (fun _ _ _ _ _ _ us hl => match us, hl with | [_], _ => rfl) len1 fun cdv A outer s H vs Q E hr hsp => by
    obtain ⟨a, rfl, t, ki, kb, ht, h1, h2, q⟩ := hsp
    refine ⟨_, (pss_cons (ps_ret (pe_and (pe_callB (call_isiK2 K) (by rfl) T.n_isinstance (by decide +kernel) (pa_cons (pv 0) (pa_cons (pe_gTy (n := "int") T.n_int) pa_nil))) (pe_one (pe_not (pe_callB (call_isiK2 K) (by rfl) T.n_isinstance (by decide +kernel) (pa_cons (pv 0) (pa_cons (pe_gTy (n := "bool") T.n_bool) pa_nil)))))))
      pss_nil), ?_⟩
    exact go_ret (ev_andV (ev_isT (ev_var rfl) ev_c (.ty _) ht h1) fun _ => ev_notV (ev_isT (ev_var rfl) ev_c (.ty _) ht h2)) q
end Od

namespace Od
open PySem PySem.Spec PyProof.Rows L2 SX Evl
variable {P : Program} {w : World} {K : PySem.W.Frag} {mg : Str → Option Value} {base : Heap}
/-! ### law_behind -/
def spLawBehind (K : PySem.W.Frag) : Sp := S4 fun a b d e H Q => ∃ (m : List Nat) (l r : List Int) (o : List Nat) (pl pr : Addr), a = .str (S m) ∧ b = .ref pl ∧ SqL K H pl (l.map V.int) ∧ d = .ref pr ∧ SqL K H pr (r.map V.int) ∧ e = .str (S o) ∧ (∀ x ∈ l, x ∉ r) ∧ m.length ≤ 10000 ∧ Go H (Q (.str (S (behindL m l r o))))
theorem side_law {l r : List Int} {o : List Nat} (i : Int) (hd : ∀ x ∈ l, x ∉ r) : (if o = tRight then -(if i ∈ l then (1 : Int) else if i ∈ r then -1 else 0) else (if i ∈ l then (1 : Int) else if i ∈ r then -1 else 0)) = sideOf l r o i := by
  by_cases ho : o = tRight
  · rw [if_pos ho, ho, side_rl]
    by_cases a : i ∈ l
    · rw [if_pos a, if_pos a]
    · rw [if_neg a, if_neg a]
      by_cases b : i ∈ r
      · rw [if_pos b, if_pos b] <;> rfl
      · rw [if_neg b, if_neg b] <;> rfl
  · rw [if_neg ho, side_lr ho]
    by_cases a : i ∈ l
    · rw [if_pos a, if_neg (hd _ a), if_pos a]
    · rw [if_neg a, if_neg a]
theorem side_vals (l r : List Int) (o : List Nat) (i : Int) : sideOf l r o i = 0 ∨ sideOf l r o i = 1 ∨ sideOf l r o i = -1 := by
  unfold sideOf
  generalize (if o = tRight then l else r) = u
  generalize (if o = tRight then r else l) = d
  by_cases a : i ∈ u
  · rw [if_pos a]; exact .inr (.inr rfl)
  · rw [if_neg a]
    by_cases b : i ∈ d
    · rw [if_pos b]; exact .inr (.inl rfl)
    · rw [if_neg b]; exact .inl rfl
theorem beh_take {m : List Nat} {l r : List Int} {o : List Nat} {i : Nat} (h : i < m.length) : (behindL m l r o).take (i + 1) = (behindL m l r o).take i ++ [leftover (m.getD i 0) (sideOf l r o (i : Nat)) o] := by
  have e : (behindL m l r o)[i]? = some (leftover (m.getD i 0) (sideOf l r o (i : Nat)) o) := by
    unfold behindL
    rw [List.getElem?_map, List.getElem?_range h] <;> rfl
  rw [List.take_add_one, e] <;> rfl
theorem ok_law_behind (T : Txt K mg) : Cal CX0 P w K mg base 1 "_law_behind" (spLawBehind K) :=
  cal_mk T.f_law_behind T.g_law_behind sc_law_behind (fun _ _ _ _ _ _ us hl => match us, hl with | [_, _, _, _], _ => rfl) len4 fun cdv A outer s H vs Q E hr hsp => by
    obtain ⟨a, b, d, e, rfl, m, l, r, o, pl, pr, rfl, rfl, hl, rfl, hR, rfl, hd, hm, q⟩ := hsp
    refine ⟨_, (pss_cons (ps_set (i := 4) sc_law_behind.nd rfl (Or.inl rfl) (pe_strS k_empty))
      (pss_cons (ps_for PassesOwn.never rfl (pi_enumS (by rfl) T.n_enumerate (pa_cons (pv 0) pa_nil)) (pg_tupK K 2 rfl (pgs_cons (pg_name (i := 5) sc_law_behind.nd rfl (Or.inl rfl)) (pgs_cons (pg_name (i := 6) sc_law_behind.nd rfl (Or.inl rfl)) pgs_nil))) (pss_cons (ps_set (i := 7) sc_law_behind.nd rfl (Or.inl rfl) (pe_ifExp (pt_cmpR (op_inK K) (pv 5) (pv 1) rfl) pe_int (pe_ifExp (pt_cmpR (op_inK K) (pv 5) (pv 2) rfl) (pe_un un_negI pe_int) pe_int)))
      (pss_cons (ps_if (pt_cmpR op_eqT (pv 3) (pe_strS k_right) (nomark _)) (pss_cons (ps_set (i := 7) sc_law_behind.nd rfl (Or.inl rfl) (pe_un un_negI (pv 7)))
      pss_nil) pss_nil)
      (pss_cons (ps_if (pt_cmpR op_eqT (pv 3) (pe_strS k_even) (nomark _)) (pss_cons (ps_set (i := 4) sc_law_behind.nd rfl (Or.inl rfl) (pe_op op_addT (pv 4) (pe_ifExp (pt_cmpR op_eqI (pv 7) pe_int (nomark _)) (pv 6) (pe_strS k_g))))
      pss_nil) (pss_cons (ps_if (pt_cmpR op_eqI (pv 7) pe_int (nomark _)) (pss_cons (ps_set (i := 4) sc_law_behind.nd rfl (Or.inl rfl) (pe_op op_addT (pv 4) (pe_ifExp (pt_cmpR op_inT (pv 6) (pe_strS k_eh) rfl) (pe_strS k_h) (pe_strS k_g))))
      pss_nil) (pss_cons (ps_set (i := 4) sc_law_behind.nd rfl (Or.inl rfl) (pe_op op_addT (pv 4) (pe_ifExp (PW.pt (pw_and (pt_cmpR op_eqI (pv 7) (pe_un un_negI pe_int) (nomark _)) (pw_and1 (pt_cmpR op_inT (pv 6) (pe_strS k_el) rfl)))) (pe_strS k_l) (pe_strS k_g))))
      pss_nil))
      pss_nil))
      pss_nil))))
      (pss_cons (ps_ret (pv 4))
      pss_nil))), ?_⟩
    refine go_asg ev_c ?_
    refine go_forES (fun i σ Hk => (∃ x y z, σ = [some (.str (S m)), some (.ref pl), some (.ref pr), some (.str (S o)), some (.str (S ((behindL m l r o).take i))), x, y, z]) ∧ Hk = H) (ea_cons (ev_var rfl) ea_nil) ⟨⟨_, _, _, rfl⟩, rfl⟩ ?_ ?_
    · rintro i σ Hk hi ⟨⟨x, y, z, rfl⟩, rfl⟩
      have lt : ((behindL m l r o).take i).length + 1 ≤ 100000 := by rw [List.length_take, beh_len]; omega
      have nxt := beh_take (l := l) (r := r) (o := o) hi
      have sv := side_vals l r o (i : Nat)
      have es := side_law (o := o) (i : Nat) hd
      refine go_asg (v := .int (if (i : Int) ∈ l then (1 : Int) else if (i : Int) ∈ r then -1 else 0)) (ev_if (et_is (et_test (ev_in (neg := false) (ev_var rfl) (ev_var rfl) hl rfl (all_flat l))) (inV_ints i l)) (fun h => ?_) (fun h => ?_)) ?_
      · rw [if_pos (of_decide_eq_true h)]; exact ev_c
      · rw [if_neg (of_decide_eq_false h)]
        refine ev_if (et_is (et_test (ev_in (neg := false) (ev_var rfl) (ev_var rfl) hR rfl (all_flat r))) (inV_ints i r)) (fun h => ?_) (fun h => ?_)
        · rw [if_pos (of_decide_eq_true h)]; exact ev_negI ev_c
        · rw [if_neg (of_decide_eq_false h)]; exact ev_c
      refine go_whenS (et_test (ev_eqT (ev_var rfl) ev_c)) [some (.str (S m)), some (.ref pl), some (.ref pr), some (.str (S o)), some (.str (S ((behindL m l r o).take i))), some (.int (i : Nat)), some (.str (S [m.getD i 0])), some (.int (sideOf l r o (i : Nat)))] (fun hb k => ?_) (fun hb => ?_) ?_
      · have ho : o = tRight := of_decide_eq_true hb
        rw [if_pos ho] at es
        rw [← es] at k
        exact go_asg (ev_negI (ev_var rfl)) (go_next k)
      · have ho : ¬ o = tRight := of_decide_eq_false hb
        rw [if_neg ho] at es
        rw [← es]
        rfl
      generalize sideOf l r o (i : Nat) = sd at *
      have fin : ∀ x y z, ∃ x' y' z', [some (V.str (S m)), some (.ref pl), some (.ref pr), some (.str (S o)), some (.str (S ((behindL m l r o).take i ++ [leftover (m.getD i 0) sd o]))), x, y, z] = [some (V.str (S m)), some (.ref pl), some (.ref pr), some (.str (S o)), some (.str (S ((behindL m l r o).take (i + 1)))), x', y', z'] := fun x y z => ⟨x, y, z, by rw [nxt]⟩
      refine go_if (et_test (ev_eqT (ev_var rfl) ev_c)) (fun hb => ?_) (fun hb => ?_)
      · have ho : o = tEven := of_decide_eq_true hb
        refine go_asg (ev_addT (b := [leftover (m.getD i 0) sd o]) (ev_var rfl) (ev_if (et_test (ev_eqI (ev_var rfl) ev_c)) (fun h => ?_) (fun h => ?_)) lt) (go_next (go_up rfl ⟨fin _ _ _, rfl⟩))
        · unfold leftover
          rw [if_pos ho, if_pos (of_decide_eq_true h)]
          exact ev_var rfl
        · unfold leftover
          rw [if_pos ho, if_neg (of_decide_eq_false h)]
          exact ev_c
      · have ho : ¬ o = tEven := of_decide_eq_false hb
        refine go_if (et_test (ev_eqI (ev_var rfl) ev_c)) (fun hb => ?_) (fun hb => ?_)
        · have h1 : sd = 1 := of_decide_eq_true hb
          refine go_asg (ev_addT (b := [leftover (m.getD i 0) sd o]) (ev_var rfl) (ev_if (et_test (ev_inT (ev_var rfl) ev_c)) (fun h => ?_) (fun h => ?_)) lt) (go_next (go_next (go_up rfl ⟨fin _ _ _, rfl⟩)))
          · have h2 : m.getD i 0 = 101 ∨ m.getD i 0 = 104 := by simpa using of_decide_eq_true h
            unfold leftover
            rw [if_neg ho, if_pos ⟨by omega, h2⟩]
            exact ev_c
          · have h2 : ¬ (m.getD i 0 = 101 ∨ m.getD i 0 = 104) := by simpa using of_decide_eq_false h
            unfold leftover
            rw [if_neg ho, if_neg (fun z => h2 z.2), if_neg (fun z => by omega)]
            exact ev_c
        · have h1 : ¬ sd = 1 := of_decide_eq_false hb
          refine go_asg (ev_addT (b := [leftover (m.getD i 0) sd o]) (ev_var rfl) (ev_if (et_and (et_test (ev_eqI (ev_var rfl) (ev_negI ev_c))) fun _ => et_test (ev_inT (ev_var rfl) ev_c)) (fun h => ?_) (fun h => ?_)) lt) (go_next (go_next (go_up rfl ⟨fin _ _ _, rfl⟩)))
          · rw [Bool.and_eq_true, decide_eq_true_eq, decide_eq_true_eq] at h
            have h2 : m.getD i 0 = 101 ∨ m.getD i 0 = 108 := by simpa using h.2
            unfold leftover
            rw [if_neg ho, if_neg (fun z => by omega), if_pos ⟨by omega, h2⟩]
            exact ev_c
          · unfold leftover
            rw [if_neg ho, if_neg (fun z => by omega), if_neg (fun z => ?_)]
            · exact ev_c
            · have hz : sd = -1 := by omega
              rw [decide_eq_true hz, Bool.true_and, decide_eq_false_iff_not] at h
              exact h (by simpa using z.2)
    · rintro σ Hk ⟨⟨x, y, z, rfl⟩, rfl⟩
      have e : (behindL m l r o).take m.length = behindL m l r o := List.take_of_length_le (by rw [beh_len]; omega)
      rw [e]
      exact go_ret (ev_var rfl) q
theorem sv_law_behind {H : Hp} {m : List Nat} {l r : List Int} {o : List Nat} {pl pr : Addr} (hl : SqL K H pl (l.map V.int)) (hr : SqL K H pr (r.map V.int)) (hd : ∀ x ∈ l, x ∉ r) (hm : m.length ≤ 10000) : SpV (spLawBehind K) [.str (S m), .ref pl, .ref pr, .str (S o)] H (.str (S (behindL m l r o))) :=
  sv4 fun H1 e Q q => ⟨m, l, r, o, pl, pr, rfl, rfl, ex_l e hl, rfl, ex_l e hr, rfl, hd, hm, q⟩
/-! ### law_left -/
def spLawLeft (K : PySem.W.Frag) : Sp := S3 fun a b d H Q => ∃ (m : List Nat) (l r : List Int) (pl pr : Addr), a = .str (S m) ∧ b = .ref pl ∧ SqL K H pl (l.map V.int) ∧ d = .ref pr ∧ SqL K H pr (r.map V.int) ∧ (∀ x ∈ l, x ∉ r) ∧ m.length ≤ 10000 ∧ NewL ((outs.map fun o => ((manyN m l r o : Nat) : Int)).map V.int) H Q
theorem ok_law_left (T : Txt K mg) : Cal CX0 P w K mg base 2 "_law_left" (spLawLeft K) :=
  cal_mk T.f_law_left T.g_law_left sc_law_left (fun _ _ _ _ _ _ us hl => match us, hl with | [_, _, _], _ => rfl) len3 fun cdv A outer s H vs Q E hr hsp => by
    obtain ⟨a, b, d, rfl, m, l, r, pl, pr, rfl, rfl, hl, rfl, hR, hd, hm, q⟩ := hsp
    refine ⟨_, (pss_cons (ps_set (i := 3) sc_law_left.nd rfl (Or.inl rfl) (pe_lst pa_nil))
      (pss_cons (ps_for PassesOwn.never rfl (pi_tup (pe_tup (pa_cons (pe_strS k_left) (pa_cons (pe_strS k_right) (pa_cons (pe_strS k_even) pa_nil))))) (pg_name (i := 4) sc_law_left.nd rfl (Or.inl rfl)) (pss_cons (ps_set (i := 5) sc_law_left.nd rfl (Or.inl rfl) (pe_k (ok_law_behind T) hr (by decide) (by rfl) (pa_cons (pv 0) (pa_cons (pv 1) (pa_cons (pv 2) (pa_cons (pv 4) pa_nil))))))
      (pss_cons (ps_set (i := 6) sc_law_left.nd rfl (Or.inl rfl) (pe_op op_addI (pe_op op_addI (pe_op op_mulI pe_int (pe_m1 PySem.F.slot_str_count PySem.F.type_str_count mt_countT (pv 5) (pe_strS k_e))) (pe_m1 PySem.F.slot_str_count PySem.F.type_str_count mt_countT (pv 5) (pe_strS k_h))) (pe_m1 PySem.F.slot_str_count PySem.F.type_str_count mt_countT (pv 5) (pe_strS k_l))))
      (pss_cons (ps_if (PW.pt (pw_and (pt_cmpR op_eqT (pv 4) (pe_strS k_even) (nomark _)) (pw_and (pt_cmpR op_notInT (pe_strS k_h) (pv 0) rfl) (pw_and1 (pt_cmpR op_notInT (pe_strS k_l) (pv 0) rfl))))) (pss_cons (ps_set (i := 6) sc_law_left.nd rfl (Or.inl rfl) (pe_op op_addI (pv 6) pe_int))
      pss_nil) pss_nil)
      (pss_cons (ps_expr (pe_bm PySem.F.plainAttrs_list PySem.F.slot_list_append PySem.F.type_list_append mt_append (pv 3) (pa_cons (pv 6) pa_nil)))
      pss_nil)))))
      (pss_cons (ps_ret (pv 3))
      pss_nil))), ?_⟩
    refine go_asgL (xs := []) (el_lst ea_nil (by simp)) fun pf hpf => ?_
    have keep : ∀ u, Ex H (upd H pf u) := fun u => Ex.new hpf
    have app : ∀ u v, upd (upd H pf u) pf v = upd H pf v := fun u v => upd_upd
    refine go_forU (xs := outs.map fun o => V.str (S o)) (fun t i σ Hk => (∃ x y z, σ = [some (.str (S m)), some (.ref pl), some (.ref pr), some (.ref pf), x, y, z]) ∧ Hk pf = some (.lst (((outs.take i).map fun o => ((manyN m l r o : Nat) : Int)).map V.int)) ∧ (∀ b u, b ≠ pf → H b = some u → Hk b = some u) ∧ Hk t = some (.tup (outs.map fun o => V.str (S o)))) (eu_tup (ea_cons ev_c (ea_cons ev_c (ea_cons ev_c ea_nil))) (by decide)) ?_ ?_ ?_ ?_
    · intro t ht
      have nt : pf ≠ t := ne_of_none upd_same ht
      exact ⟨⟨_, _, _, rfl⟩, by rw [upd_ne nt, upd_same] <;> rfl, fun b u hb hu => Ex.new ht _ _ (Ex.new hpf _ _ hu), upd_same⟩
    · intro t i σ Hk h
      exact h.2.2.2
    · rintro t i x σ Hk hx ⟨⟨x1, y1, z1, rfl⟩, hf, hk, ht⟩
      rw [List.getElem?_map] at hx
      cases hn : outs[i]? with
      | none => rw [hn] at hx; cases hx
      | some o =>
        rw [hn] at hx
        obtain rfl : V.str (S o) = x := Option.some.inj hx
        have kx : Ex H Hk := fun b u hu => hk b u (ne_of_none hu hpf) hu
        have i3 : i < 3 := by
          obtain ⟨h1, _⟩ := List.getElem?_eq_some_iff.mp hn
          exact h1
        refine go_asg (ev_call0 (ea_cons (ev_var rfl) (ea_cons (ev_var rfl) (ea_cons (ev_var rfl) (ea_cons (ev_var rfl) ea_nil)))) (sv_law_behind (ex_l kx hl) (ex_l kx hR) hd hm)) ?_
        refine go_asg (ev_addI (ev_addI (ev_mulI ev_c (ev_countT (ev_var rfl) ev_c) (cmul_l (by decide) (by decide))) (ev_countT (ev_var rfl) ev_c)) (ev_countT (ev_var rfl) ev_c)) ?_
        refine go_whenS (b := decide (o = tEven) && !tiltB m) (et_is (et_and (et_test (ev_eqT (ev_var rfl) ev_c)) fun _ => et_and (et_test (ev_notInT ev_c (ev_var rfl))) fun _ => et_test (ev_notInT ev_c (ev_var rfl))) ?_) [some (.str (S m)), some (.ref pl), some (.ref pr), some (.ref pf), some (.str (S o)), some (.str (S (behindL m l r o))), some (.int (manyN m l r o : Nat))] (fun hb k => ?_) (fun hb => ?_) ?_
        · unfold tiltB
          cases decide (104 ∈ m) <;> rfl
        · have e : ((manyN m l r o : Nat) : Int) = 2 * (((behindL m l r o).count 101 : Nat) : Int) + (((behindL m l r o).count 104 : Nat) : Int) + (((behindL m l r o).count 108 : Nat) : Int) + 1 := by
            unfold manyN
            rw [hb]
            simp
          rw [e] at k
          exact go_asg (ev_addI (ev_var rfl) ev_c) (go_next k)
        · have e : ((manyN m l r o : Nat) : Int) = 2 * (((behindL m l r o).count 101 : Nat) : Int) + (((behindL m l r o).count 104 : Nat) : Int) + (((behindL m l r o).count 108 : Nat) : Int) := by
            unfold manyN
            rw [hb]
            simp
          rw [e]
          rfl
        · have nt : t ≠ pf := fun z => by
            rw [z, hf] at ht
            cases ht
          refine go_app hf (ev_var rfl) (ev_var rfl) (by rw [List.length_map, List.length_map, List.length_take]; omega) (go_up rfl ⟨⟨_, _, _, rfl⟩, ?_, fun b u hb hu => ?_, ?_⟩)
          · rw [upd_same, List.take_add_one, hn, List.map_append, List.map_append] <;> rfl
          · rw [upd_ne hb]; exact hk b u hb hu
          · rw [upd_ne nt]; exact ht
    · rintro t σ Hk ⟨⟨x1, y1, z1, rfl⟩, hf, hk, ht⟩
      have e0 : (outs.map fun o => V.str (S o)).length = outs.length := List.length_map _
      rw [e0, List.take_length] at hf
      refine go_ret (ev_var rfl) fun H2 e2 => q pf hpf H2 fun b u hu => ?_
      by_cases hb : b = pf
      · subst hb
        rw [upd_same] at hu
        rw [← hu]
        exact e2 _ _ hf
      · rw [upd_ne hb] at hu
        exact e2 _ _ (hk b u hb hu)
theorem sl_law_left {H : Hp} {m : List Nat} {l r : List Int} {pl pr : Addr} (hl : SqL K H pl (l.map V.int)) (hr : SqL K H pr (r.map V.int)) (hd : ∀ x ∈ l, x ∉ r) (hm : m.length ≤ 10000) : SpL (spLawLeft K) [.str (S m), .ref pl, .ref pr] H ((outs.map fun o => ((manyN m l r o : Nat) : Int)).map V.int) :=
  sl3 fun H1 e Q q => ⟨m, l, r, pl, pr, rfl, rfl, ex_l e hl, rfl, ex_l e hr, hd, hm, q⟩
end Od

namespace Od
open PySem PySem.Spec PyProof.Rows L2 SX Evl
variable {P : Program} {w : World} {K : PySem.W.Frag} {mg : Str → Option Value} {base : Heap}
/-! ### law_weighing -/
theorem lt_perm {xs zs : List Int} (h1 : xs.Pairwise (· < ·)) (h2 : zs.Pairwise (· < ·)) (hm : ∀ k, k ∈ zs ↔ k ∈ xs) : xs = zs :=
  List.Perm.eq_of_pairwise (fun a b _ _ q1 q2 => by have h3 : a < b := q1; have h4 : b < a := q2; omega) h1 h2 ((List.perm_ext_iff_of_nodup (lt_nodup h1) (lt_nodup h2)).mpr fun k => (hm k).symm)
theorem ev_neSS {σ : L2.St} {H : Hp} {ta tb : TE} {p : Addr} {ns : List Int} {w : World} (ha : Ev ta σ H (.ref p)) (hb : Ev tb σ H (.ref p)) (hx : SqL K H p (ns.map V.int)) (hn : ns.length ≤ 1000) :
    Ev (tOp (rNeD K) ta (tCB (rSortedS w) (tCons (tCB (rSetI K w) (tCons tb tNil)) tNil))) σ H (.bl (!decide (ns.Pairwise (· < ·)))) := fun H1 e Q q =>
  ha H1 e _ fun H2 e2 => hb H2 (e.trans e2) _ fun H3 e3 => ⟨p, ns, rfl, ex_l ((e.trans e2).trans e3) hx, hn, fun a c hf hc => ⟨a, _, c, rfl, upd_same, by omega, fun zs z lt1 mem1 hz => by
    have x1 : Ex H3 (upd H3 a (SetO w a (fun j => decide (j ∈ ns)) c)) := Ex.new hf
    have x2 : Ex (upd H3 a (SetO w a (fun j => decide (j ∈ ns)) c)) (upd (upd H3 a (SetO w a (fun j => decide (j ∈ ns)) c)) z (.lst (zs.map V.int))) := Ex.new hz
    have eq1 : decide (ns = zs) = decide (ns.Pairwise (· < ·)) := decide_eq_decide.mpr ⟨fun h => by rw [h]; exact lt1, fun h => lt_perm h lt1 fun k => (mem1 k).trans (by rw [decide_eq_true_eq])⟩
    refine rv_neD (K := K) (xs := ns) (ys := zs) (ex_l ((((e.trans e2).trans e3).trans x1).trans x2) hx) (sq_of upd_same) _ (Ex.refl _) Q fun H4 e4 => ?_
    rw [eq1]
    exact q H4 ((((e2.trans e3).trans x1).trans x2).trans e4)⟩⟩
theorem side_says (ns : List Int) (c : Int) : (ns.any (fun x => !(decide (0 ≤ x) && decide (x ≤ c))) || !decide (ns.Pairwise (· < ·))) = !sideN ns c := by
  cases h : sideN ns c with
  | true =>
    obtain ⟨h1, h2⟩ := lt_side ns c (-1) h
    have a : (ns.any fun x => !(decide (0 ≤ x) && decide (x ≤ c))) = false := by
      rw [List.any_eq_false]
      intro x hx
      have := h2 x hx
      rw [decide_eq_true (show 0 ≤ x by omega), decide_eq_true this.2]
      simp
    rw [a, decide_eq_true h1] <;> rfl
  | false =>
    cases a : (ns.any fun x => !(decide (0 ≤ x) && decide (x ≤ c))) with
    | true => rfl
    | false =>
      by_cases hp : ns.Pairwise (· < ·)
      · rw [side_lt hp fun x hx => ?_] at h
        · cases h
        · rw [List.any_eq_false] at a
          have := a x hx
          rw [Bool.not_eq_true, Bool.not_eq_false', Bool.and_eq_true, decide_eq_true_eq, decide_eq_true_eq] at this
          exact this
      · rw [decide_eq_false hp] <;> rfl
def spLawWeighing (K : PySem.W.Frag) : Sp := S3 fun a b d H Q => ∃ (n : Nat) (l r : List Int) (pl pr : Addr), a = .int (n : Nat) ∧ b = .ref pl ∧ SqL K H pl (l.map V.int) ∧ d = .ref pr ∧ SqL K H pr (r.map V.int) ∧ l.length ≤ 1000 ∧ r.length ≤ 1000 ∧ Go H (Q (.bl (weighB (n : Nat) l r)))
theorem ok_law_weighing (T : Txt K mg) : Cal CX0 P w K mg base 1 "_law_weighing" (spLawWeighing K) :=
  cal_mk T.f_law_weighing T.g_law_weighing sc_law_weighing (fun _ _ _ _ _ _ us hl => match us, hl with | [_, _, _], _ => rfl) len3 fun cdv A outer s H vs Q E hr hsp => by
    obtain ⟨a, b, d, rfl, n, l, r, pl, pr, rfl, rfl, hl, rfl, hR, l1, l2, q⟩ := hsp
    refine ⟨_, (pss_cons (ps_for PassesOwn.never rfl (pi_tup (pe_tup (pa_cons (pv 1) (pa_cons (pv 2) pa_nil)))) (pg_name (i := 3) sc_law_weighing.nd rfl (Or.inl rfl)) (pss_cons (ps_if (PW.pt (pw_or (pt_val (pe_callB (cr_anyK K rfl) (by rfl) T.n_any (by decide +kernel) (pa_cons (pe_lc (own := [("_law_coin", 4)]) rfl sc_law_weighing.nd (pi_list (pv 3)) (blkOk_by (own := [("_law_coin", 4)]) (N := ["_law_coins", "_law_left_here", "_law_right_here", "_law_side", "_law_coin"]) (sc := defScope s_law_weighing) (by decide +kernel)) (fun _ _ _ _ _ => (pg_name (i := 4) sc_law_weighing.nd rfl (Or.inl rfl))) (fun _ _ _ _ _ => pts_nil) (fun _ _ _ _ _ => (pe_not (pe_chain op_leI op_leI pe_int (pv 4) (pv 0))))) pa_nil))) (pw_or1 (pt_cmpR (op_neDK K hr.units) (pv 3) (pe_callB (cr_sortedS rfl) (by rfl) T.n_sorted (by decide +kernel) (pa_cons (pe_callTy (call_setI rfl) (by rfl) T.n_set (by decide +kernel) (pa_cons (pv 3) pa_nil)) pa_nil)) (nomark _))))) (pss_cons (ps_ret pe_bl)
      pss_nil) pss_nil)
      pss_nil))
      (pss_cons (ps_ret (pe_and (pe_cmpR op_eqI (pe_callB (call_lenQK K) (by rfl) T.n_len (by decide +kernel) (pa_cons (pv 1) pa_nil)) (pe_callB (call_lenQK K) (by rfl) T.n_len (by decide +kernel) (pa_cons (pv 2) pa_nil)) (nomark _)) (pe_one (pe_not (pe_callB (cr_anyK K rfl) (by rfl) T.n_any (by decide +kernel) (pa_cons (pe_lc (own := [("_law_coin", 4)]) rfl sc_law_weighing.nd (pi_list (pv 1)) (blkOk_by (own := [("_law_coin", 4)]) (N := ["_law_coins", "_law_left_here", "_law_right_here", "_law_side", "_law_coin"]) (sc := defScope s_law_weighing) (by decide +kernel)) (fun _ _ _ _ _ => (pg_name (i := 4) sc_law_weighing.nd rfl (Or.inl rfl))) (fun _ _ _ _ _ => pts_nil) (fun _ _ _ _ _ => (pe_cmpR (op_inK K) (pv 4) (pv 2) rfl))) pa_nil))))))
      pss_nil)), ?_⟩
    refine go_forU (xs := [V.ref pl, V.ref pr]) (fun t i σ Hk => (∃ x y, σ = [some (.int (n : Nat)), some (.ref pl), some (.ref pr), x, y]) ∧ Hk = upd H t (.tup [V.ref pl, V.ref pr]) ∧ H t = none ∧ (1 ≤ i → sideN l n = true) ∧ (2 ≤ i → sideN r n = true)) (eu_tup (ea_cons (ev_var rfl) (ea_cons (ev_var rfl) ea_nil)) (by simp)) ?_ ?_ ?_ ?_
    · intro t ht
      exact ⟨⟨_, _, rfl⟩, rfl, ht, fun h => by omega, fun h => by omega⟩
    · rintro t i σ Hk ⟨_, rfl, _⟩
      exact upd_same
    · rintro t i v σ Hk hx ⟨⟨x, y, rfl⟩, rfl, ht, g1, g2⟩
      obtain ⟨ns, p, hp, hn, hv, hbad, hg1, hg2⟩ : ∃ (ns : List Int) (p : Addr), SqL K H p (ns.map V.int) ∧ ns.length ≤ 1000 ∧ v = .ref p ∧ (sideN ns n = false → weighB (n : Nat) l r = false) ∧ (sideN ns n = true → sideN l n = true) ∧ (2 ≤ i + 1 → sideN ns n = true → sideN r n = true) := by
        have hi : i < 2 := (List.getElem?_eq_some_iff.mp hx).1
        have cs : i = 0 ∨ i = 1 := by omega
        rcases cs with e | e
        · subst e
          refine ⟨l, pl, hl, l1, (Option.some.inj hx).symm, fun h => ?_, fun h => h, fun h => by omega⟩
          unfold weighB
          rw [h] <;> rfl
        · subst e
          refine ⟨r, pr, hR, l2, (Option.some.inj hx).symm, fun h => ?_, fun _ => g1 (by omega), fun _ h => h⟩
          unfold weighB
          rw [h, Bool.and_false] <;> rfl
      subst hv
      have hp2 : SqL K (upd H t (.tup [V.ref pl, V.ref pr])) p (ns.map V.int) := ex_l (Ex.new ht) hp
      refine go_when (b := !sideN ns n) (et_is (et_or (et_B (ev_anyN (bs := ns.map fun x => !(decide (0 ≤ x) && decide (x ≤ (n : Int)))) ?_)) fun _ => et_test (ev_neSS (ev_var rfl) (ev_var rfl) hp2 hn)) ?_) (fun hb => ?_) (fun hb => ?_)
      · rw [List.map_map]
        exact el_mapL ns V.int (fun x => V.bl (!(decide (0 ≤ x) && decide (x ≤ (n : Int))))) 0 (ev_var rfl) hp2 (by omega) (fun _ => rfl) fun x _ => ev_notV (ev_leLe ev_c (ev_var rfl) (ev_var rfl))
      · rw [← side_says, List.any_map] <;> rfl
      · rw [hbad (by rwa [Bool.not_eq_true'] at hb)] at q
        exact go_ret ev_c (q.mono (Ex.new ht))
      · rw [Bool.not_eq_false'] at hb
        exact go_up rfl ⟨⟨_, _, rfl⟩, rfl, ht, fun _ => hg1 hb, fun h => hg2 h hb⟩
    · rintro t σ Hk ⟨⟨x, y, rfl⟩, rfl, ht, g1, g2⟩
      have a1 := g1 (by show 1 ≤ 2; omega)
      have a2 := g2 (by show 2 ≤ 2; omega)
      have hl2 : SqL K (upd H t (.tup [V.ref pl, V.ref pr])) pl (l.map V.int) := ex_l (Ex.new ht) hl
      have hR2 : SqL K (upd H t (.tup [V.ref pl, V.ref pr])) pr (r.map V.int) := ex_l (Ex.new ht) hR
      have ew : weighB (n : Nat) l r = (decide ((((l.map V.int).length : Nat) : Int) = (((r.map V.int).length : Nat) : Int)) && !(l.any fun x => decide (x ∈ r))) := by
        unfold weighB
        rw [a1, a2, List.length_map, List.length_map]
        have : decide (l.length = r.length) = decide (((l.length : Nat) : Int) = ((r.length : Nat) : Int)) := decide_eq_decide.mpr ⟨fun h => by rw [h], fun h => by omega⟩
        rw [this] <;> rfl
      rw [ew] at q
      refine go_ret (ev_andV (ev_eqI (ev_lenQ (ev_var rfl) hl2) (ev_lenQ (ev_var rfl) hR2)) fun _ => ev_is (ev_notV (ev_anyN (bs := l.map fun x => decide (x ∈ r)) ?_)) (by rw [List.any_map] <;> rfl)) (q.mono (Ex.new ht))
      rw [List.map_map]
      exact el_mapL l V.int (fun x => V.bl (decide (x ∈ r))) 0 (ev_var rfl) hl2 (by omega) (fun _ => rfl) fun x _ => ev_is (ev_in (neg := false) (ev_var rfl) (ev_var rfl) hR2 rfl (all_flat r)) (by rw [if_neg Bool.false_ne_true, inV_ints])
theorem sv_law_weighing {H : Hp} {n : Nat} {l r : List Int} {pl pr : Addr} (hl : SqL K H pl (l.map V.int)) (hr : SqL K H pr (r.map V.int)) (l1 : l.length ≤ 1000) (l2 : r.length ≤ 1000) : SpV (spLawWeighing K) [.int (n : Nat), .ref pl, .ref pr] H (.bl (weighB (n : Nat) l r)) :=
  sv3 fun H1 e Q q => ⟨n, l, r, pl, pr, rfl, rfl, ex_l e hl, rfl, ex_l e hr, l1, l2, q⟩
end Od

namespace Od
open PySem PySem.Spec PyProof.Rows L2 SX Evl
variable {P : Program} {w : World} {K : PySem.W.Frag} {mg : Str → Option Value} {base : Heap}
/-! ### of_either, of_tilted -/
/-- a pair of lists of ints -/
def PairT (H : Hp) (v : V) (q : List Int × List Int) : Prop := ∃ p pl pr, v = .ref p ∧ H p = some (.tup [.ref pl, .ref pr]) ∧ H pl = some (.lst (q.1.map V.int)) ∧ H pr = some (.lst (q.2.map V.int))
def SpR (sp : Sp) (vs : List V) (H : Hp) (R : V → Hp → Prop) : Prop := ∀ H1, Ex H H1 → ∀ Q : VK, (∀ v H2, Ex H1 H2 → R v H2 → Q v H2) → ∀ E, sp vs H1 Q E
theorem er_call {σ : L2.St} {H : Hp} {tr : TA} {vs : List V} {sp : Sp} {E : XK} {R : V → Hp → Prop} (h : EvA tr σ H vs) (hs : SpR sp (vs ++ []) H R) : EvR (tCall sp [] E tr) σ H R := fun H1 e Q q =>
  h H1 e _ fun H2 e2 => hs H2 (e.trans e2) Q (fun v H3 e3 r => q v H3 (e2.trans e3) r) E
def spOfEither (K : PySem.W.Frag) : Sp := S3 fun a b c H Q => ∃ (co : List Int) (bs : Int) (out : Nat) (pa : Addr), a = .ref pa ∧ SqL K H pa (co.map V.int) ∧ b = .int bs ∧ c = .int (out : Nat) ∧ co.length ≤ 10000 ∧ ∀ v H2, Ex H H2 → PairT H2 v (eitherL co bs out) → Q v H2
theorem map_take (co : List Int) (k : Nat) : (co.map V.int).take k = (co.take k).map V.int := List.map_take.symm
theorem map_drop (co : List Int) (k : Nat) : (co.map V.int).drop k = (co.drop k).map V.int := List.map_drop.symm
theorem el_slSpan {σ : L2.St} {H : Hp} {te : TE} {tl th : TO} {p : Addr} {xs : List Int} {a b : Nat} {j : Int} (h : Ev te σ H (.ref p)) (h1 : EvO tl σ H (some ((a : Nat) : Int))) (h2 : EvO th σ H (some j)) (hs : SqL K H p (xs.map V.int)) (hj : j = (a : Int) + (b : Int)) : EvL (tSl (rSlL K) te tl th) σ H (((xs.drop a).take b).map V.int) := by
  have z := el_slBoth h h1 h2 hs (by omega) (by omega)
  have e1 : ((a : Nat) : Int).toNat = a := by omega
  have e2 : (j - ((a : Nat) : Int)).toNat = b := by omega
  rw [e1, e2, map_drop, map_take] at z
  exact z
theorem sr_of_either {H : Hp} {co : List Int} {bs : Int} {out : Nat} {pa : Addr} (h : SqL K H pa (co.map V.int)) (hl : co.length ≤ 10000) : SpR (spOfEither K) [.ref pa, .int bs, .int (out : Nat)] H fun v H2 => PairT H2 v (eitherL co bs out) := fun H1 e Q q E =>
  ⟨_, _, _, rfl, co, bs, out, pa, rfl, ex_l e h, rfl, rfl, hl, q⟩
def spOfTilted (K : PySem.W.Frag) : Sp := S4 fun a b c d H Q => ∃ (h l : List Int) (bs : Int) (out : Nat) (pa pb : Addr), a = .ref pa ∧ SqL K H pa (h.map V.int) ∧ b = .ref pb ∧ SqL K H pb (l.map V.int) ∧ c = .int bs ∧ d = .int (out : Nat) ∧ h.length ≤ 10000 ∧ l.length ≤ 10000 ∧ ∀ v H2, Ex H H2 → PairT H2 v (tiltedL h l bs out) → Q v H2
theorem sr_of_tilted {H : Hp} {h l : List Int} {bs : Int} {out : Nat} {pa pb : Addr} (ha : SqL K H pa (h.map V.int)) (hb : SqL K H pb (l.map V.int)) (hl1 : h.length ≤ 10000) (hl2 : l.length ≤ 10000) : SpR (spOfTilted K) [.ref pa, .ref pb, .int bs, .int (out : Nat)] H fun v H2 => PairT H2 v (tiltedL h l bs out) := fun H1 e Q q E =>
  ⟨_, _, _, _, rfl, h, l, bs, out, pa, pb, rfl, ex_l e ha, rfl, ex_l e hb, rfl, rfl, hl1, hl2, q⟩
end Od

namespace Od
open PySem PySem.Spec PyProof.Rows L2 SX Evl
variable {P : Program} {w : World} {K : PySem.W.Frag} {mg : Str → Option Value} {base : Heap}
/-! ### tuples -/
theorem eu_tupOf {σ : L2.St} {H : Hp} {ta : TE} {xs : List V} (ha : EvL ta σ H xs) : EvU (tCB (rTupOf K) (tCons ta tNil)) σ H xs := fun H1 e Q q => ha H1 e _ fun p H2 hp e2 h2 => ⟨p, xs, rfl, sq_of h2, fun l hl => q l _ (fresh_back e2 hl) (e2.trans (Ex.new hl)) upd_same⟩
theorem el_listOfT {σ : L2.St} {H : Hp} {ta : TE} {p : Addr} {xs : List V} (ha : Ev ta σ H (.ref p)) (h : SqT K H p xs) : EvL (tCB (rListOf K) (tCons ta tNil)) σ H xs := fun H1 e Q q =>
  ha H1 e _ fun H2 e2 => ⟨p, xs, rfl, .inr (ex_t (e.trans e2) h), fun l hl => q l _ (fresh_back e2 hl) (e2.trans (Ex.new hl)) upd_same⟩
theorem ev_neNR {σ : L2.St} {H : Hp} {ta tb : TE} {q : Addr} {xs ys : List Int} (ha : EvL ta σ H (xs.map V.int)) (hb : Ev tb σ H (.ref q)) (hy : SqL K H q (ys.map V.int)) : Ev (tOp (rNeD K) ta tb) σ H (.bl (!decide (xs = ys))) := ev_opL1 ha (fun H1 e => hb.mono e) fun p H1 hp e => rv_neD (sq_of hp) (ex_l e hy)
theorem el_mapT {σ : L2.St} {H : Hp} {tl te : TE} {j : Nat} {vs : List Nat} {α : Type} (l : List α) (inj : α → V) (g : α → V) {a : Addr} (d : α) (h : Ev tl σ H (.ref a)) (hx : SqT K H a (l.map inj)) (hz : l.length ≤ 40000)
    (hw : ∀ x, wipe ((wipe σ vs).set j (some x)) vs = wipe σ vs) (he : ∀ x ∈ l, Ev te ((wipe σ vs).set j (some (inj x))) H (g x)) : EvL (tLc (iTup K tl) (gName j) tYes te vs) σ H (l.map g) := fun H0 e Q q => h H0 e _ fun H1 e1 => by
  have eg : l.map g = given (l.map inj).length (fun _ => true) (fun i => g (l.getD i d)) := by
    rw [List.length_map, given_list d l (fun _ => true) g, List.filter_eq_self.mpr fun _ _ => rfl]
  rw [eg] at q
  refine ⟨a, rfl, ⟨l.map inj, ex_t (e.trans e1) hx⟩, fun Dl hD => lc_tup (xs := l.map inj) (Cw H1 (fun _ => true) (fun i => g (l.getD i d)) Dl) ⟨hD, Ex.new hD, upd_same⟩ (fun i H' _ p => ex_t ((e.trans e1).trans p.2.1) hx) (fun i x H' hi p => ?_) (fun H' p => q Dl H' (fresh_back e1 p.1) (e1.trans p.2.1) p.2.2)⟩
  have hi2 := hi
  rw [List.getElem?_map] at hi
  cases hl : l[i]? with
  | none => rw [hl] at hi; cases hi
  | some y =>
    rw [hl] at hi
    obtain rfl : inj y = x := Option.some.inj hi
    have ed : l.getD i d = y := by rw [List.getD_eq_getElem?_getD, hl] <;> rfl
    refine ⟨hw _, cw_turn p (by have := (List.getElem?_eq_some_iff.mp hi2).1; rw [List.length_map] at this; omega) et_yes fun _ => ?_⟩
    rw [ed]
    exact (he y (List.mem_of_getElem? hl)).mono (e.trans e1)
/-! ### judged -/
def spJudged (K : PySem.W.Frag) : Sp := S3 fun a b d H Q => ∃ (m : List Nat) (l r : List Int), a = .str (S m) ∧ marksB m = true ∧ m.length ≤ 10000 ∧ WPair K H m.length b d l r ∧ NewU ((outs.map fun o => ((manyN m l r o : Nat) : Int)).map V.int) H Q
theorem ok_judged (T : Txt K mg) : Cal CX0 P w K mg base 5 "judged" (spJudged K) :=
  cal_mk T.f_judged T.g_judged sc_judged (fun _ _ _ _ _ _ us hl => match us, hl with | [_, _, _], _ => rfl) len3 fun cdv A outer s H vs Q E hr hsp => by
    obtain ⟨a, b, d, rfl, m, l, r, rfl, hm, hl, hw, q⟩ := hsp
    refine ⟨_, (pss_cons (ps_expr (pe_k (ok_check_marks T) hr (by decide) (by rfl) (pa_cons (pv 0) pa_nil)))
      (pss_cons (ps_expr (pe_k (ok_check_weighing T) hr (by decide) (by rfl) (pa_cons (pe_callB call_lenT (by rfl) T.n_len (by decide +kernel) (pa_cons (pv 0) pa_nil)) (pa_cons (pv 1) (pa_cons (pv 2) pa_nil)))))
      (pss_cons (ps_ret (pe_callTy call_tupOf (by rfl) T.n_tuple (by decide +kernel) (pa_cons (pe_lc (own := [("outcome", 3)]) rfl sc_judged.nd (pi_list (pe_gR T.g_OUTCOMES)) (blkOk_by (own := [("outcome", 3)]) (N := ["marks", "left", "right", "outcome"]) (sc := defScope s_judged) (by decide +kernel)) (fun _ _ _ _ _ => (pg_name (i := 3) sc_judged.nd rfl (Or.inl rfl))) (fun _ _ _ _ _ => pts_nil) (fun _ _ _ _ _ => (pe_k (ok_many_behind T) hr (by decide) (by rfl) (pa_cons (pv 0) (pa_cons (pv 1) (pa_cons (pv 2) (pa_cons (pv 3) pa_nil))))))) pa_nil)))
      pss_nil))), ?_⟩
    refine go_drop (ev_call0 (ea_cons (ev_var rfl) ea_nil) (sv_check_marks hm hl)) ?_
    refine go_drop (ev_call0 (ea_cons (ev_lenT (ev_var rfl) (by omega)) (ea_cons (ev_var rfl) (ea_cons (ev_var rfl) ea_nil))) (sv_check_weighing hw)) ?_
    refine go_retU (eu_tupOf (xs := (outs.map fun o => ((manyN m l r o : Nat) : Int)).map V.int) ?_) q
    rw [List.map_map]
    exact el_mapL outs (fun o => V.str (S o)) (fun o => V.int (manyN m l r o : Nat)) [] ev_c (outs_at T H) (by decide) (fun _ => rfl) fun o _ => ev_call0 (ea_cons (ev_var rfl) (ea_cons (ev_var rfl) (ea_cons (ev_var rfl) (ea_cons (ev_var rfl) ea_nil)))) (sv_many_behind hw.pair hl)
theorem eu_judged {σ : L2.St} {H : Hp} {tr : TA} {m : List Nat} {b d : V} {l r : List Int} {E : XK} (h : EvA tr σ H [.str (S m), b, d]) (hm : marksB m = true) (hl : m.length ≤ 10000) (hw : WPair K H m.length b d l r) : EvU (tCall (spJudged K) [] E tr) σ H ((outs.map fun o => ((manyN m l r o : Nat) : Int)).map V.int) := fun H1 e Q q =>
  h H1 e _ fun H2 e2 => ⟨_, _, _, rfl, m, l, r, rfl, hm, hl, hw.mono (e.trans e2), fun p hp H3 e3 => q p H3 (fresh_back e2 hp) ((e2.trans (Ex.new hp)).trans e3) (e3 _ _ upd_same)⟩
/-! ### law_sides -/
def sideAt (xs : List Int) (bys coin : Nat) : Int := drawI (xs.getD (coin % max 1 xs.length) 0 + 31 * ((coin : Nat) : Int)) (bys + coin % 3) 4
def sidesA (v : Int) (xs : List Int) (bys n : Nat) : List Int := ((List.range n).filter fun i => decide (sideAt xs bys i = v)).map fun i : Nat => (i : Int)
def sidesI (xs : List Int) (bys co : Nat) : List Int × List Int :=
  ((sidesA 0 xs bys (co + 1)).take (min (sidesA 0 xs bys (co + 1)).length (sidesA 1 xs bys (co + 1)).length), (sidesA 1 xs bys (co + 1)).drop ((sidesA 1 xs bys (co + 1)).length - min (sidesA 0 xs bys (co + 1)).length (sidesA 1 xs bys (co + 1)).length))
theorem sidesA_succ (v : Int) (xs : List Int) (bys n : Nat) : sidesA v xs bys (n + 1) = sidesA v xs bys n ++ if sideAt xs bys n = v then [((n : Nat) : Int)] else [] := by
  unfold sidesA
  rw [List.range_succ, List.filter_append, List.map_append]
  congr 1
  by_cases h : sideAt xs bys n = v
  · rw [if_pos h]
    simp [h]
  · rw [if_neg h]
    simp [h]
theorem sidesA_len (v : Int) (xs : List Int) (bys n : Nat) : (sidesA v xs bys n).length ≤ n := by
  unfold sidesA
  rw [List.length_map]
  have := List.length_filter_le (fun i => decide (sideAt xs bys i = v)) (List.range n)
  rw [List.length_range] at this
  exact this
theorem sidesA_mem {v : Int} {xs : List Int} {bys n : Nat} {x : Int} (h : x ∈ sidesA v xs bys n) : 0 ≤ x ∧ x < n ∧ sideAt xs bys x.toNat = v := by
  unfold sidesA at h
  obtain ⟨i, hi, rfl⟩ := List.mem_map.mp h
  obtain ⟨h1, h2⟩ := List.mem_filter.mp hi
  have := List.mem_range.mp h1
  exact ⟨by omega, by omega, by rw [Int.toNat_natCast]; exact of_decide_eq_true h2⟩
theorem sidesA_lt (v : Int) (xs : List Int) (bys n : Nat) : (sidesA v xs bys n).Pairwise (· < ·) := by
  unfold sidesA
  refine List.pairwise_map.mpr ?_
  have h : (List.range n).Pairwise (· < ·) := List.pairwise_lt_range
  exact (h.filter _).imp fun q => by omega
theorem sides_weigh (xs : List Int) (bys co : Nat) : weighB ((co : Nat) : Int) (sidesI xs bys co).1 (sidesI xs bys co).2 = true := by
  have m0 : ∀ x ∈ (sidesI xs bys co).1, x ∈ sidesA 0 xs bys (co + 1) := fun x hx => mem_take_of hx
  have m1 : ∀ x ∈ (sidesI xs bys co).2, x ∈ sidesA 1 xs bys (co + 1) := fun x hx => mem_drop_of hx
  refine weigh_mk (side_lt ((sidesA_lt 0 xs bys (co + 1)).sublist (List.take_sublist _ _)) fun x hx => ?_) (side_lt ((sidesA_lt 1 xs bys (co + 1)).sublist (List.drop_sublist _ _)) fun x hx => ?_) ?_ fun x hx hx2 => ?_
  · have := sidesA_mem (m0 x hx); omega
  · have := sidesA_mem (m1 x hx); omega
  · unfold sidesI
    rw [List.length_take, List.length_drop]
    omega
  · have a := (sidesA_mem (m0 x hx)).2.2
    have b := (sidesA_mem (m1 x hx2)).2.2
    omega
theorem sides_len (xs : List Int) (bys co : Nat) : (sidesI xs bys co).1.length ≤ co + 1 ∧ (sidesI xs bys co).2.length ≤ co + 1 := by
  have a := sidesA_len 0 xs bys (co + 1)
  have b := sidesA_len 1 xs bys (co + 1)
  unfold sidesI
  rw [List.length_take, List.length_drop]
  omega
def spSides (K : PySem.W.Frag) : Sp := S3 fun a b c H Q => ∃ (p : Addr) (xs : List Int) (bys co : Nat), a = .ref p ∧ SqL K H p (xs.map V.int) ∧ b = .int (bys : Nat) ∧ c = .int (co : Nat) ∧ xs.length ≤ 1000 ∧ co ≤ 1000 ∧ ∀ v H2, Ex H H2 → PairT H2 v (sidesI xs bys co) → Q v H2
theorem ok_law_sides (T : Txt K mg) : Cal CX0 P w K mg base 2 "_law_sides" (spSides K) :=
  cal_mk T.f_law_sides T.g_law_sides sc_law_sides (fun _ _ _ _ _ _ us hl => match us, hl with | [_, _, _], _ => rfl) len3 fun cdv A outer s H vs Q E hr hsp => by
    obtain ⟨a, b, c, rfl, p, xs, bys, co, rfl, hp, rfl, rfl, hl, hco, q⟩ := hsp
    refine ⟨_, (pss_cons (ps_par (by rfl) sc_law_sides.nd (i := 3) (j := 4) rfl rfl (by decide) rfl rfl (pa_cons (pe_lst pa_nil) (pa_cons (pe_lst pa_nil) pa_nil)) (by rfl))
      (pss_cons (ps_for PassesOwn.never rfl (pi_range1 (by rfl) T.n_range (pa_cons (pe_op op_addI (pv 2) pe_int) pa_nil)) (pg_name (i := 5) sc_law_sides.nd rfl (Or.inl rfl)) (pss_cons (ps_set (i := 6) sc_law_sides.nd rfl (Or.inl rfl) (pe_k (ok_law_draw T) hr (by decide) (by rfl) (pa_cons (pe_op op_addI (pe_k (ok_law_cell_at T) hr (by decide) (by rfl) (pa_cons (pv 0) (pa_cons (pe_op op_modI (pv 5) (pe_callB (call_maxI rfl) (by rfl) T.n_max (by decide +kernel) (pa_cons pe_int (pa_cons (pe_callB (call_lenQK K) (by rfl) T.n_len (by decide +kernel) (pa_cons (pv 0) pa_nil)) pa_nil)))) pa_nil))) (pe_op op_mulI pe_int (pv 5))) (pa_cons (pe_op op_addI (pv 1) (pe_op op_modI (pv 5) pe_int)) (pa_cons pe_int pa_nil)))))
      (pss_cons (ps_if (pt_cmpR op_eqI (pv 6) pe_int (nomark _)) (pss_cons (ps_expr (pe_bm PySem.F.plainAttrs_list PySem.F.slot_list_append PySem.F.type_list_append mt_append (pv 3) (pa_cons (pv 5) pa_nil)))
      pss_nil) pss_nil)
      (pss_cons (ps_if (pt_cmpR op_eqI (pv 6) pe_int (nomark _)) (pss_cons (ps_expr (pe_bm PySem.F.plainAttrs_list PySem.F.slot_list_append PySem.F.type_list_append mt_append (pv 4) (pa_cons (pv 5) pa_nil)))
      pss_nil) pss_nil)
      pss_nil))))
      (pss_cons (ps_set (i := 7) sc_law_sides.nd rfl (Or.inl rfl) (pe_callB (call_minI rfl) (by rfl) T.n_min (by decide +kernel) (pa_cons (pe_callB (call_lenQK K) (by rfl) T.n_len (by decide +kernel) (pa_cons (pv 3) pa_nil)) (pa_cons (pe_callB (call_lenQK K) (by rfl) T.n_len (by decide +kernel) (pa_cons (pv 4) pa_nil)) pa_nil))))
      (pss_cons (ps_ret (pe_tup (pa_cons (pe_slice (sl_listK K) (pv 3) po_none (po_some (pv 7))) (pa_cons (pe_slice (sl_listK K) (pv 4) (po_some (pe_op op_subI (pe_callB (call_lenQK K) (by rfl) T.n_len (by decide +kernel) (pa_cons (pv 4) pa_nil)) (pv 7))) po_none) pa_nil))))
      pss_nil)))), ?_⟩
    refine go_parLL (xs := (sidesA 0 xs bys 0).map V.int) (ys := (sidesA 1 xs bys 0).map V.int) (el_lst ea_nil (Nat.zero_le _)) (el_lst ea_nil (Nat.zero_le _)) fun p0 p1 f0 f1 n01 => ?_
    refine go_forR (n := co + 1) (fun i σ Hk => (∃ y z, σ = [some (.ref p), some (.int (bys : Nat)), some (.int (co : Nat)), some (.ref p0), some (.ref p1), y, z, none]) ∧ Hk p0 = some (.lst ((sidesA 0 xs bys i).map V.int)) ∧ Hk p1 = some (.lst ((sidesA 1 xs bys i).map V.int)) ∧ Ex H Hk)
      (ea_cons (ev_is (ev_addI (ev_var rfl) ev_c) (by congr 1)) ea_nil) (by omega) ⟨⟨_, _, rfl⟩, by rw [upd_ne n01, upd_same], upd_same, fun b u hb => by rw [upd_ne (ne_of_none hb f1), upd_ne (ne_of_none hb f0)]; exact hb⟩ ?_ ?_
    · rintro i σ Hk hi ⟨⟨y, z, rfl⟩, h0, h1, ek⟩
      have hpk := ex_l ek hp
      have em : ((i : Nat) : Int) % max 1 (((xs.map V.int).length : Nat) : Int) = ((i % max 1 xs.length : Nat) : Int) := by
        rw [List.length_map]
        have : max (1 : Int) ((xs.length : Nat) : Int) = ((max 1 xs.length : Nat) : Int) := by omega
        rw [this]
        rfl
      have mpos : (0 : Int) < max 1 (((xs.map V.int).length : Nat) : Int) := by omega
      refine go_asg (v := .int (sideAt xs bys i)) (ev_call0 (ea_cons (ev_addI (ev_call0 (ea_cons (ev_var rfl) (ea_cons (ev_is (ev_modI (ev_var rfl) (ev_max ev_c (ev_lenQ (ev_var rfl) hpk)) mpos) (by rw [em])) ea_nil)) (sv_cell_at hpk)) (ev_mulI ev_c (ev_var rfl) (cmul_l (by decide) (by decide)))) (ea_cons (ev_is (ev_addI (ev_var rfl) (ev_modI (ev_var rfl) ev_c (by decide))) (w := .int ((bys + i % 3 : Nat) : Int)) (by congr 1)) (ea_cons ev_c ea_nil))) (sv_draw (by decide))) ?_
      have s0 := sidesA_succ 0 xs bys i
      have s1 := sidesA_succ 1 xs bys i
      have l0 := sidesA_len 0 xs bys i
      have l1 := sidesA_len 1 xs bys i
      generalize sideAt xs bys i = sd at *
      generalize sidesA 0 xs bys i = L0 at *
      generalize sidesA 1 xs bys i = L1 at *
      rw [s0, s1] 
      refine go_when (et_test (ev_eqI (ev_var rfl) ev_c)) (fun hb => ?_) (fun hb => ?_)
      · have hb := of_decide_eq_true hb
        refine go_app h0 (ev_var rfl) (ev_var rfl) (by rw [List.length_map]; omega) (go_next ?_)
        refine go_when (b := false) (et_is (et_test (ev_eqI (ev_var rfl) ev_c)) (decide_eq_false (by omega))) (fun hb => by cases hb) (fun _ => go_up rfl ⟨⟨_, _, rfl⟩, ?_, ?_, ?_⟩)
        · rw [upd_same, if_pos hb, List.map_append] <;> rfl
        · rw [upd_ne n01.symm, if_neg (by omega), List.append_nil]; exact h1
        · exact fun b u hu => by rw [upd_ne (ne_of_none hu f0)]; exact ek _ _ hu
      · have hb := of_decide_eq_false hb
        refine go_when (et_test (ev_eqI (ev_var rfl) ev_c)) (fun hc => ?_) (fun hc => ?_)
        · have hc := of_decide_eq_true hc
          refine go_app h1 (ev_var rfl) (ev_var rfl) (by rw [List.length_map]; omega) (go_next (go_up rfl ⟨⟨_, _, rfl⟩, ?_, ?_, ?_⟩))
          · rw [upd_ne n01, if_neg hb, List.append_nil]; exact h0
          · rw [upd_same, if_pos hc, List.map_append] <;> rfl
          · exact fun b u hu => by rw [upd_ne (ne_of_none hu f1)]; exact ek _ _ hu
        · have hc := of_decide_eq_false hc
          refine go_up rfl ⟨⟨_, _, rfl⟩, ?_, ?_, ek⟩
          · rw [if_neg hb, List.append_nil]; exact h0
          · rw [if_neg hc, List.append_nil]; exact h1
    · rintro σ Hk ⟨⟨y, z, rfl⟩, h0, h1, ek⟩
      unfold sidesI at q
      generalize sidesA 0 xs bys (co + 1) = L0 at *
      generalize sidesA 1 xs bys (co + 1) = L1 at *
      refine go_asg (ev_is (ev_min (ev_lenQ (ev_var rfl) (sq_of h0)) (ev_lenQ (ev_var rfl) (sq_of h1))) (w := .int ((min L0.length L1.length : Nat) : Int)) (by rw [List.length_map, List.length_map]; congr 1; omega)) ?_
      have hmin : min L0.length L1.length ≤ L1.length := by omega
      generalize min L0.length L1.length = k at *
      intro H1 e1
      refine el_slTo (te := tVar 3) (ev_var rfl) (eo_some (ev_var rfl)) (sq_of h0) (by omega) H1 e1 _ fun pl H2 hpl e2 h2 => ?_
      refine el_slFrom (te := tVar 4) (ev_var rfl) (eo_some (ev_is (ev_subI (ev_lenQ (ev_var rfl) (sq_of h1)) (ev_var rfl)) (w := .int ((L1.length - k : Nat) : Int)) (by rw [List.length_map]; congr 1; omega))) (sq_of h1) (by omega) H2 (e1.trans e2) _ fun pr H3 hpr e3 h3 => ?_
      refine ⟨sz_of (by simp), fun t ht => ?_⟩
      have e4 := Ex.new (o := HO.tup [V.ref pl, V.ref pr]) ht
      refine q (.ref t) _ ((((ek.trans e1).trans e2).trans e3).trans e4) ⟨t, pl, pr, rfl, upd_same, e4 _ _ (e3 _ _ ?_), e4 _ _ ?_⟩
      · rw [h2, Int.toNat_natCast, map_take] <;> rfl
      · rw [h3, Int.toNat_natCast, map_drop] <;> rfl
theorem sr_sides {H : Hp} {p : Addr} {xs : List Int} {bys co : Nat} (h : SqL K H p (xs.map V.int)) (hl : xs.length ≤ 1000) (hc : co ≤ 1000) : SpR (spSides K) [.ref p, .int (bys : Nat), .int (co : Nat)] H fun v H2 => PairT H2 v (sidesI xs bys co) := fun H1 e Q q E =>
  ⟨_, _, _, rfl, p, xs, bys, co, rfl, ex_l e h, rfl, rfl, hl, hc, q⟩
/-! ### law_right -/
theorem lay_two (a b : List Int) : SeqAt.shaped (.list [dI a, dI b]) = true := by
  unfold SeqAt.shaped
  rw [Bool.and_eq_true]
  refine ⟨?_, ?_⟩
  · have h : ∀ ns : List Int, PyData.canLay0 (dI ns) = true := fun ns => by
      unfold dI PyData.canLay0
      exact lay_ints ns
    unfold PyData.canLay0
    simp [PyData.canLayAll0, h]
  · have h : ∀ ns : List Int, PyData.depth (dI ns) ≤ 1 := fun ns => by
      unfold dI
      simp [PyData.depth, depth_ints ns]
    have h1 := h a
    have h2 := h b
    simp [PyData.depth, PyData.depthAll]
    omega
theorem eqv_two (a b : List Int) : PyData.eqv (.list [dI a, dI b]) (.list [dI a, dI b]) = true := by
  unfold PyData.eqv
  unfold PyData.eqvAll
  rw [eqv_ints]
  unfold PyData.eqvAll
  rw [eqv_ints, decide_eq_true rfl, decide_eq_true rfl]
  simp [PyData.eqvAll]
/-- [x, y] == [l, r], the lists alike -/
theorem ev_eqTwo {σ : L2.St} {H : Hp} {ta tl tr : TE} {z x y pl pr : Addr} {l r : List Int} (ha : Ev ta σ H (.ref z)) (hz : SqL K H z [.ref x, .ref y]) (hx : SqL K H x (l.map V.int)) (hy : SqL K H y (r.map V.int))
    (h1 : Ev tl σ H (.ref pl)) (h2 : Ev tr σ H (.ref pr)) (hl : SqL K H pl (l.map V.int)) (hr : SqL K H pr (r.map V.int)) : Ev (tOp (rEqD K) ta (tLst (tCons tl (tCons tr tNil)))) σ H (.bl true) :=
  ev_opL ha (el_lst (ea_cons h1 (ea_cons h2 ea_nil)) (by simp)) fun q H1 hq e => rv_val fun H2 e2 Q k => ⟨.list [dI l, dI r], .list [dI l, dI r], .lst (ex_l (e.trans e2) hz) (.cons (dp_ints (ex_l (e.trans e2) hx)) (.cons (dp_ints (ex_l (e.trans e2) hy)) .nil)),
    .lst (sq_of (e2 _ _ hq)) (.cons (dp_ints (ex_l (e.trans e2) hl)) (.cons (dp_ints (ex_l (e.trans e2) hr)) .nil)), lay_two l r, lay_two l r, by rw [eqv_two]; exact k⟩
def spLawRight (K : PySem.W.Frag) : Sp := S3 fun a b d H Q => ∃ (m : List Nat) (l r : List Int), a = .str (S m) ∧ marksB m = true ∧ m.length ≤ 1000 ∧ WPair K H m.length b d l r ∧ Go H (Q (.bl true))
theorem ok_law_right (T : Txt K mg) : Cal CX0 P w K mg base 7 "_law_right" (spLawRight K) :=
  cal_mk T.f_law_right T.g_law_right sc_law_right (fun _ _ _ _ _ _ us hl => match us, hl with | [_, _, _], _ => rfl) len3 fun cdv A outer s H vs Q E hr hsp => by
    obtain ⟨a, b, d, rfl, m, l, r, rfl, hm, hl, hw, q⟩ := hsp
    refine ⟨_, (pss_cons (ps_set (i := 3) sc_law_right.nd rfl (Or.inl rfl) (pe_lst (pa_cons (pe_callTy call_listOf (by rfl) T.n_list (by decide +kernel) (pa_cons (pv 1) pa_nil)) (pa_cons (pe_callTy call_listOf (by rfl) T.n_list (by decide +kernel) (pa_cons (pv 2) pa_nil)) pa_nil))))
      (pss_cons (ps_set (i := 4) sc_law_right.nd rfl (Or.inl rfl) (pe_k (ok_law_left T) hr (by decide) (by rfl) (pa_cons (pv 0) (pa_cons (pv 1) (pa_cons (pv 2) pa_nil)))))
      (pss_cons (ps_set (i := 5) sc_law_right.nd rfl (Or.inl rfl) (pe_k (ok_judged T) hr (by decide) (by rfl) (pa_cons (pv 0) (pa_cons (pe_ix (ix_listK K) (pv 3) pe_int (fun _ _ => rfl)) (pa_cons (pe_ix (ix_listK K) (pv 3) pe_int (fun _ _ => rfl)) pa_nil)))))
      (pss_cons (ps_if (PW.pt (pw_or (pt_not (pt_val (pe_callB (call_isiK2 K) (by rfl) T.n_isinstance (by decide +kernel) (pa_cons (pv 5) (pa_cons (pe_gTy (n := "tuple") T.n_tuple) pa_nil))))) (pw_or (pt_cmpR (op_neDK K hr.units) (pe_callTy call_listOf (by rfl) T.n_list (by decide +kernel) (pa_cons (pv 5) pa_nil)) (pv 4) (nomark _)) (pw_or1 (pt_not (pt_val (pe_callB (cr_allK K rfl) (by rfl) T.n_all (by decide +kernel) (pa_cons (pe_lc (own := [("_law_one", 6)]) rfl sc_law_right.nd (pi_tup (pv 5)) (blkOk_by (own := [("_law_one", 6)]) (N := ["_law_marks_here", "_law_left_here", "_law_right_here", "_law_handed", "_law_due", "_law_found", "_law_one", "_law_k", "_law_outcome", "_law_after"]) (sc := defScope s_law_right) (by decide +kernel)) (fun _ _ _ _ _ => (pg_name (i := 6) sc_law_right.nd rfl (Or.inl rfl))) (fun _ _ _ _ _ => pts_nil) (fun _ _ _ _ _ => (pe_k (ok_law_whole T) hr (by decide) (by rfl) (pa_cons (pv 6) pa_nil)))) pa_nil)))))))) (pss_cons (ps_ret pe_bl)
      pss_nil) pss_nil)
      (pss_cons (ps_for PassesOwn.never rfl (pi_enumT (by rfl) T.n_enumerate (pa_cons (pe_tup (pa_cons (pe_strS k_left) (pa_cons (pe_strS k_right) (pa_cons (pe_strS k_even) pa_nil)))) pa_nil)) (pg_tupK K 2 rfl (pgs_cons (pg_name (i := 7) sc_law_right.nd rfl (Or.inl rfl)) (pgs_cons (pg_name (i := 8) sc_law_right.nd rfl (Or.inl rfl)) pgs_nil))) (pss_cons (ps_set (i := 9) sc_law_right.nd rfl (Or.inl rfl) (pe_k (ok_law_told T) hr (by decide) (by rfl) (pa_cons (pv 0) (pa_cons (pe_ix (ix_listK K) (pv 3) pe_int (fun _ _ => rfl)) (pa_cons (pe_ix (ix_listK K) (pv 3) pe_int (fun _ _ => rfl)) (pa_cons (pv 8) pa_nil))))))
      (pss_cons (ps_if (pt_cmpR op_neT (pv 9) (pe_ifExp (pt_cmpR op_gtI (pe_ix (ix_listK K) (pv 4) (pv 7) (fun _ _ => rfl)) pe_int (nomark _)) (pe_k (ok_law_behind T) hr (by decide) (by rfl) (pa_cons (pv 0) (pa_cons (pv 1) (pa_cons (pv 2) (pa_cons (pv 8) pa_nil))))) (pe_strS k_never)) (nomark _)) (pss_cons (ps_ret pe_bl)
      pss_nil) pss_nil)
      pss_nil)))
      (pss_cons (ps_ret (pe_cmpR (op_eqDK K hr.units) (pv 3) (pe_lst (pa_cons (pv 1) (pa_cons (pv 2) pa_nil))) (nomark _)))
      pss_nil)))))), ?_⟩
    obtain ⟨⟨pl, rfl, s1⟩, ⟨pr, rfl, s2⟩, hwb, ll, lr⟩ := id hw
    have hdis := (weigh_un hwb).2.2.2
    refine go_asgLL (el_listOf (ev_var rfl) s1) (el_listOf (ev_var rfl) s2) fun x y z hx hy hz nxy nxz nyz => ?_
    have kz : (upd (upd (upd H x (.lst (l.map V.int))) y (.lst (r.map V.int))) z (.lst [V.ref x, V.ref y])) z = some (.lst [V.ref x, V.ref y]) := upd_same
    have kx : (upd (upd (upd H x (.lst (l.map V.int))) y (.lst (r.map V.int))) z (.lst [V.ref x, V.ref y])) x = some (.lst (l.map V.int)) := by rw [upd_ne nxz, upd_ne nxy, upd_same]
    have ky : (upd (upd (upd H x (.lst (l.map V.int))) y (.lst (r.map V.int))) z (.lst [V.ref x, V.ref y])) y = some (.lst (r.map V.int)) := by rw [upd_ne nyz, upd_same]
    have k0 : Ex H (upd (upd (upd H x (.lst (l.map V.int))) y (.lst (r.map V.int))) z (.lst [V.ref x, V.ref y])) := fun b u hb => by
      rw [upd_ne (ne_of_none hb hz), upd_ne (ne_of_none hb hy), upd_ne (ne_of_none hb hx)]
      exact hb
    generalize (upd (upd (upd H x (.lst (l.map V.int))) y (.lst (r.map V.int))) z (.lst [V.ref x, V.ref y])) = Hk at *
    have t1 := ex_l k0 s1
    have t2 := ex_l k0 s2
    have hwx : WPair K Hk m.length (.ref x) (.ref y) l r := ⟨⟨x, rfl, sq_of kx⟩, ⟨y, rfl, sq_of ky⟩, hwb, ll, lr⟩
    refine go_asgL (el_call0 (ea_cons (ev_var rfl) (ea_cons (ev_var rfl) (ea_cons (ev_var rfl) ea_nil))) (sl_law_left t1 t2 hdis (by omega))) fun pd hpd => ?_
    have e1 := Ex.new (o := HO.lst ((outs.map fun o => ((manyN m l r o : Nat) : Int)).map V.int)) hpd
    have hd1 : (upd Hk pd (.lst ((outs.map fun o => ((manyN m l r o : Nat) : Int)).map V.int))) pd = some (.lst ((outs.map fun o => ((manyN m l r o : Nat) : Int)).map V.int)) := upd_same
    generalize (upd Hk pd (.lst ((outs.map fun o => ((manyN m l r o : Nat) : Int)).map V.int))) = H1 at *
    refine go_asgU (eu_judged (ea_cons (ev_var rfl) (ea_cons (ev_ixL (n := 0) (ev_var rfl) ev_c (sq_of (e1 _ _ kz)) rfl) (ea_cons (ev_ixL (n := 1) (ev_var rfl) ev_c (sq_of (e1 _ _ kz)) rfl) ea_nil))) hm (by omega) (hwx.mono e1)) fun pt hpt => ?_
    have e2 := Ex.new (o := HO.tup ((outs.map fun o => ((manyN m l r o : Nat) : Int)).map V.int)) hpt
    have ht2 : (upd H1 pt (.tup ((outs.map fun o => ((manyN m l r o : Nat) : Int)).map V.int))) pt = some (.tup ((outs.map fun o => ((manyN m l r o : Nat) : Int)).map V.int)) := upd_same
    have hd2 := e2 _ _ hd1
    have e12 := e1.trans e2
    generalize (upd H1 pt (.tup ((outs.map fun o => ((manyN m l r o : Nat) : Int)).map V.int))) = H2 at *
    refine go_when (b := false) (et_is (et_or (et_not (et_B (ev_isT (ev_var rfl) ev_c (.ty _) (tyx_sqt (st_of ht2)) (kit_ty (r := true) (by decide +kernel))))) fun _ => et_or (et_test (ev_neNR (el_listOfT (ev_var rfl) (st_of ht2)) (ev_var rfl) (sq_of hd2))) fun _ => et_not (et_B (ev_allN (bs := (outs.map fun o => ((manyN m l r o : Nat) : Int)).map fun _ => true) ?_))) ?_) (fun hb => by cases hb) (fun _ => ?_)
    · rw [List.map_map (g := V.bl)]
      exact el_mapT (outs.map fun o => ((manyN m l r o : Nat) : Int)) V.int (fun _ => V.bl true) 0 (ev_var rfl) (st_of ht2) (by rw [List.length_map]; decide) (fun _ => rfl) fun x _ => ev_call0 (ea_cons (ev_var rfl) ea_nil) (sv_is_whole (x := .int x) rfl)
    · rw [decide_eq_true rfl]
      simp
    refine go_forET (xs := outs.map fun o => V.str (S o)) (fun t i σ Hq => (∃ u7 u8 u9, σ = [some (.str (S m)), some (.ref pl), some (.ref pr), some (.ref z), some (.ref pd), some (.ref pt), none, u7, u8, u9]) ∧ Ex H2 Hq ∧ Hq t = some (.tup (outs.map fun o => V.str (S o)))) (eu_tup (ea_cons ev_c (ea_cons ev_c (ea_cons ev_c ea_nil))) (by decide)) ?_ ?_ ?_ ?_
    · intro t ht
      exact ⟨⟨_, _, _, rfl⟩, Ex.new ht, upd_same⟩
    · intro t i σ Hq h
      exact h.2.2
    · rintro t i v σ Hq hv ⟨⟨u7, u8, u9, rfl⟩, eq, ht⟩
      rw [List.getElem?_map] at hv
      cases ho : outs[i]? with
      | none => rw [ho] at hv; cases hv
      | some o =>
        rw [ho] at hv
        obtain rfl : V.str (S o) = v := Option.some.inj hv
        have hmo := List.mem_of_getElem? ho
        have eall := e12.trans eq
        have hz3 := sq_of (K := K) (eall _ _ kz)
        refine go_asg (ev_call0 (ea_cons (ev_var rfl) (ea_cons (ev_ixL (n := 0) (ev_var rfl) ev_c hz3 rfl) (ea_cons (ev_ixL (n := 1) (ev_var rfl) ev_c hz3 rfl) (ea_cons (ev_var rfl) ea_nil)))) (sv_law_told hm (by omega) (hwx.mono eall) hmo)) ?_
        refine go_when (b := false) (et_is (et_test (ev_neT (b := toldL m l r o) (ev_var rfl) (ev_if (et_test (ev_gtI (ev_ixL (n := i) (v := .int (manyN m l r o : Nat)) (ev_var rfl) (ev_var rfl) (sq_of (eq _ _ hd2)) ?_) ev_c)) (fun h => ?_) (fun h => ?_)))) (by rw [decide_eq_true rfl] <;> rfl)) (fun hb => by cases hb) (fun _ => go_up rfl ⟨⟨_, _, _, rfl⟩, eq, ht⟩)
        · rw [List.getElem?_map, List.getElem?_map, ho] <;> rfl
        · have := of_decide_eq_true h
          have hn : ¬ manyN m l r o = 0 := by omega
          unfold toldL
          rw [if_neg hn]
          exact ev_call0 (ea_cons (ev_var rfl) (ea_cons (ev_var rfl) (ea_cons (ev_var rfl) (ea_cons (ev_var rfl) ea_nil)))) (sv_law_behind (ex_l eall t1) (ex_l eall t2) hdis (by omega))
        · have := of_decide_eq_false h
          have hn : manyN m l r o = 0 := by omega
          unfold toldL
          rw [if_pos hn]
          exact ev_c
    · rintro t σ Hq ⟨⟨u7, u8, u9, rfl⟩, eq, ht⟩
      have eall := e12.trans eq
      exact go_ret (ev_eqTwo (ev_var rfl) (sq_of (eall _ _ kz)) (sq_of (eall _ _ kx)) (sq_of (eall _ _ ky)) (ev_var rfl) (ev_var rfl) (ex_l eall t1) (ex_l eall t2)) (q.mono (k0.trans eall))
theorem sv_law_right {H : Hp} {m : List Nat} {b d : V} {l r : List Int} (hm : marksB m = true) (hl : m.length ≤ 1000) (h : WPair K H m.length b d l r) : SpV (spLawRight K) [.str (S m), b, d] H (.bl true) := sv3 fun H1 e Q q => ⟨m, l, r, rfl, hm, hl, h.mono e, q⟩
end Od

namespace Od
open PySem PySem.Spec PyProof.Rows L2 SX Evl
variable {P : Program} {w : World} {K : PySem.W.Frag} {mg : Str → Option Value} {base : Heap}
/-! ### law_cases_right -/
def spCasesRight (K : PySem.W.Frag) : Sp := S3 fun a b d H Q => ∃ (m : List Nat) (l r : List Int), a = .str (S m) ∧ marksB m = true ∧ m.length ≤ 1000 ∧ WPair K H m.length b d l r ∧ Go H (Q (.bl true))
theorem odd_says {m : List Nat} {i : Nat} {hv : Bool} : oddIn m ((i : Nat) : Int) hv = (decide (m.getD i 0 = 101) || decide (m.getD i 0 = if hv then 104 else 108)) := by
  unfold oddIn
  rw [if_neg (by omega), Int.toNat_natCast]
theorem sing_eq2 {a b : Nat} : decide ([a] = [b]) = decide (a = b) := by
  by_cases h : a = b
  · subst h; simp
  · rw [decide_eq_false h, decide_eq_false fun e => h (List.cons.inj e).1]
theorem out_none {l r : List Int} {n : Nat} {hv : Bool} (hw : weighB (n : Nat) l r = true) : outc l r (-1) hv = tEven := by
  obtain ⟨s1, s2, _, _⟩ := weigh_un hw
  unfold outc
  rw [if_neg fun q => by have := (lt_side l _ _ s1).2 _ q; omega, if_neg fun q => by have := (lt_side r _ _ s2).2 _ q; omega]
theorem ev_sign {σ : L2.St} {H : Hp} {t : TT} {ta tb : TE} {hv : Bool} (h : EvT t σ H hv) (ha : Ev ta σ H (.str (S [104]))) (hb : Ev tb σ H (.str (S [108]))) : Ev (tIf t ta tb) σ H (.str (S [if hv then 104 else 108])) := by
  refine ev_if h (fun e => ?_) (fun e => ?_)
  · subst e; exact ha
  · subst e; exact hb
theorem ok_law_cases_right (T : Txt K mg) : Cal CX0 P w K mg base 6 "_law_cases_right" (spCasesRight K) :=
  cal_mk T.f_law_cases_right T.g_law_cases_right sc_law_cases_right (fun _ _ _ _ _ _ us hl => match us, hl with | [_, _, _], _ => rfl) len3 fun cdv A outer s H vs Q E hr hsp => by
    obtain ⟨a, b, d, rfl, m, l, r, rfl, hm, hl, hw, q⟩ := hsp
    refine ⟨_, (pss_cons (ps_set (i := 3) sc_law_cases_right.nd rfl (Or.inl rfl) (pe_callB call_lenT (by rfl) T.n_len (by decide +kernel) (pa_cons (pv 0) pa_nil)))
      (pss_cons (ps_for PassesOwn.never rfl (pi_enumS (by rfl) T.n_enumerate (pa_cons (pv 0) pa_nil)) (pg_tupK K 2 rfl (pgs_cons (pg_name (i := 4) sc_law_cases_right.nd rfl (Or.inl rfl)) (pgs_cons (pg_name (i := 5) sc_law_cases_right.nd rfl (Or.inl rfl)) pgs_nil))) (pss_cons (ps_for PassesOwn.never rfl (pi_tup (pe_tup (pa_cons pe_bl (pa_cons pe_bl pa_nil)))) (pg_name (i := 6) sc_law_cases_right.nd rfl (Or.inl rfl)) (pss_cons (ps_set (i := 7) sc_law_cases_right.nd rfl (Or.inl rfl) (pe_k (ok_weighed T) hr (by decide) (by rfl) (pa_cons (pv 3) (pa_cons (pv 4) (pa_cons (pv 6) (pa_cons (pv 1) (pa_cons (pv 2) pa_nil)))))))
      (pss_cons (ps_if (PW.pt (pw_or (pt_cmpR op_eqT (pv 5) (pe_strS k_e) (nomark _)) (pw_or1 (pt_cmpR op_eqT (pv 5) (pe_ifExp (pt_val (pv 6)) (pe_strS k_h) (pe_strS k_l)) (nomark _))))) (pss_cons (ps_set (i := 8) sc_law_cases_right.nd rfl (Or.inl rfl) (pe_k (ok_behind T) hr (by decide) (by rfl) (pa_cons (pv 0) (pa_cons (pv 1) (pa_cons (pv 2) (pa_cons (pv 7) pa_nil))))))
      (pss_cons (ps_if (PW.pt (pw_and (pt_cmpR op_neT (pe_ix ix_str (pv 8) (pv 4) (fun _ _ => rfl)) (pe_strS k_e) (nomark _)) (pw_and1 (pt_cmpR op_neT (pe_ix ix_str (pv 8) (pv 4) (fun _ _ => rfl)) (pe_ifExp (pt_val (pv 6)) (pe_strS k_h) (pe_strS k_l)) (nomark _))))) (pss_cons (ps_ret pe_bl)
      pss_nil) pss_nil)
      pss_nil)) pss_nil)
      pss_nil)))
      pss_nil))
      (pss_cons (ps_ret (pe_and (pe_cmpR op_eqT (pe_k (ok_weighed T) hr (by decide) (by rfl) (pa_cons (pv 3) (pa_cons (pe_un un_negI pe_int) (pa_cons pe_bl (pa_cons (pv 1) (pa_cons (pv 2) pa_nil)))))) (pe_strS k_even) (nomark _)) (pe_one (pe_cmpR op_eqT (pe_k (ok_weighed T) hr (by decide) (by rfl) (pa_cons (pv 3) (pa_cons (pe_un un_negI pe_int) (pa_cons pe_bl (pa_cons (pv 1) (pa_cons (pv 2) pa_nil)))))) (pe_strS k_even) (nomark _)))))
      pss_nil))), ?_⟩
    obtain ⟨⟨pl, rfl, s1⟩, ⟨pr, rfl, s2⟩, hwb, ll, lr⟩ := id hw
    refine go_asg (ev_lenT (ev_var rfl) (by omega)) ?_
    refine go_forES (fun i σ Hk => (∃ u4 u5 u6 u7 u8, σ = [some (.str (S m)), some (.ref pl), some (.ref pr), some (.int (m.length : Nat)), u4, u5, u6, u7, u8]) ∧ Ex H Hk) (ea_cons (ev_var rfl) ea_nil) ⟨⟨_, _, _, _, _, rfl⟩, Ex.refl H⟩ ?_ ?_
    · rintro i σ Hk hi ⟨⟨u4, u5, u6, u7, u8, rfl⟩, ek⟩
      refine go_forU (xs := [true, false].map V.bl) (fun t j σ Hq => (∃ u6 u7 u8, σ = [some (.str (S m)), some (.ref pl), some (.ref pr), some (.int (m.length : Nat)), some (.int (i : Nat)), some (.str (S [m.getD i 0])), u6, u7, u8]) ∧ Ex H Hq ∧ Hq t = some (.tup ([true, false].map V.bl))) (eu_tup (ea_cons ev_c (ea_cons ev_c ea_nil)) (by decide)) ?_ ?_ ?_ ?_
      · intro t ht
        exact ⟨⟨_, _, _, rfl⟩, ek.trans (Ex.new ht), upd_same⟩
      · intro t j σ Hq h
        exact h.2.2
      · rintro t j v σ Hq hv ⟨⟨u6, u7, u8, rfl⟩, eq, ht⟩
        obtain ⟨hv1, rfl⟩ : ∃ hv1 : Bool, v = .bl hv1 := by
          rw [List.getElem?_map] at hv
          cases hb : [true, false][j]? with
          | none => rw [hb] at hv; cases hv
          | some x => rw [hb] at hv; exact ⟨x, (Option.some.inj hv).symm⟩
        have hwq := hw.mono eq
        refine go_asg (ev_call0 (ea_cons (ev_var rfl) (ea_cons (ev_var rfl) (ea_cons (ev_var rfl) (ea_cons (ev_var rfl) (ea_cons (ev_var rfl) ea_nil))))) (sv_weighed (odd := ((i : Nat) : Int)) (by omega) (by omega) hwq)) ?_
        refine go_when (b := oddIn m ((i : Nat) : Int) hv1) (et_is (et_or (et_test (ev_eqT (ev_var rfl) ev_c)) fun _ => et_test (ev_eqT (ev_var rfl) (ev_sign (et_test (ev_var rfl)) ev_c ev_c))) (by rw [odd_says, sing_eq2, sing_eq2])) (fun hb => ?_) (fun hb => ?_)
        · obtain ⟨g1, g2, g3⟩ := led_step (l := l) (r := r) (odd := ((i : Nat) : Int)) hwb (by omega) (by omega) hb
          refine go_asg (ev_call0 (ea_cons (ev_var rfl) (ea_cons (ev_var rfl) (ea_cons (ev_var rfl) (ea_cons (ev_var rfl) ea_nil)))) (sv_behind hm (by omega) hwq g1 g3)) ?_
          have lb := beh_len m l r (outc l r ((i : Nat) : Int) hv1)
          rw [odd_says] at g2
          refine go_when (b := false) (et_is (et_and (et_test (ev_neT (ev_ixS (ev_var rfl) (ev_var rfl) (by omega) (by omega)) ev_c)) fun _ => et_test (ev_neT (ev_ixS (ev_var rfl) (ev_var rfl) (by omega) (by omega)) (ev_sign (et_test (ev_var rfl)) ev_c ev_c))) ?_) (fun hb => by cases hb) (fun _ => go_next (go_up rfl ⟨⟨_, _, _, rfl⟩, eq, ht⟩))
          rw [sing_eq2, sing_eq2]
          revert g2
          cases decide ((behindL m l r (outc l r ((i : Nat) : Int) hv1)).getD i 0 = 101) <;> cases decide ((behindL m l r (outc l r ((i : Nat) : Int) hv1)).getD i 0 = if hv1 then 104 else 108) <;> simp
        · exact go_up rfl ⟨⟨_, _, _, rfl⟩, eq, ht⟩
      · rintro t σ Hq ⟨⟨u6, u7, u8, rfl⟩, eq, ht⟩
        exact go_up rfl ⟨⟨_, _, _, _, _, rfl⟩, eq⟩
    · rintro σ Hk ⟨⟨u4, u5, u6, u7, u8, rfl⟩, ek⟩
      have hwk := hw.mono ek
      have one : ∀ {hv : Bool}, V.str (S (outc l r (-1) hv)) = V.str (S tEven) := by
        intro hv
        rw [out_none hwb]
      exact go_ret (ev_is (ev_andV (ev_eqT (ev_is (ev_call0 (ea_cons (ev_var rfl) (ea_cons (ev_negI ev_c) (ea_cons ev_c (ea_cons (ev_var rfl) (ea_cons (ev_var rfl) ea_nil))))) (sv_weighed (odd := -1) (by omega) (by omega) hwk)) one) ev_c) fun _ => ev_eqT (ev_is (ev_call0 (ea_cons (ev_var rfl) (ea_cons (ev_negI ev_c) (ea_cons ev_c (ea_cons (ev_var rfl) (ea_cons (ev_var rfl) ea_nil))))) (sv_weighed (odd := -1) (by omega) (by omega) hwk)) one) ev_c) (by rw [decide_eq_true rfl] <;> rfl)) (q.mono ek)
theorem sv_cases_right {H : Hp} {m : List Nat} {b d : V} {l r : List Int} (hm : marksB m = true) (hl : m.length ≤ 1000) (h : WPair K H m.length b d l r) : SpV (spCasesRight K) [.str (S m), b, d] H (.bl true) := sv3 fun H1 e Q q => ⟨m, l, r, rfl, hm, hl, h.mono e, q⟩
/-! ### law -/
theorem rep_flat (k : Nat) (c : Nat) : (List.replicate k [c]).flatten = List.replicate k c := by
  induction k with
  | zero => rfl
  | succ k ih => rw [List.replicate_succ, List.flatten_cons, ih, List.replicate_succ] <;> rfl
theorem marks_sub {m l : List Nat} (hm : marksB m = true) (h : ∀ c ∈ l, c ∈ m) : marksB l = true := by
  obtain ⟨h1, h2⟩ := marks_un hm
  exact marks_mk (fun c hc => h1 c (h c hc)) fun e => ⟨fun q => (h2 (h _ e)).1 (h _ q), fun q => (h2 (h _ e)).2 (h _ q)⟩
theorem weigh_swap {c : Int} {l r : List Int} (h : weighB c l r = true) : weighB c r l = true := by
  obtain ⟨a, b, e, d⟩ := weigh_un h
  exact weigh_mk b a e.symm fun x hx hl => d x hl hx
theorem weigh_nil {n : Nat} : weighB (n : Nat) [] [] = true := weigh_mk rfl rfl rfl fun x hx => by cases hx
def spLaw (K : PySem.W.Frag) : Sp := S1 fun a H Q => ∃ (p : Addr) (xs : List Int), a = .ref p ∧ SqL K H p (xs.map V.int) ∧ xs.length ≤ 63 ∧ Go H (Q (.bl true))
/-- a call on two new empty lists -/
theorem ev_nils {σ : L2.St} {H : Hp} {te : TE} {m : List Nat} {sp : Sp} {E : XK} {z : V} (h1 : Ev te σ H (.str (S m))) (hs : ∀ p q H1, Ex H H1 → SqL K H1 p (([] : List Int).map V.int) → SqL K H1 q (([] : List Int).map V.int) → SpV sp [.str (S m), .ref p, .ref q] H1 z) :
    Ev (tCall sp [] E (tCons te (tCons (tLst tNil) (tCons (tLst tNil) tNil)))) σ H z := by
  intro H1 e Q q
  have nl : EvL (tLst tNil) σ H [] := el_lst (vs := []) ea_nil (by simp)
  refine h1 H1 e _ fun H2 e2 => ?_
  refine nl H2 (e.trans e2) _ fun a H3 ha e3 h3 => ?_
  refine nl H3 ((e.trans e2).trans e3) _ fun b H4 hb e4 h4 => ?_
  exact hs a b H4 (((e.trans e2).trans e3).trans e4) (sq_of (e4 _ _ h3)) (sq_of h4) H4 (Ex.refl H4) Q (fun H5 e5 => q H5 (((e2.trans e3).trans e4).trans e5)) E
theorem bd_law (T : Txt K mg) : BodyOk P w K mg base 8 "law" s_law (He.ga K "law") ["_law_script", "_law_marks_here", "_law_by", "_law_left_here", "_law_right_here"] (spLaw K) := fun cdv A outer s H vs Q E hr hsp => by
    obtain ⟨a, rfl, p, xs, rfl, hp, hl, q⟩ := hsp
    refine ⟨_, (pss_cons (ps_set (i := 1) sc_law.nd rfl (Or.inl rfl) (pe_k (ok_law_marks T) hr (by decide) (by rfl) (pa_cons (pv 0) pa_nil)))
      (pss_cons (ps_for PassesOwn.never rfl (pi_tup (pe_tup (pa_cons pe_int (pa_cons pe_int (pa_cons pe_int pa_nil))))) (pg_name (i := 2) sc_law.nd rfl (Or.inl rfl)) (pss_cons (ps_asg (pe_k (ok_law_sides T) hr (by decide) (by rfl) (pa_cons (pv 0) (pa_cons (pv 2) (pa_cons (pe_callB call_lenT (by rfl) T.n_len (by decide +kernel) (pa_cons (pv 1) pa_nil)) pa_nil)))) (pg_tupK K 2 rfl (pgs_cons (pg_name (i := 3) sc_law.nd rfl (Or.inl rfl)) (pgs_cons (pg_name (i := 4) sc_law.nd rfl (Or.inl rfl)) pgs_nil))))
      (pss_cons (ps_if (PW.pt (pw_or (pt_not (pt_val (pe_k (ok_law_weighing T) hr (by decide) (by rfl) (pa_cons (pe_callB call_lenT (by rfl) T.n_len (by decide +kernel) (pa_cons (pv 1) pa_nil)) (pa_cons (pv 3) (pa_cons (pv 4) pa_nil)))))) (pw_or1 (pt_not (pt_val (pe_k (ok_law_right T) hr (by decide) (by rfl) (pa_cons (pv 1) (pa_cons (pv 3) (pa_cons (pv 4) pa_nil))))))))) (pss_cons (ps_ret pe_bl)
      pss_nil) pss_nil)
      (pss_cons (ps_if (pt_not (pt_val (pe_k (ok_law_right T) hr (by decide) (by rfl) (pa_cons (pe_op op_mulT (pe_strS k_e) (pe_callB call_lenT (by rfl) T.n_len (by decide +kernel) (pa_cons (pv 1) pa_nil))) (pa_cons (pv 4) (pa_cons (pv 3) pa_nil)))))) (pss_cons (ps_ret pe_bl)
      pss_nil) pss_nil)
      pss_nil))))
      (pss_cons (ps_asg (pe_k (ok_law_sides T) hr (by decide) (by rfl) (pa_cons (pv 0) (pa_cons pe_int (pa_cons (pe_callB call_lenT (by rfl) T.n_len (by decide +kernel) (pa_cons (pv 1) pa_nil)) pa_nil)))) (pg_tupK K 2 rfl (pgs_cons (pg_name (i := 3) sc_law.nd rfl (Or.inl rfl)) (pgs_cons (pg_name (i := 4) sc_law.nd rfl (Or.inl rfl)) pgs_nil))))
      (pss_cons (ps_if (PW.pt (pw_or (pt_not (pt_val (pe_k (ok_law_cases_right T) hr (by decide) (by rfl) (pa_cons (pe_slice C8.sl_txt (pv 1) po_none (po_some pe_int)) (pa_cons (pe_lst pa_nil) (pa_cons (pe_lst pa_nil) pa_nil)))))) (pw_or1 (pt_not (pt_val (pe_k (ok_law_right T) hr (by decide) (by rfl) (pa_cons (pv 1) (pa_cons (pe_lst pa_nil) (pa_cons (pe_lst pa_nil) pa_nil))))))))) (pss_cons (ps_ret pe_bl)
      pss_nil) pss_nil)
      (pss_cons (ps_ret (pe_k (ok_law_cases_right T) hr (by decide) (by rfl) (pa_cons (pv 1) (pa_cons (pv 3) (pa_cons (pv 4) pa_nil)))))
      pss_nil))))), ?_⟩
    refine go_asg (ev_call0 (ea_cons (ev_var rfl) ea_nil) (sv_law_marks hp (by omega))) ?_
    have mm := marks_ok xs
    have ml := marks_len xs
    generalize marksL xs = mk at *
    have lk : mk.length ≤ 63 := by omega
    refine go_forU (xs := [(1 : Nat), 4, 7].map fun b : Nat => V.int (b : Nat)) (fun t i σ Hk => (∃ u2 u3 u4, σ = [some (.ref p), some (.str (S mk)), u2, u3, u4]) ∧ Ex H Hk ∧ Hk t = some (.tup ([(1 : Nat), 4, 7].map fun b : Nat => V.int (b : Nat)))) (eu_tup (ea_cons ev_c (ea_cons ev_c (ea_cons ev_c ea_nil))) (by decide)) ?_ ?_ ?_ ?_
    · intro t ht
      exact ⟨⟨_, _, _, rfl⟩, Ex.new ht, upd_same⟩
    · intro t i σ Hk h
      exact h.2.2
    · rintro t i v σ Hk hv ⟨⟨u2, u3, u4, rfl⟩, ek, ht⟩
      obtain ⟨bys, rfl⟩ : ∃ b : Nat, v = .int (b : Nat) := by
        rw [List.getElem?_map] at hv
        cases hb : [(1 : Nat), 4, 7][i]? with
        | none => rw [hb] at hv; cases hv
        | some x => rw [hb] at hv; exact ⟨x, (Option.some.inj hv).symm⟩
      refine go_unpack2 (er_call (ea_cons (ev_var rfl) (ea_cons (ev_var rfl) (ea_cons (ev_lenT (ev_var rfl) (by omega)) ea_nil))) (sr_sides (ex_l ek hp) (by omega) (by omega))) fun v H3 e3 hv => ?_
      obtain ⟨pt, p1, p2, rfl, t1, t2, t3⟩ := hv
      refine ⟨pt, .ref p1, .ref p2, rfl, st_of t1, ?_⟩
      have hwb := sides_weigh xs bys mk.length
      obtain ⟨c1, c2⟩ := sides_len xs bys mk.length
      generalize (sidesI xs bys mk.length).1 = l at *
      generalize (sidesI xs bys mk.length).2 = r at *
      have hw : WPair K H3 mk.length (.ref p1) (.ref p2) l r := ⟨⟨p1, rfl, sq_of t2⟩, ⟨p2, rfl, sq_of t3⟩, hwb, by omega, by omega⟩
      have hw2 : WPair K H3 (List.replicate mk.length 101).length (.ref p2) (.ref p1) r l := ⟨⟨p2, rfl, sq_of t3⟩, ⟨p1, rfl, sq_of t2⟩, by rw [List.length_replicate]; exact weigh_swap hwb, by omega, by omega⟩
      refine go_when (b := false) (et_is (et_or (et_not (et_B (ev_call0 (ea_cons (ev_lenT (ev_var rfl) (by omega)) (ea_cons (ev_var rfl) (ea_cons (ev_var rfl) ea_nil))) (sv_law_weighing (sq_of t2) (sq_of t3) (by omega) (by omega))))) fun _ => et_not (et_B (ev_call0 (ea_cons (ev_var rfl) (ea_cons (ev_var rfl) (ea_cons (ev_var rfl) ea_nil))) (sv_law_right mm (by omega) hw)))) (by rw [hwb] <;> rfl)) (fun hb => by cases hb) (fun _ => ?_)
      refine go_when (b := false) (et_is (et_not (et_B (ev_call0 (ea_cons (ev_is (ev_mulT (m := [101]) ev_c (ev_lenT (ev_var rfl) (by omega)) (by omega) (by omega) (by decide)) (by rw [Int.toNat_natCast, rep_flat])) (ea_cons (ev_var rfl) (ea_cons (ev_var rfl) ea_nil))) (sv_law_right (m := List.replicate mk.length 101) (allE_marks mk.length) (by rw [List.length_replicate]; omega) hw2)))) rfl) (fun hb => by cases hb) (fun _ => go_up rfl ⟨⟨_, _, _, rfl⟩, ek.trans e3, e3 _ _ ht⟩)
    · rintro t σ Hk ⟨⟨u2, u3, u4, rfl⟩, ek, ht⟩
      refine go_unpack2 (er_call (ea_cons (ev_var rfl) (ea_cons (ev_c (v := .int ((2 : Nat) : Int))) (ea_cons (ev_lenT (ev_var rfl) (by omega)) ea_nil))) (sr_sides (ex_l ek hp) (by omega) (by omega))) fun v H3 e3 hv => ?_
      obtain ⟨pt, p1, p2, rfl, t1, t2, t3⟩ := hv
      refine ⟨pt, .ref p1, .ref p2, rfl, st_of t1, ?_⟩
      have hwb := sides_weigh xs 2 mk.length
      obtain ⟨c1, c2⟩ := sides_len xs 2 mk.length
      generalize (sidesI xs 2 mk.length).1 = l at *
      generalize (sidesI xs 2 mk.length).2 = r at *
      have hw : WPair K H3 mk.length (.ref p1) (.ref p2) l r := ⟨⟨p1, rfl, sq_of t2⟩, ⟨p2, rfl, sq_of t3⟩, hwb, by omega, by omega⟩
      have l12 : (mk.take 12).length ≤ 63 := by rw [List.length_take]; omega
      refine go_when (b := false) (et_is (et_or (et_not (et_B (ev_nils (ev_slTo (ev_var rfl) (eo_some ev_c) (by decide) (by omega)) fun a b H1 e1 ha hb => sv_cases_right (marks_sub mm fun c hc => mem_take_of hc) (by show (mk.take 12).length ≤ _; omega) ⟨⟨a, rfl, ha⟩, ⟨b, rfl, hb⟩, weigh_nil, by simp, by simp⟩))) fun _ => et_not (et_B (ev_nils (ev_var rfl) fun a b H1 e1 ha hb => sv_law_right mm (by omega) ⟨⟨a, rfl, ha⟩, ⟨b, rfl, hb⟩, weigh_nil, by simp, by simp⟩))) rfl) (fun hb => by cases hb) (fun _ => ?_)
      exact go_ret (ev_call0 (ea_cons (ev_var rfl) (ea_cons (ev_var rfl) (ea_cons (ev_var rfl) ea_nil))) (sv_cases_right mm (by omega) hw)) (q.mono (ek.trans e3))
end Od

namespace Od
open PySem PySem.Spec PyProof.Rows L2 SX Evl
/-! ### the head -/
abbrev RowO : PySem.W.OpenRow := PySem.W.OpenLaw.row PySem.Challenge.rw_oddcoin_k03_weighings
abbrev hk : PySem.W.Hook := hookQ 4 fas fns exs
def ob (s : PySem.W.SharedT) : AlQ := obsQG 4 fas fns exs (HandSHeadRun.getT s)
theorem ob_eq (s : PySem.W.SharedT) : ob s = hk.obs s.abs := obsQG_eq (HandSHeadRun.getT_eq s)
abbrev looseN : List Str := (["BadCoin", "BadMarks", "BadOutcome", "BadText", "BadWeighing", "CoinError", "Never", "OUTCOMES", "SIGNS", "__name__", "_law_behind", "_law_cases", "_law_cases_right", "_law_cell_at", "_law_draw"] : List Str) ++ (["_law_left", "_law_marks", "_law_power", "_law_right", "_law_sides", "_law_told", "_law_weighing", "_law_whole", "behind", "behind_of", "check_marks", "check_weighing", "is_side", "is_weighing", "is_whole"] : List Str) ++ (["judged", "left_over", "many_behind", "sides_of", "weighed"] : List Str)
theorem run (w : World) : HandSHeadRun.RunEq RowO (PySem.W.view RowO.prog [38]) hk ob 4000 looseN w := by
  intro os
  kernel_rfl
theorem theEnd {P : Program} {w : World} {K : PySem.W.Frag} {h : Heap} {mg : Str → Option Value} {f : Addr} (X : K.In h) (G : h.Ns mainGlobals mg) (hfa : mg ("law" : Str) = some (.ref f)) (c : SaysQ fas fns exs K) :
    ∃ fd : FuncData, (∀ (s : Shared) (v : Value), BindsTo s fd ⟨[v], []⟩ [("_law_script", v)]) ∧ ∀ base : Heap, K.In base → base.Ns mainGlobals mg → FnOk P w K mg base CX0 9 f fd ["_law_script"] (spLaw K) := by
  have T := txt_of X G c
  obtain ⟨fd, F⟩ := T.f_law
  have e := hfa.symm.trans T.g_law
  cases e
  have b := FunD.bindsA (ps := ["_law_script"]) F fun _ _ _ _ _ _ us hl => match us, hl with | [_], _ => rfl
  exact ⟨fd, fun s v => b s [v] rfl, fun base _ _ => BodyOk.fn F sc_law len1 (bd_law T)⟩
end Od
open PySem PySem.W PySem.Calls PyProof.Rows
theorem PySem.Challenge.cw_oddcoin_k03_weighings_holds : PySem.Challenge.rw_oddcoin_k03_weighings.Holds := by
  w_on; o_law
  refine HandSHeadRun.head_any (r := OpenLaw.row PySem.Challenge.rw_oddcoin_k03_weighings) (q := view (OpenLaw.row PySem.Challenge.rw_oddcoin_k03_weighings).prog [38]) (H := Od.hk) (ob := Od.ob) (M := 4000) (loose := Od.looseN) (d := HandSHeadRun.topDef (OpenLaw.row PySem.Challenge.rw_oddcoin_k03_weighings).prog 38) (kwd := []) Od.ob_eq
    (by kernel_rfl) (fun s => by kernel_rfl) Od.run (by kernel_rfl) (by kernel_rfl) (by kernel_rfl) (by rfl) (by first | assumption | decide +kernel) (by decide +kernel) ⟨rfl, rfl, rfl, rfl, rfl, by decide +kernel⟩ ?hw ?hc
  case hw => w_witness2
  case hc =>
    refine L2.walk_ofE (l := PySem.Challenge.rw_oddcoin_k03_weighings) (n := 63) (k := 9) (x := "_law_script") (CX := L2.CX0) rfl (by decide) (by kernel_rfl) ⟨rfl, by decide, by decide⟩ ?F (fun _ _ _ _ z => z)
    intro w mg fa h Y G hmg0
    obtain ⟨K, KX, c⟩ := Y
    have hmg : mg ("law" : PySem.Str) = some (.ref fa) := by
      have e : (HandSHeadRun.topDef (OpenLaw.row PySem.Challenge.rw_oddcoin_k03_weighings).prog 38).name = ("law" : PySem.Str) := by kernel_rfl
      rw [← e]
      exact hmg0
    obtain ⟨fd, hb, hF⟩ := Od.theEnd (P := (PySem.Challenge.rw_oddcoin_k03_weighings).prog) (w := w) KX G hmg c
    exact ⟨K, fd, Od.spLaw K, KX, hb, fun H a ns hl _ hS => ⟨.ref a, rfl, a, ns, rfl, hS, hl, fun _ _ => rfl⟩, hF⟩
