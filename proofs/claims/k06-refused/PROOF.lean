import PyProof.Rows.All
import Wide.All
import OpenK.AllK
import Wide.FinOn
import PyProof.EqAt
import PyProof.EqKinds
import PyProof.TupleCall
import Lean
import HandS.ForMost
import HandS.WordsExc
import HandS.Exc
import HandS.ExcOwn
import HandS.ExcIs
import HandS.TryOnly
import HandS.Defaults
import HandS.IsInst
import HandS.Head0
import HandS.Head1
import HandS.Head2
import HandS.HeadEnd
import HandS.HeadHook1
import HandS.HeadHook2
import HandS.Evl
import HandS.Codes
import HandS.StrMore
import HandS.TupLe
import HandS.SortInts
import HandS.Flow
import HandS.Style
import HandS.Walk
import PyProof.Rows.StrRev
import PyProof.Rows.StrStep
import KE.GoesMore
import HandS.New0
import HandS.SetFor
import HandS.Strs
import PyProof.Rows.CountFlat
import HandS.HotCalls
import HandS.CallLocal
import PySem.Challenge.RW_oddcoin_k06_refused
set_option Elab.async false
set_option linter.all false
set_option maxRecDepth 100000
set_option maxHeartbeats 4000000
namespace Od
open PySem PySem.Spec PyProof.Rows L2
/-! ### facts that the top leaves, and some truths more, read by one look -/
structure InsK (K : PySem.W.Frag) (C : Addr) : Prop where
  ha : PySem.W.findIn K (.ref C) "__class__" = some (some (.builtin "object.__class__"))
  hn : PySem.W.specialIn K (.builtin "object.__class__") "__get__" = some (some (.builtin "getset_descriptor.__get__"))
  ht : PySem.W.takesIn K (.builtin "object.__class__") = some true
  hm : PySem.W.mroIn K C (.type "object") = some true
def insB (K : PySem.W.Frag) (C : Addr) : Bool :=
  He.eqO (PySem.W.findIn K (.ref C) "__class__") (some (some (.builtin "object.__class__"))) &&
  (He.eqO (PySem.W.specialIn K (.builtin "object.__class__") "__get__") (some (some (.builtin "getset_descriptor.__get__"))) &&
  (decide (PySem.W.takesIn K (.builtin "object.__class__") = some true) && decide (PySem.W.mroIn K C (.type "object") = some true)))
theorem insB_ok {K : PySem.W.Frag} {C : Addr} (h : insB K C = true) : InsK K C := by
  obtain ⟨h1, h⟩ := He.ba h
  obtain ⟨h2, h⟩ := He.ba h
  obtain ⟨h3, h4⟩ := He.ba h
  exact ⟨He.eqO_ok h1, He.eqO_ok h2, of_decide_eq_true h3, of_decide_eq_true h4⟩
structure Mk0 (K : PySem.W.Frag) (C : Addr) : Prop where
  makes : PySem.W.makesIn K C = true
  init : PySem.W.findIn K (.ref C) "__init__" = some (some (.builtin "object.__init__"))
  kp : PySem.W.keepIn K (.ref C) = true
def mk0B (K : PySem.W.Frag) (C : Addr) : Bool :=
  PySem.W.makesIn K C && (He.eqO (PySem.W.findIn K (.ref C) "__init__") (some (some (.builtin "object.__init__"))) && PySem.W.keepIn K (.ref C))
theorem mk0B_ok {K : PySem.W.Frag} {C : Addr} (h : mk0B K C = true) : Mk0 K C := by
  obtain ⟨h1, h⟩ := He.ba h
  obtain ⟨h2, h3⟩ := He.ba h
  exact ⟨h1, He.eqO_ok h2, h3⟩
def excCB (K : PySem.W.Frag) (D : Addr) : Bool :=
  He.eqO (PySem.W.findIn K (.ref D) "__getattribute__") (some (some (.builtin "BaseException.__getattribute__"))) &&
  (He.eqO (PySem.W.findIn K (.ref D) "__getattr__") (some none) &&
  (decide (PySem.W.subIn K (.ref D) (.type "BaseException") = some true) && (PySem.W.hasDictIn K D && insB K D)))
theorem excCB_ok {K : PySem.W.Frag} {D : Addr} (h : excCB K D = true) : L2.ExcC K D := by
  obtain ⟨h1, h⟩ := He.ba h
  obtain ⟨h2, h⟩ := He.ba h
  obtain ⟨h3, h⟩ := He.ba h
  obtain ⟨h4, h5⟩ := He.ba h
  have i := insB_ok h5
  exact ⟨He.eqO_ok h1, He.eqO_ok h2, of_decide_eq_true h3, h4, i.ha, i.hn, i.ht, i.hm⟩
abbrev AlQ : Type := He.AlD × Bool
def obsQ (fa : List He.Fa) (fn : List He.DefD) (ex : PySem.W.Frag → List Bool) (K : PySem.W.Frag) : AlQ := (He.obsD fa fn K, (ex K).all id)
def valQ (fn : List He.DefD) : AlQ := (He.valD fn, true)
def SaysQ (fa : List He.Fa) (fn : List He.DefD) (ex : PySem.W.Frag → List Bool) (K : PySem.W.Frag) : Prop := He.SaysD fa fn K ∧ (ex K).all id = true
theorem SaysQ.ex {fa : List He.Fa} {fn : List He.DefD} {ex : PySem.W.Frag → List Bool} {K : PySem.W.Frag} (c : SaysQ fa fn ex K) (i : Nat) {b : Bool} (h : (ex K)[i]? = some b) : b = true :=
  List.all_eq_true.mp c.2 b (List.mem_of_getElem? h)
def obsQG (n : Nat) (fa : List He.Fa) (fn : List He.DefD) (ex : PySem.W.Frag → List Bool) (g : Addr → Option Obj) : AlQ := obsQ fa fn ex (He.frG g (He.asD g n))
def hookQ (n : Nat) (fa : List He.Fa) (fn : List He.DefD) (ex : PySem.W.Frag → List Bool) : PySem.W.Hook where
  α := AlQ
  obs := fun s => obsQG n fa fn ex s.heap.get?
  val := fun _ => valQ fn
  says := fun _ h => ∃ K : PySem.W.Frag, K.In h ∧ SaysQ fa fn ex K
  of := fun _ _ e => ⟨_, He.frG_in, congrArg (fun z : AlQ => z.1) e, congrArg (fun z : AlQ => z.2) e⟩
  keeps := fun _ _ _ ⟨K, hK, c⟩ k => ⟨K, PySem.W.Frag.In.keeps hK k, c⟩
theorem obsQG_eq {n : Nat} {fa : List He.Fa} {fn : List He.DefD} {ex : PySem.W.Frag → List Bool} {g : Addr → Option Obj} {s : Shared} (h : ∀ a, g a = s.heap.get? a) : obsQG n fa fn ex g = (hookQ n fa fn ex).obs s := by
  have e : g = s.heap.get? := funext h
  rw [e] <;> rfl
end Od

namespace Od
open PySem PySem.Spec PyProof.Rows L2 SX
open PySem.Builtin PySem.Builtin.Str
/-! ### texts as lists of signs -/
theorem get_take_count (m : List Nat) (c i : Nat) : (m.take (i + 1)).count c = (m.take i).count c + (if m[i]? = some c then 1 else 0) := by
  rw [List.take_add_one, List.count_append]
  cases h : m[i]? with
  | none => simp
  | some d =>
    by_cases e : d = c
    · subst e; simp
    · have : ¬ (some d = some c) := fun q => e (Option.some.inj q)
      rw [if_neg this]
      simp [e]
theorem count_run (m : List Nat) (c : Nat) : ∀ (k a : Nat) (st : Array Nat × Nat), a + k = m.length + 1 → st.fst.size = (m.take a).count c → st.snd ≤ a →
    (forIn (List.range' a k) st (StrLaws.occBody (S m) (S [c]) m.length (m.length + 1))).run.fst.size = m.count c
  | 0, a, st, h, h1, h2 => by
    have e : m.take a = m := List.take_of_length_le (by omega)
    rw [e] at h1
    simpa using h1
  | k + 1, a, st, h, h1, h2 => by
    rw [List.range'_succ, List.forIn_cons]
    have ec := get_take_count m c a
    have hs : (S [c]).length = 1 := rfl
    have one := StrLaws.subAt_one (S m) c a
    have el : (S m).length = m.length := S_len m
    rw [el] at one
    have ht : (S m).cps.toList = m := rfl
    rw [ht] at one
    have hcount : (m.take a).count c ≤ m.length := Nat.le_trans (List.count_le_length) (by simp; omega)
    unfold StrLaws.occBody
    by_cases hc : m[a]? = some c
    · have q := one.mpr hc
      rw [if_pos hc] at ec
      have cond : ((st.fst.size < m.length + 1 ∧ st.snd ≤ a) ∧ a + (S [c]).length ≤ m.length) ∧ subAt (S m) (S [c]) a = true :=
        ⟨⟨⟨by omega, h2⟩, q.1⟩, q.2⟩
      rw [if_pos cond]
      exact count_run m c k (a + 1) (st.fst.push a, a + (S [c]).length) (by omega) (by simp; omega) (by rw [hs]; omega)
    · rw [if_neg hc] at ec
      have cond : ¬ (((st.fst.size < m.length + 1 ∧ st.snd ≤ a) ∧ a + (S [c]).length ≤ m.length) ∧ subAt (S m) (S [c]) a = true) := fun z => hc (one.mp ⟨z.1.2, z.2⟩)
      rw [if_neg cond]
      exact count_run m c k (a + 1) (st.fst, st.snd) (by omega) (by show st.fst.size = _; omega) (by show st.snd ≤ _; omega)
theorem count_S (m : List Nat) (c : Nat) : Txt.count (S m) (S [c]) = ((m.count c : Nat) : Int) := by
  unfold Txt.count
  rw [StrLaws.occ_eq]
  have el : (S m).length = m.length := S_len m
  rw [el, Array.length_toList]
  exact congrArg (fun z : Nat => (z : Int)) (count_run m c (m.length + 1 - 0) 0 (#[], 0) (by omega) (by simp) (Nat.le_refl _))
theorem foldl_app (m : List Nat) : ∀ (n : Nat) (acc : Array Nat), ((List.replicate n m.toArray).foldl (· ++ ·) acc).toList = acc.toList ++ (List.replicate n m).flatten
  | 0, acc => by simp
  | n + 1, acc => by
    rw [List.replicate_succ, List.foldl_cons, foldl_app m n, List.replicate_succ, List.flatten_cons]
    simp
theorem mul_S (m : List Nat) {n : Int} (h : 0 ≤ n) : Txt.mul (S m) n = S (List.replicate n.toNat m).flatten := by
  unfold Txt.mul
  by_cases h1 : n < 1
  · have e : n.toNat = 0 := by omega
    rw [if_pos h1, e]
    rfl
  · rw [if_neg h1]
    by_cases h2 : (n == 1 || (S m).length == 0) = true
    · rw [if_pos h2]
      rw [Bool.or_eq_true, beq_iff_eq, beq_iff_eq] at h2
      rcases h2 with e | e
      · subst e
        show S m = S (List.replicate 1 m).flatten
        simp
      · rw [S_len] at e
        have e2 : m = [] := List.length_eq_zero_iff.mp e
        subst e2
        have e3 : (List.replicate n.toNat ([] : List Nat)).flatten = [] := by simp
        rw [e3]
    · rw [if_neg h2]
      refine Str.ext' (Array.ext' ?_)
      rw [foldl_app]
      simp
theorem len_rep (m : List Nat) (n : Nat) : ((List.replicate n m).flatten).length = n * m.length := by
  simp [List.length_flatten]
def rMulT : R2 := fun x y H Q => ∃ (m : List Nat) (n : Int), x = .str (S m) ∧ y = .int n ∧ 0 ≤ n ∧ n ≤ 10000 ∧ m.length ≤ 100 ∧ Q (.str (S (List.replicate n.toNat m).flatten)) H
theorem op_mulT {X : Cx} : OpR X (binaryOp .Mult) rMulT := by
  intro pins s σ H x y v u Q I rx ry h
  obtain ⟨m, n, rfl, rfl, h0, h1, hm, q⟩ := h
  obtain ⟨t, rfl⟩ := rx
  obtain ⟨t', rfl⟩ := ry
  have el : (S m).length = m.length := S_len m
  refine SB.mul ⟨?_, fun _ _ => ?_, fun _ _ => ?_⟩ fun t2 k => ⟨.str (Txt.mul (S m) n), H, I.tok _, ⟨_, rfl⟩, by rw [mul_S m h0]; exact q⟩
  · have a1 : ¬ n < -(2 ^ 63 : Int) := by omega
    have a2 : ¬ n ≥ (2 ^ 63 : Int) := by omega
    rw [decide_eq_false a1, decide_eq_false a2] <;> rfl
  · rw [el]
    have hn : 0 < n := by
      rcases Int.lt_or_eq_of_le h0 with z | z
      · exact z
      · omega
    have : (100 : Int) ≤ (2 ^ 63 - 1) / n := Int.le_ediv_of_mul_le hn (by omega)
    omega
  · rw [el]
    have : m.length * n.toNat ≤ 100 * 10000 := Nat.mul_le_mul hm (by omega)
    unfold tooLong
    have e : sizeLine = 16777216 := sizeLine_eq
    simp only [decide_eq_false_iff_not, Nat.not_lt, gt_iff_lt]
    first
      | omega
      | (rw [e]; omega)
/-! ### s[::-1] of a text -/
theorem rev_S (m : List Nat) (u : Tok) : Txt.sliceBy (S m) none none (-1, u) = S m.reverse := by
  refine Str.ext' (Array.ext' ?_)
  rw [PyProof.Rows.step_rev_list]
  show _ = m.reverse
  have el : (S m).length = m.length := S_len m
  rw [el]
  refine List.ext_getElem (by simp) fun i h1 h2 => ?_
  simp only [List.getElem_map, List.getElem_range, List.getElem_reverse]
  have hi : i < m.length := by simpa using h1
  have hb : m.length - 1 - i < m.length := by omega
  show m.toArray.getD (m.length - 1 - i) 0 = _
  simp [Array.getD, hb]
end Od

namespace Od
open PySem PySem.Spec PyProof.Rows L2 SX
open PySem.Builtin PySem.Builtin.Str
section
variable {X : Cx}
def tRevS (te : TE) : TE := fun σ H Q => te σ H fun x H1 => ∃ m : List Nat, x = .str (S m) ∧ m.length ≤ 100000 ∧ Q (.str (S m.reverse)) H1
theorem pe_revS {e : Expr} {te : TE} {k : Nat} {p1 p2 p3 pos : Pos} (he : PE X e te) : PE X (.Subscript e (.Slice none none (some (.UnaryOp .USub (.Constant (.int 1) k p1) p2)) p3) pos) (tRevS te) := by
  refine ⟨fun pins s σ H Q I h => ?_⟩
  refine Subscript_ (thn (he.run pins s σ H _ I h) fun v s1 ⟨x, H1, I1, r1, q1⟩ => ?_)
  obtain ⟨m, ex, hm, q⟩ := q1
  subst ex
  obtain ⟨t, rfl⟩ := r1
  have hst : PO X (some (.UnaryOp .USub (.Constant (.int 1) k p1) p2)) (tPart (tUn (rU fun i => .int (-i)) (tC (.int 1)))) := po_some (pe_un un_neg pe_int)
  refine wpAny_Slice (thn (po_none.run pins s1 σ H1 (fun o H2 => o = none ∧ H2 = H1) I1 ⟨rfl, rfl⟩) fun vl s2 ⟨l, H2, I2, pl, el, e2⟩ => ?_)
  subst el e2
  refine thn (po_none.run pins s2 σ H2 (fun o H3 => o = none ∧ H3 = H2) I2 ⟨rfl, rfl⟩) fun vu s3 ⟨u, H3, I3, pu, eu, e3⟩ => ?_
  subst eu e3
  refine thn (hst.run pins s3 σ H3 (fun o H4 => o = some (-1) ∧ H4 = H3) I3 ⟨1, rfl, -1, rfl, rfl, rfl⟩) fun vs s4 ⟨o, H4, I4, ps, eo, e4⟩ => ?_
  subst eo e4
  have I5 : Inv X pins σ H4 { s4 with heap := s4.heap.push { cls := .type "slice", data := .fields #[vl, vu, vs] } } := I4.kept (t' := s4.toks) fun b ob q => Heap.get?_push_of_some _ q
  show wpAny (model X.prog X.w) X.A (subscriptTail e (.Slice none none (some (.UnaryOp .USub (.Constant (.int 1) k p1) p2)) p3) (.str (S m) t) (.ref s4.heap.objs.size)) (EP X pins σ Q) X.xe { s4 with heap := s4.heap.push { cls := .type "slice", data := .fields #[vl, vu, vs] } }
  refine tail_any (ops := [.ref s4.heap.objs.size, .str (S m) t]) (typeIs_str _ _ _) (F.slot_str_getitem.lookup) ?_ (by with_unfolding_all rfl)
  obtain ⟨l', e1, e2⟩ := IsPart.raw pl
  obtain ⟨u', e3, e4⟩ := IsPart.raw pu
  obtain ⟨w', e5, e6⟩ := IsPart.raw ps
  cases l' with
  | some z => cases e2
  | none =>
    cases u' with
    | some z => cases e4
    | none =>
      cases w' with
      | none => cases e6
      | some z =>
        obtain ⟨i, ti⟩ := z
        have ei : i = -1 := Option.some.inj e6
        subst ei
        subst e1 e3 e5
        refine wpAny_getItem_str_slice (l := none) (u := none) (st := some (-1, ti)) ⟨_, Heap.get?_push_size _ rfl, rfl, rfl⟩ (show ((-1 : Int) == 0) = false by decide) ?_
        have hz : (S m).length ≤ sizeLine := by rw [S_len]; exact Nat.le_trans hm (by decide)
        have q2 : Q (.str (Txt.sliceBy (S m) none none (-1, ti))) H4 := by rw [rev_S]; exact q
        exact post_val_or_str ⟨Nat.le_trans (Txt.sliceBy_le (S m) _ _ (-1, ti) (show (-1 : Int) ≠ 0 by decide)) hz, fun t' c => ⟨.str _, H4, I5.tok _, ⟨_, rfl⟩, q2⟩⟩
/-! ### enumerate(text), enumerate(tuple) -/
/-- the items as they are told by y, each in a new pair -/
def ItE (n : Nat) (y : Nat → V) : It :=
  ⟨fun i _ => i < n, fun i H v H' => ∃ T, v = .ref T ∧ H T = none ∧ H' = upd H T (.tup [.int (i : Nat), y i]), fun i _ => i = n⟩
theorem turn_enumD {P : Program} {w : World} {K : PySem.W.Frag} {elts : List Expr} {kk : Nat} {tpos : Pos} {x : Str} {t : Tok} (e it : Addr) :
    Turn P w K (.Tuple elts kk tpos) (ItE x.cps.size fun i => .str ⟨#[x.cps.getD i 0]⟩) [e, it] e (fun i h => (∃ old, IsEnum h e it ((i : Nat) : Int) old) ∧ h.IsStrIter it (strIterType x) x t i ∧ e ≠ it) where
  mem := by simp
  obj := fun i h st b hb => by
    obtain ⟨⟨old, he⟩, ⟨o, ho, hc, hd⟩, _⟩ := st
    have e' : b = e ∨ b = it := by simpa using hb
    rcases e' with z | z
    · rw [z]; exact ⟨_, he, fun v q => nomatch q⟩
    · rw [z]; exact ⟨o, ho, fun v q => by rw [hd] at q; cases q⟩
  keep := fun i h h' st k => let ⟨⟨old, he⟩, ⟨o, ho, r⟩, hne⟩ := st; ⟨⟨old, k e (by simp) _ he⟩, ⟨o, k it (by simp) o ho, r⟩, hne⟩
  item := by
    intro X hP hw hK hc i pins s σ H E I hf st hg
    subst hP hw hK
    obtain ⟨⟨old, he⟩, hit, hne⟩ := st
    have hg' : i < x.cps.size := hg
    have hel : e < s.heap.objs.size := Heap.lt_size he
    have hil : it < s.heap.objs.size := by obtain ⟨_, q, _⟩ := hit; exact Heap.lt_size q
    have D := Draws.text (prog := X.prog) (w := X.w) (A := X.A.in1) (I.ok.hd hc) it x t
    refine wpAny_pyNext_enum_itemD D he hit hg' hne (by simp; exact hne) fun y h' tk hP ho hit' hT hsz hk => ?_
    obtain ⟨c, u, hc', rfl⟩ := hP
    have ec : x.cps.getD i 0 = c := by simp [Array.getD_eq_getD_getElem?, hc']
    refine ⟨_, rfl, wpAny_letOwnedTupleGo_enum (s := { s with heap := h', toks := tk + 1 }) ho fun h'' he' sb => ?_⟩
    have hT2 : h''.get? s.heap.objs.size = some { cls := .type "tuple", data := .seq #[.int i tk, .str ⟨#[c]⟩ u] } := (sb.2 _ (Nat.ne_of_gt hel)).trans hT
    have new : ObjOk X.prog X.w (upd H s.heap.objs.size (.tup [.int (i : Nat), .str ⟨#[c]⟩])) h'' s.heap.objs.size (.tup [.int (i : Nat), .str ⟨#[c]⟩]) :=
      ⟨by show 2 ≤ sizeLine; decide, [.int i tk, .str ⟨#[c]⟩ u], .cons ⟨_, rfl⟩ (.cons ⟨_, rfl⟩ .nil), ⟨_, hT2, rfl, _, rfl⟩⟩
    have I1 : Inv X pins σ (upd H s.heap.objs.size (.tup [.int (i : Nat), .str ⟨#[c]⟩])) { s with heap := h'', toks := tk + 1 } :=
      I.turnedNew (ch := [e, it]) (fun b ob hb q => (sb.2 b (fun z => hb (by simp [z]))).trans (hk b ob (fun z => hb (by simp [z])) (fun z => hb (by simp [z])) q)) hf (Nat.le_refl _) new
    refine ⟨.ref s.heap.objs.size, _, I1, rfl, ⟨_, rfl, I.hok.fresh (Nat.le_refl _), by show _ = upd _ _ (.tup [.int (i : Nat), .str ⟨#[x.cps.getD i 0]⟩]); rw [ec]⟩, ⟨⟨.str ⟨#[c]⟩ u, ?_⟩, ?_, hne⟩, fun b hb => ?_⟩
    · have e1 : ((i + 1 : Nat) : Int) = (i : Int) + 1 := by omega
      rw [e1]; exact he'
    · obtain ⟨o, ho2, r⟩ := hit'
      exact ⟨o, (sb.2 it (Ne.symm hne)).trans ho2, r⟩
    · have hb' : b < s.heap.objs.size := by
        have e' : b = e ∨ b = it := by simpa using hb
        rcases e' with z | z
        · rw [z]; exact hel
        · rw [z]; exact hil
      rw [upd_ne (Nat.ne_of_lt hb')]
      exact (hf b hb).1
  done := by
    intro X hP hw hK hc i pins s σ H E I hf st hg
    subst hP hw hK
    obtain ⟨⟨old, he⟩, hit, hne⟩ := st
    obtain ⟨f0, f1, f2, f3, f4, f5⟩ := hf it (by simp)
    have hx : i = x.cps.size := hg
    subst hx
    have D := Draws.text (prog := X.prog) (w := X.w) (A := X.A.in1) (I.ok.hd hc) it x t
    exact wpAny_pyNext_enum_endD D he hit fun h' eb => ⟨rfl, I.turned (t' := s.toks) (fun b o hb q => eb b o hb q) f0 f1 f3 f4 f5⟩
  self := fun A i s Q E st h => let ⟨⟨_, he⟩, _⟩ := st; wpAny_pyIter_enum he h
def iEnumS (te : TA) : TI := fun σ H R => te σ H fun vs H1 => ∃ m : List Nat, vs = [.str (S m)] ∧ R (ItE m.length fun i => .str (S [m.getD i 0])) H1
theorem pi_enumS {e : Expr} {ta : TA} {p pos tpos : Pos} {elts : List Expr} {kk : Nat} (hg : Gl X "enumerate") (hm : X.mg "enumerate" = none) (ha : PA X [e] ta) (hs : starEach [e] X.env = [(false, eval e X.env)] := by rfl) :
    PI X (.Tuple elts kk tpos) (.Call (.Name "enumerate" p) [e] [] pos) (iEnumS ta) := by
  refine ⟨fun pins s σ H R I h => ?_⟩
  refine Call_ (ld_blt I hg hm boot_enumerate (PyProof.Rows.callWith_type1 (thn (ha.run pos pins s σ H _ I h) fun us s1 ⟨vs, H1, I1, r1, q1⟩ => ?_) hs rfl))
  obtain ⟨m, ex, q⟩ := q1
  subst ex
  cases r1 with
  | cons r rr =>
    cases rr
    obtain ⟨t, rfl⟩ := r
    refine call_enumerate_str fun h' he hit hsz hk => wpAny_pyIter_enum he ?_
    have I2 : Inv X pins σ H1 { s1 with heap := h' } := I1.kept (t' := s1.toks) hk
    have hJ : (ItE (S m).cps.size fun i => .str ⟨#[(S m).cps.getD i 0]⟩) = ItE m.length fun i => .str (S [m.getD i 0]) := by
      have e1 : (S m).cps.size = m.length := S_len m
      have e2 : (fun i => V.str ⟨#[(S m).cps.getD i 0]⟩) = fun i => V.str (S [m.getD i 0]) := by
        funext i
        have e3 : (S m).cps.getD i 0 = m.getD i 0 := by
          show m.toArray.getD i 0 = m.getD i 0
          simp [Array.getD_eq_getD_getElem?, List.getD_eq_getElem?_getD]
        rw [e3]
      rw [e1, e2]
    have T := turn_enumD (P := X.prog) (w := X.w) (K := X.K) (elts := elts) (kk := kk) (tpos := tpos) (x := S m) (t := t) (s1.heap.objs.size + 1) s1.heap.objs.size
    rw [hJ] at T
    refine ⟨s1.heap.objs.size + 1, [s1.heap.objs.size + 1, s1.heap.objs.size], _, _, H1, rfl, I2, T, ⟨⟨.none, he⟩, hit, Nat.succ_ne_self _⟩, fun b hb => ?_, q⟩
    have e' : b = s1.heap.objs.size + 1 ∨ b = s1.heap.objs.size := by simpa using hb
    have hle : s1.heap.objs.size ≤ b := by
      rcases e' with z | z
      · rw [z]; exact Nat.le_add_right _ _
      · rw [z]; exact Nat.le_refl _
    exact I1.fpOk hle (I1.hok.fresh hle)
theorem walk_enumE {n : Nat} {y : Nat → V} : Walk (ItE n y) n (fun _ => True) (fun i H v H' => ∃ T, v = .ref T ∧ H T = none ∧ H' = upd H T (.tup [.int (i : Nat), y i])) :=
  ⟨fun _ _ hi _ => hi, fun _ _ => rfl, fun _ _ _ _ _ _ z => z⟩
end
end Od

namespace Od
open PySem PySem.Spec PyProof.Rows L2 SX Evl
/-! ## operators by names of their own -/
def rAddI : R2 := rI0 fun i j => .int (i + j)
def rSubI : R2 := rI0 fun i j => .int (i - j)
def rMulI : R2 := rI CMul fun i j => .int (i * j)
def rModI : R2 := rI (fun _ j => 0 < j) fun i j => .int (i % j)
def rDivI : R2 := rI CDiv fun i j => .int (i / j)
def rLtI : R2 := rI0 fun i j => .bl (decide (i < j))
def rLeI : R2 := rI0 fun i j => .bl (decide (i ≤ j))
def rGtI : R2 := rI0 fun i j => .bl (decide (j < i))
def rGeI : R2 := rI0 fun i j => .bl (decide (j ≤ i))
def rEqI : R2 := rI0 fun i j => .bl (decide (i = j))
def rNeI : R2 := rI0 fun i j => .bl (!decide (i = j))
def rNegI : V → Hp → VK → Prop := rU fun i => .int (-i)
def rEqB : R2 := fun x y H Q => ∃ a b, x = .bl a ∧ y = .bl b ∧ Q (.bl (decide (a = b))) H
def rNeB : R2 := fun x y H Q => ∃ a b, x = .bl a ∧ y = .bl b ∧ Q (.bl (!decide (a = b))) H
def rEqT : R2 := fun x y H Q => ∃ a b : List Nat, x = .str (S a) ∧ y = .str (S b) ∧ Q (.bl (decide (a = b))) H
def rNeT : R2 := fun x y H Q => ∃ a b : List Nat, x = .str (S a) ∧ y = .str (S b) ∧ Q (.bl (!decide (a = b))) H
def rAddT : R2 := fun x y H Q => ∃ a b : List Nat, x = .str (S a) ∧ y = .str (S b) ∧ a.length + b.length ≤ 100000 ∧ Q (.str (S (a ++ b))) H
def rInT : R2 := fun x y H Q => ∃ (c : Nat) (m : List Nat), x = .str (S [c]) ∧ y = .str (S m) ∧ Q (.bl (decide (c ∈ m))) H
def rNotInT : R2 := fun x y H Q => ∃ (c : Nat) (m : List Nat), x = .str (S [c]) ∧ y = .str (S m) ∧ Q (.bl (!decide (c ∈ m))) H
theorem S_eq (a b : List Nat) : decide (V.str (S a) = V.str (S b)) = decide (a = b) := by
  by_cases h : a = b
  · subst h; simp
  · rw [decide_eq_false h, decide_eq_false fun e => h (S_inj (V.str.inj e))]
section
variable {X : Cx}
theorem op_addI : OpR X (binaryOp .Add) rAddI := op_add
theorem op_subI : OpR X (binaryOp .Sub) rSubI := op_sub
theorem op_mulI : OpR X (binaryOp .Mult) rMulI := op_mul
theorem op_modI : OpR X (binaryOp .Mod) rModI := op_mod
theorem op_divI : OpR X (binaryOp .FloorDiv) rDivI := op_fdiv
theorem op_ltI : OpR X (compareOp .Lt) rLtI := op_lt
theorem op_leI : OpR X (compareOp .LtE) rLeI := op_le
theorem op_gtI : OpR X (compareOp .Gt) rGtI := op_gt
theorem op_geI : OpR X (compareOp .GtE) rGeI := op_ge
theorem un_negI : UnR X (unaryOp .USub) rNegI := un_neg
theorem dec_int (i j : Int) : decide (V.int i = V.int j) = decide (i = j) := by
  by_cases h : i = j
  · subst h; simp
  · rw [decide_eq_false h, decide_eq_false fun e => h (V.int.inj e)]
theorem dec_bl (i j : Bool) : decide (V.bl i = V.bl j) = decide (i = j) := by
  by_cases h : i = j
  · subst h; simp
  · rw [decide_eq_false h, decide_eq_false fun e => h (V.bl.inj e)]
theorem op_eqI : OpR X (compareOp .Eq) rEqI := fun pins s σ H x y v u Q I rx ry h => by
  obtain ⟨i, j, rfl, rfl, q⟩ := h
  exact op_eq pins s σ H _ _ v u Q I rx ry ⟨rfl, by rw [dec_int]; exact q⟩
theorem op_neI : OpR X (compareOp .NotEq) rNeI := fun pins s σ H x y v u Q I rx ry h => by
  obtain ⟨i, j, rfl, rfl, q⟩ := h
  exact op_ne pins s σ H _ _ v u Q I rx ry ⟨rfl, by rw [dec_int]; exact q⟩
theorem op_eqB : OpR X (compareOp .Eq) rEqB := fun pins s σ H x y v u Q I rx ry h => by
  obtain ⟨i, j, rfl, rfl, q⟩ := h
  exact op_eq pins s σ H _ _ v u Q I rx ry ⟨rfl, by rw [dec_bl]; exact q⟩
theorem op_neB : OpR X (compareOp .NotEq) rNeB := fun pins s σ H x y v u Q I rx ry h => by
  obtain ⟨i, j, rfl, rfl, q⟩ := h
  exact op_ne pins s σ H _ _ v u Q I rx ry ⟨rfl, by rw [dec_bl]; exact q⟩
theorem op_eqT : OpR X (compareOp .Eq) rEqT := fun pins s σ H x y v u Q I rx ry h => by
  obtain ⟨i, j, rfl, rfl, q⟩ := h
  exact op_eq pins s σ H _ _ v u Q I rx ry ⟨rfl, by rw [S_eq]; exact q⟩
theorem op_neT : OpR X (compareOp .NotEq) rNeT := fun pins s σ H x y v u Q I rx ry h => by
  obtain ⟨i, j, rfl, rfl, q⟩ := h
  exact op_ne pins s σ H _ _ v u Q I rx ry ⟨rfl, by rw [S_eq]; exact q⟩
theorem op_addT : OpR X (binaryOp .Add) rAddT := fun pins s σ H x y v u Q I rx ry h => by
  obtain ⟨a, b, rfl, rfl, hl, q⟩ := h
  exact op_add_str pins s σ H _ _ v u Q I rx ry ⟨_, _, rfl, rfl, by rw [S_len, S_len]; exact sz_of hl, by rw [S_cat]; exact q⟩
theorem op_inT : OpR X (compareOp .In) rInT := fun pins s σ H x y v u Q I rx ry h => by
  obtain ⟨c, m, rfl, rfl, q⟩ := h
  exact op_in_sign pins s σ H _ _ v u Q I rx ry ⟨c, S m, rfl, rfl, q⟩
theorem op_notInT : OpR X (compareOp .NotIn) rNotInT := fun pins s σ H x y v u Q I rx ry h => by
  obtain ⟨c, m, rfl, rfl, q⟩ := h
  exact op_notIn_sign pins s σ H _ _ v u Q I rx ry ⟨c, S m, rfl, rfl, q⟩
/-- a written text by its signs; a module's constants -/
theorem pe_strS {x : Str} {m : List Nat} {j : Nat} {pos : Pos} (e : x = S m) : PE X (.Constant (.str x) j pos) (tC (.str (S m))) := by
  rw [← e]
  exact pe_str
theorem pe_gS {x z : Str} {m : List Nat} {pos : Pos} (h : ∃ t, X.mg x = some (.str z t)) (e : z = S m) (hg : Gl X x := by rfl) (hd : (x == ("__debug__" : Str)) = false := by decide) : PE X (.Name x pos) (tC (.str (S m))) := by
  obtain ⟨t, h⟩ := h
  rw [← e]
  exact pe_glob hg h ⟨t, rfl⟩ hd
theorem pe_gI {x : Str} {z : Int} {pos : Pos} (h : ∃ t, X.mg x = some (.int z t)) (hg : Gl X x := by rfl) (hd : (x == ("__debug__" : Str)) = false := by decide) : PE X (.Name x pos) (tC (.int z)) := by
  obtain ⟨t, h⟩ := h
  exact pe_glob hg h ⟨t, rfl⟩ hd
theorem pe_gR {x : Str} {a : Addr} {pos : Pos} (h : X.mg x = some (.ref a)) (hg : Gl X x := by rfl) (hd : (x == ("__debug__" : Str)) = false := by decide) : PE X (.Name x pos) (tC (.ref a)) :=
  pe_glob hg h rfl hd
theorem pe_gTy {x : Str} {n : String} {pos : Pos} (h : X.mg x = none) (hv : bootBuiltins x = some (.type n) := by decide +kernel) (hg : Gl X x := by rfl) (hn : x ≠ "__name__" := by decide) (hd : (x == ("__debug__" : Str)) = false := by decide) : PE X (.Name x pos) (tC (.ty n)) :=
  pe_bltn hg h hv rfl hn hd
end
/-! ## built-in functions -/
def r1 (f : V → Hp → VK → Prop) : List V → Hp → VK → Prop := fun vs H Q => ∃ x, vs = [x] ∧ f x H Q
def rLenT : List V → Hp → VK → Prop := fun vs H Q => ∃ m : List Nat, vs = [.str (S m)] ∧ m.length ≤ 100000 ∧ Q (.int (m.length : Nat)) H
def rLenQ (K : PySem.W.Frag) : List V → Hp → VK → Prop := fun vs H Q => ∃ p ys, vs = [.ref p] ∧ (SqL K H p ys ∨ SqT K H p ys) ∧ Q (.int (ys.length : Nat)) H
def rMaxI : List V → Hp → VK → Prop := fun vs H Q => ∃ i j : Int, vs = [.int i, .int j] ∧ Q (.int (max i j)) H
def rMinI : List V → Hp → VK → Prop := fun vs H Q => ∃ i j : Int, vs = [.int i, .int j] ∧ Q (.int (min i j)) H
def rListOf (K : PySem.W.Frag) : List V → Hp → VK → Prop := fun vs H Q => ∃ p ys, vs = [.ref p] ∧ (SqL K H p ys ∨ SqT K H p ys) ∧ ∀ l, H l = none → Q (.ref l) (upd H l (.lst ys))
def rTupOf (K : PySem.W.Frag) : List V → Hp → VK → Prop := fun vs H Q => ∃ p ys, vs = [.ref p] ∧ SqL K H p ys ∧ ∀ l, H l = none → Q (.ref l) (upd H l (.tup ys))
section
variable {X : Cx}
theorem call_lenT : CallR X (.builtin "len") rLenT := fun pins s σ H xs us Q I r h => by
  obtain ⟨m, rfl, hm, q⟩ := h
  refine call_len_str pins s σ H _ us Q I r ⟨S m, rfl, by rw [S_len]; exact sz_of hm, ?_⟩
  rw [S_len]
  exact q
theorem call_lenQ : CallR X (.builtin "len") (rLenQ X.K) := call_len_seq
theorem call_maxI (hc : X.calm = true) : CallR X (.builtin "max") rMaxI := fun pins s σ H xs us Q I r h => by
  obtain ⟨i, j, rfl, q⟩ := h
  refine call_max2 hc pins s σ H _ us Q I r ⟨i, j, rfl, ?_⟩
  have e : (if j > i then j else i) = max i j := by
    split <;> omega
  rw [e]
  exact q
theorem call_minI (hc : X.calm = true) : CallR X (.builtin "min") rMinI := fun pins s σ H xs us Q I r h => by
  obtain ⟨i, j, rfl, q⟩ := h
  refine call_min2 hc pins s σ H _ us Q I r ⟨i, j, rfl, ?_⟩
  have e : (if j < i then j else i) = min i j := by
    split <;> omega
  rw [e]
  exact q
theorem call_listOf : CallR X (.type "list") (rListOf X.K) := call_list_of
theorem call_tupOf : CallR X (.type "tuple") (rTupOf X.K) := fun pins s σ H xs us Q I r h => by
  obtain ⟨p, ys, rfl, hp, q⟩ := h
  exact call_tuple_of pins s σ H _ us Q I r ⟨p, ys, rfl, .inl ⟨hp, q⟩⟩
end
/-! ## methods of texts -/
def rCountT : V → List V → Hp → VK → Prop := fun x xs H Q => ∃ (m : List Nat) (c : Nat), x = .str (S m) ∧ xs = [.str (S [c])] ∧ Q (.int (m.count c : Nat)) H
section
variable {X : Cx}
theorem mt_countT : MtR X "str.count" rCountT := fun pins s σ H x xs v us Q I rx rxs h => by
  obtain ⟨m, c, rfl, rfl, q⟩ := h
  exact mt_count pins s σ H _ _ v us Q I rx rxs ⟨S m, S [c], rfl, rfl, by rw [count_S]; exact q⟩
end
/-! ## what evaluates to what -/
section
variable {K : PySem.W.Frag} {σ : L2.St} {H H' : Hp} {ta tb tc te tx : TE} {t u : TT} {x y z v : V} {i j k : Int} {a b m : List Nat} {xs ys : List V} {p : Addr}
theorem ev_addI (ha : Ev ta σ H (.int i)) (hb : Ev tb σ H (.int j)) : Ev (tOp rAddI ta tb) σ H (.int (i + j)) := ev_op ha hb rv_I0
theorem ev_subI (ha : Ev ta σ H (.int i)) (hb : Ev tb σ H (.int j)) : Ev (tOp rSubI ta tb) σ H (.int (i - j)) := ev_op ha hb rv_I0
theorem ev_mulI (ha : Ev ta σ H (.int i)) (hb : Ev tb σ H (.int j)) (hc : CMul i j) : Ev (tOp rMulI ta tb) σ H (.int (i * j)) := ev_op ha hb (rv_I hc)
theorem ev_modI (ha : Ev ta σ H (.int i)) (hb : Ev tb σ H (.int j)) (hc : 0 < j) : Ev (tOp rModI ta tb) σ H (.int (i % j)) := ev_op ha hb (rv_I hc)
theorem ev_divI (ha : Ev ta σ H (.int i)) (hb : Ev tb σ H (.int j)) (hc : CDiv i j) : Ev (tOp rDivI ta tb) σ H (.int (i / j)) := ev_op ha hb (rv_I hc)
theorem ev_ltI (ha : Ev ta σ H (.int i)) (hb : Ev tb σ H (.int j)) : Ev (tOp rLtI ta tb) σ H (.bl (decide (i < j))) := ev_op ha hb rv_I0
theorem ev_leI (ha : Ev ta σ H (.int i)) (hb : Ev tb σ H (.int j)) : Ev (tOp rLeI ta tb) σ H (.bl (decide (i ≤ j))) := ev_op ha hb rv_I0
theorem ev_gtI (ha : Ev ta σ H (.int i)) (hb : Ev tb σ H (.int j)) : Ev (tOp rGtI ta tb) σ H (.bl (decide (j < i))) := ev_op ha hb rv_I0
theorem ev_geI (ha : Ev ta σ H (.int i)) (hb : Ev tb σ H (.int j)) : Ev (tOp rGeI ta tb) σ H (.bl (decide (j ≤ i))) := ev_op ha hb rv_I0
theorem ev_eqI (ha : Ev ta σ H (.int i)) (hb : Ev tb σ H (.int j)) : Ev (tOp rEqI ta tb) σ H (.bl (decide (i = j))) := ev_op ha hb rv_I0
theorem ev_neI (ha : Ev ta σ H (.int i)) (hb : Ev tb σ H (.int j)) : Ev (tOp rNeI ta tb) σ H (.bl (!decide (i = j))) := ev_op ha hb rv_I0
theorem ev_negI (ha : Ev ta σ H (.int i)) : Ev (tUn rNegI ta) σ H (.int (-i)) := ev_un ha ru_neg
theorem ev_eqB {a b : Bool} (ha : Ev ta σ H (.bl a)) (hb : Ev tb σ H (.bl b)) : Ev (tOp rEqB ta tb) σ H (.bl (decide (a = b))) := ev_op ha hb fun H1 _ _ q => ⟨a, b, rfl, rfl, q H1 (Ex.refl H1)⟩
theorem ev_neB {a b : Bool} (ha : Ev ta σ H (.bl a)) (hb : Ev tb σ H (.bl b)) : Ev (tOp rNeB ta tb) σ H (.bl (!decide (a = b))) := ev_op ha hb fun H1 _ _ q => ⟨a, b, rfl, rfl, q H1 (Ex.refl H1)⟩
theorem ev_eqT (ha : Ev ta σ H (.str (S a))) (hb : Ev tb σ H (.str (S b))) : Ev (tOp rEqT ta tb) σ H (.bl (decide (a = b))) := ev_op ha hb fun H1 _ _ q => ⟨a, b, rfl, rfl, q H1 (Ex.refl H1)⟩
theorem ev_neT (ha : Ev ta σ H (.str (S a))) (hb : Ev tb σ H (.str (S b))) : Ev (tOp rNeT ta tb) σ H (.bl (!decide (a = b))) := ev_op ha hb fun H1 _ _ q => ⟨a, b, rfl, rfl, q H1 (Ex.refl H1)⟩
theorem ev_addT (ha : Ev ta σ H (.str (S a))) (hb : Ev tb σ H (.str (S b))) (hl : a.length + b.length ≤ 100000) : Ev (tOp rAddT ta tb) σ H (.str (S (a ++ b))) := ev_op ha hb fun H1 _ _ q => ⟨a, b, rfl, rfl, hl, q H1 (Ex.refl H1)⟩
theorem ev_mulT (ha : Ev ta σ H (.str (S m))) (hb : Ev tb σ H (.int i)) (h0 : 0 ≤ i) (h1 : i ≤ 10000) (hl : m.length ≤ 100) : Ev (tOp rMulT ta tb) σ H (.str (S (List.replicate i.toNat m).flatten)) := ev_op ha hb fun H1 _ _ q => ⟨m, i, rfl, rfl, h0, h1, hl, q H1 (Ex.refl H1)⟩
theorem ev_inT {c : Nat} (ha : Ev ta σ H (.str (S [c]))) (hb : Ev tb σ H (.str (S m))) : Ev (tOp rInT ta tb) σ H (.bl (decide (c ∈ m))) := ev_op ha hb fun H1 _ _ q => ⟨c, m, rfl, rfl, q H1 (Ex.refl H1)⟩
theorem ev_notInT {c : Nat} (ha : Ev ta σ H (.str (S [c]))) (hb : Ev tb σ H (.str (S m))) : Ev (tOp rNotInT ta tb) σ H (.bl (!decide (c ∈ m))) := ev_op ha hb fun H1 _ _ q => ⟨c, m, rfl, rfl, q H1 (Ex.refl H1)⟩
theorem ite_and {p s : Bool} {A : Prop} {Q : V → Prop} (h : (Q (.bl s) → A)) (q : Q (.bl (p && s))) : if p = true then A else Q (.bl false) := by
  cases p with
  | true => rw [if_pos rfl]; exact h q
  | false => rw [if_neg Bool.false_ne_true]; exact q
theorem ev_leLt (ha : Ev ta σ H (.int i)) (hb : Ev tb σ H (.int j)) (hc : Ev tc σ H (.int k)) : Ev (tChain rLeI rLtI ta tb tc) σ H (.bl (decide (i ≤ j) && decide (j < k))) := fun H1 e Q q =>
  ha H1 e _ fun H2 e2 => hb H2 (e.trans e2) _ fun H3 e3 => ⟨i, j, rfl, rfl, _, rfl, by
    by_cases h : i ≤ j
    · rw [if_pos (decide_eq_true h)]
      rw [decide_eq_true h, Bool.true_and] at q
      exact hc H3 ((e.trans e2).trans e3) _ fun H4 e4 => ⟨j, k, rfl, rfl, q H4 ((e2.trans e3).trans e4)⟩
    · rw [if_neg (by rw [decide_eq_false h]; exact Bool.false_ne_true)]
      rw [decide_eq_false h, Bool.false_and] at q
      exact q H3 (e2.trans e3)⟩
theorem ev_ltLe (ha : Ev ta σ H (.int i)) (hb : Ev tb σ H (.int j)) (hc : Ev tc σ H (.int k)) : Ev (tChain rLtI rLeI ta tb tc) σ H (.bl (decide (i < j) && decide (j ≤ k))) := fun H1 e Q q =>
  ha H1 e _ fun H2 e2 => hb H2 (e.trans e2) _ fun H3 e3 => ⟨i, j, rfl, rfl, _, rfl, by
    by_cases h : i < j
    · rw [if_pos (decide_eq_true h)]
      rw [decide_eq_true h, Bool.true_and] at q
      exact hc H3 ((e.trans e2).trans e3) _ fun H4 e4 => ⟨j, k, rfl, rfl, q H4 ((e2.trans e3).trans e4)⟩
    · rw [if_neg (by rw [decide_eq_false h]; exact Bool.false_ne_true)]
      rw [decide_eq_false h, Bool.false_and] at q
      exact q H3 (e2.trans e3)⟩
theorem ev_leLe (ha : Ev ta σ H (.int i)) (hb : Ev tb σ H (.int j)) (hc : Ev tc σ H (.int k)) : Ev (tChain rLeI rLeI ta tb tc) σ H (.bl (decide (i ≤ j) && decide (j ≤ k))) := fun H1 e Q q =>
  ha H1 e _ fun H2 e2 => hb H2 (e.trans e2) _ fun H3 e3 => ⟨i, j, rfl, rfl, _, rfl, by
    by_cases h : i ≤ j
    · rw [if_pos (decide_eq_true h)]
      rw [decide_eq_true h, Bool.true_and] at q
      exact hc H3 ((e.trans e2).trans e3) _ fun H4 e4 => ⟨j, k, rfl, rfl, q H4 ((e2.trans e3).trans e4)⟩
    · rw [if_neg (by rw [decide_eq_false h]; exact Bool.false_ne_true)]
      rw [decide_eq_false h, Bool.false_and] at q
      exact q H3 (e2.trans e3)⟩
theorem ev_revS (ha : Ev te σ H (.str (S m))) (hm : m.length ≤ 100000) : Ev (tRevS te) σ H (.str (S m.reverse)) := fun H1 e Q q => ha H1 e _ fun H2 e2 => ⟨m, rfl, hm, q H2 e2⟩
/-! calls of built-ins -/
theorem ev_lenT (ha : Ev ta σ H (.str (S m))) (hm : m.length ≤ 100000) : Ev (tCB rLenT (tCons ta tNil)) σ H (.int (m.length : Nat)) := fun H1 e Q q => ha H1 e _ fun H2 e2 => ⟨m, rfl, hm, q H2 e2⟩
theorem ev_lenQ (ha : Ev ta σ H (.ref p)) (h : SqL K H p xs) : Ev (tCB (rLenQ K) (tCons ta tNil)) σ H (.int (xs.length : Nat)) := fun H1 e Q q =>
  ha H1 e _ fun H2 e2 => ⟨p, xs, rfl, .inl (ex_l (e.trans e2) h), q H2 e2⟩
theorem ev_lenQN (ha : EvL ta σ H xs) : Ev (tCB (rLenQ K) (tCons ta tNil)) σ H (.int (xs.length : Nat)) := fun H1 e Q q =>
  ha H1 e _ fun p H2 _ e2 h2 => ⟨p, xs, rfl, .inl (sq_of h2), q H2 e2⟩
theorem ev_max (ha : Ev ta σ H (.int i)) (hb : Ev tb σ H (.int j)) : Ev (tCB rMaxI (tCons ta (tCons tb tNil))) σ H (.int (max i j)) := fun H1 e Q q =>
  ha H1 e _ fun H2 e2 => hb H2 (e.trans e2) _ fun H3 e3 => ⟨i, j, rfl, q H3 (e2.trans e3)⟩
theorem ev_min (ha : Ev ta σ H (.int i)) (hb : Ev tb σ H (.int j)) : Ev (tCB rMinI (tCons ta (tCons tb tNil))) σ H (.int (min i j)) := fun H1 e Q q =>
  ha H1 e _ fun H2 e2 => hb H2 (e.trans e2) _ fun H3 e3 => ⟨i, j, rfl, q H3 (e2.trans e3)⟩
theorem ev_allN {bs : List Bool} (ha : EvL ta σ H (bs.map V.bl)) : Ev (tCB (rAll K) (tCons ta tNil)) σ H (.bl (bs.all id)) := fun H1 e Q q =>
  ha H1 e _ fun p H2 _ e2 h2 => ⟨p, bs, rfl, sq_of h2, q H2 e2⟩
theorem ev_anyN {bs : List Bool} (ha : EvL ta σ H (bs.map V.bl)) : Ev (tCB (rAny K) (tCons ta tNil)) σ H (.bl (bs.any id)) := fun H1 e Q q =>
  ha H1 e _ fun p H2 _ e2 h2 => ⟨p, bs, rfl, sq_of h2, q H2 e2⟩
theorem el_listOf (ha : Ev ta σ H (.ref p)) (h : SqL K H p xs) : EvL (tCB (rListOf K) (tCons ta tNil)) σ H xs := fun H1 e Q q =>
  ha H1 e _ fun H2 e2 => ⟨p, xs, rfl, .inl (ex_l (e.trans e2) h), fun l hl => q l _ (fresh_back e2 hl) (e2.trans (Ex.new hl)) upd_same⟩
theorem ev_isi {c : V} {tt uu : Value} {bb : Bool} (ha : Ev ta σ H x) (hb : Ev tb σ H c) (hc : ClsV c uu) (ht : ∀ H1, Ex H H1 → TyX K H1 x tt) (hk : PySem.W.kitOne K tt uu = some bb) : Ev (tCB (rIsi K) (tCons ta (tCons tb tNil))) σ H (.bl bb) := fun H1 e Q q =>
  ha H1 e _ fun H2 e2 => hb H2 (e.trans e2) _ fun H3 e3 => ⟨x, c, tt, uu, bb, rfl, hc, ht H3 ((e.trans e2).trans e3), hk, q H3 (e2.trans e3)⟩
/-! methods -/
theorem ev_countT {c : Nat} (ha : Ev ta σ H (.str (S m))) (hb : Ev tb σ H (.str (S [c]))) : Ev (tM1 rCountT ta tb) σ H (.int (m.count c : Nat)) := fun H1 e Q q =>
  ha H1 e _ fun H2 e2 => ⟨⟨_, rfl⟩, hb H2 (e.trans e2) _ fun H3 e3 => ⟨m, c, rfl, rfl, q H3 (e2.trans e3)⟩⟩
/-! items -/
theorem ev_ixL {n : Nat} (ha : Ev ta σ H (.ref p)) (hb : Ev tb σ H (.int (n : Nat))) (h : SqL K H p xs) (hn : xs[n]? = some v) : Ev (tOp (rIxL K) ta tb) σ H v := ev_op ha hb (rv_ixL h (atI_nat hn))
theorem ev_ixT {n : Nat} (ha : Ev ta σ H (.ref p)) (hb : Ev tb σ H (.int (n : Nat))) (h : SqT K H p xs) (hn : xs[n]? = some v) : Ev (tOp (rIxT K) ta tb) σ H v := ev_op ha hb (rv_ixT h (atI_nat hn))
/-- an item of a tuple just written -/
theorem ev_ixU {n : Nat} (ha : EvU ta σ H xs) (hb : Ev tb σ H (.int (n : Nat))) (hn : xs[n]? = some v) : Ev (tOp (rIxT K) ta tb) σ H v := fun H1 e Q q =>
  ha H1 e _ fun p H2 _ e2 hp => hb H2 (e.trans e2) _ fun H3 e3 => rv_ixT (st_of (e3 p _ hp)) (atI_nat hn) H3 (Ex.refl H3) Q fun H4 e4 => q H4 ((e2.trans e3).trans e4)
theorem ev_ixS {n : Nat} (ha : Ev ta σ H (.str (S m))) (hb : Ev tb σ H (.int (n : Nat))) (hl : m.length ≤ 100000) (hn : n < m.length) : Ev (tOp rIxS ta tb) σ H (.str (S [m.getD n 0])) := by
  have e : m[n]? = some (m.getD n 0) := by simp [List.getD_eq_getElem?_getD, List.getElem?_eq_getElem hn]
  exact ev_op ha hb (rv_ixS (by rw [S_len]; exact hl) (atI_nat (xs := m) e))
theorem ev_fld {C dx : Addr} {fs : List (Str × V)} {f : Str} (ha : Ev ta σ H (.ref p)) (h : H p = some (.ins C dx fs)) (c : Cls K C) (n : NoAttr K C f) (l : fs.lookup f = some v) : Ev (tFld K ta f) σ H v := fun H1 e Q q =>
  ha H1 e _ fun H2 e2 => ⟨p, C, dx, fs, v, rfl, e2 _ _ (e _ _ h), c, n, l, q H2 e2⟩
theorem ev_meth {C dx : Addr} {fs : List (Str × V)} {f : Str} {sp : Sp} {tr : TA} {vs : List V} {E : XK} (ha : Ev ta σ H (.ref p)) (h : H p = some (.ins C dx fs)) (l : fs.lookup f = none) (hr : EvA tr σ H vs) (hs : SpV sp (.ref p :: (vs ++ [])) H v) : Ev (tMeth C f sp [] E ta tr) σ H v := fun H1 e Q q =>
  ha H1 e _ fun H2 e2 => ⟨p, dx, fs, rfl, e2 _ _ (e _ _ h), l, hr H2 (e.trans e2) _ fun H3 e3 => hs H3 ((e.trans e2).trans e3) Q (fun H4 e4 => q H4 ((e2.trans e3).trans e4)) E⟩
theorem ev_call0 {sp : Sp} {vs : List V} {E : XK} {tr : TA} (h : EvA tr σ H vs) (hs : SpV sp (vs ++ []) H z) : Ev (tCall sp [] E tr) σ H z := ev_call h hs
theorem ev_in {neg : Bool} (ha : Ev ta σ H x) (hb : Ev tb σ H (.ref p)) (h : SqL K H p xs) (hx : flatV x = true) (hf : xs.all flatV = true) : Ev (tOp (rIn K neg) ta tb) σ H (.bl (if neg then !inV x xs else inV x xs)) := ev_op ha hb (rv_inL h hx hf)
end
/-! ## slices -/
section
variable {K : PySem.W.Frag} {σ : L2.St} {H H' : Hp} {te : TE} {tl th : TO} {m : List Nat} {i j : Int} {xs : List V} {p : Addr}
theorem cutV_to {xs : List V} {i : Int} (h : 0 ≤ i) : cutV xs none (some i) = xs.take i.toNat := by
  obtain ⟨n, rfl⟩ := Int.eq_ofNat_of_zero_le h
  unfold cutV
  rw [HT.sIx_none, show HT.sIx xs.length xs.length (some (n : Int)) = min n xs.length from HT.sIx_nat xs.length xs.length n]
  rw [List.drop_zero, Nat.sub_zero, Int.toNat_natCast]
  rcases Nat.le_total n xs.length with q | q
  · rw [Nat.min_eq_left q]
  · rw [Nat.min_eq_right q, List.take_length, List.take_of_length_le q]
theorem cutV_both {xs : List V} {i j : Int} (h : 0 ≤ i) (h2 : i ≤ j) : cutV xs (some i) (some j) = (xs.drop i.toNat).take (j - i).toNat := by
  obtain ⟨n, rfl⟩ := Int.eq_ofNat_of_zero_le h
  obtain ⟨k, rfl⟩ := Int.eq_ofNat_of_zero_le (Int.le_trans h h2)
  unfold cutV
  rw [show HT.sIx xs.length xs.length (some (k : Int)) = min k xs.length from HT.sIx_nat xs.length xs.length k, show HT.sIx xs.length 0 (some (n : Int)) = min n xs.length from HT.sIx_nat xs.length 0 n]
  have e : ((k : Int) - (n : Int)).toNat = k - n := by omega
  rw [e, Int.toNat_natCast]
  rcases Nat.le_total n xs.length with q | q
  · rw [Nat.min_eq_left q]
    rcases Nat.le_total k xs.length with q2 | q2
    · rw [Nat.min_eq_left q2]
    · rw [Nat.min_eq_right q2, List.take_of_length_le (by simp), List.take_of_length_le (by simp; omega)]
  · rw [Nat.min_eq_right q, List.drop_length, List.drop_eq_nil_of_le q, List.take_nil, List.take_nil]
theorem cutV_from {xs : List V} {i : Int} (h : 0 ≤ i) : cutV xs (some i) none = xs.drop i.toNat := by
  obtain ⟨n, rfl⟩ := Int.eq_ofNat_of_zero_le h
  unfold cutV
  rw [HT.sIx_none, show HT.sIx xs.length 0 (some (n : Int)) = min n xs.length from HT.sIx_nat xs.length 0 n, Int.toNat_natCast]
  rcases Nat.le_total n xs.length with q | q
  · rw [Nat.min_eq_left q, List.take_of_length_le (by simp)]
  · rw [Nat.min_eq_right q, List.drop_length, List.drop_eq_nil_of_le q, List.take_nil]
theorem el_slTo (h : Ev te σ H (.ref p)) (h2 : EvO th σ H (some i)) (hs : SqL K H p xs) (hi : 0 ≤ i) : EvL (tSl (rSlL K) te tNoPart th) σ H (xs.take i.toNat) := by
  rw [← cutV_to hi]
  exact el_sl h eo_none h2 hs
theorem el_slBoth (h : Ev te σ H (.ref p)) (h1 : EvO tl σ H (some i)) (h2 : EvO th σ H (some j)) (hs : SqL K H p xs) (hi : 0 ≤ i) (hj : i ≤ j) : EvL (tSl (rSlL K) te tl th) σ H ((xs.drop i.toNat).take (j - i).toNat) := by
  rw [← cutV_both hi hj]
  exact el_sl h h1 h2 hs
theorem el_slFrom (h : Ev te σ H (.ref p)) (h1 : EvO tl σ H (some i)) (hs : SqL K H p xs) (hi : 0 ≤ i) : EvL (tSl (rSlL K) te tl tNoPart) σ H (xs.drop i.toNat) := by
  rw [← cutV_from hi]
  exact el_sl h h1 eo_none hs
theorem ev_slTo (h : Ev te σ H (.str (S m))) (h2 : EvO th σ H (some i)) (hi : 0 ≤ i) (hm : m.length ≤ 100000) : Ev (tSl C8.rSlX te tNoPart th) σ H (.str (S (m.take i.toNat))) := fun H1 e Q q =>
  h H1 e _ fun H2 e2 => h2 H2 (e.trans e2) _ fun H3 e3 => ⟨S m, rfl, by rw [S_len]; exact sz_of hm, by rw [slice_to hi]; exact q H3 (e2.trans e3)⟩
theorem ev_slFrom (h : Ev te σ H (.str (S m))) (h2 : EvO tl σ H (some i)) (hi : 0 ≤ i) (hm : m.length ≤ 100000) : Ev (tSl C8.rSlX te tl tNoPart) σ H (.str (S (m.drop i.toNat))) := fun H1 e Q q =>
  h H1 e _ fun H2 e2 => h2 H2 (e.trans e2) _ fun H3 e3 => ⟨S m, rfl, by rw [S_len]; exact sz_of hm, by rw [slice_from hi]; exact q H3 (e2.trans e3)⟩
end
end Od

namespace Od
open PySem PySem.Spec PyProof.Rows L2 SX Evl
/-! ## from any heap that knows H on -/
abbrev Go (H : Hp) (p : Hp → Prop) : Prop := ∀ H1, Ex H H1 → p H1
theorem Go.mono {H H' : Hp} {p : Hp → Prop} (h : Go H p) (e : Ex H H') : Go H' p := fun H1 e1 => h H1 (e.trans e1)
theorem Go.here {H : Hp} {p : Hp → Prop} (h : Go H p) : p H := h H (Ex.refl H)
def NewL (xs : List V) (H : Hp) (Q : VK) : Prop := ∀ p, H p = none → Go (upd H p (.lst xs)) (Q (.ref p))
def NewU (xs : List V) (H : Hp) (Q : VK) : Prop := ∀ p, H p = none → Go (upd H p (.tup xs)) (Q (.ref p))
theorem ex_upd {H H2 : Hp} {p : Addr} {o : HO} (e : Ex H H2) (h : H2 p = some o) : Ex (upd H p o) H2 := fun a u ha => by
  by_cases q : a = p
  · subst q
    rw [upd_same] at ha
    rw [h]
    exact ha
  · rw [upd_ne q] at ha
    exact e a u ha
theorem ex_upd2 {H H2 : Hp} {p : Addr} {o : HO} (e : Ex H H2) : Ex (upd H p o) (upd H2 p o) := fun a u ha => by
  by_cases q : a = p
  · subst q
    rw [upd_same] at ha ⊢
    exact ha
  · rw [upd_ne q] at ha ⊢
    exact e a u ha
theorem NewL.mono {xs : List V} {H H' : Hp} {Q : VK} (h : NewL xs H Q) (e : Ex H H') : NewL xs H' Q := fun p hp => (h p (fresh_back e hp)).mono (ex_upd2 e)
theorem NewU.mono {xs : List V} {H H' : Hp} {Q : VK} (h : NewU xs H Q) (e : Ex H H') : NewU xs H' Q := fun p hp => (h p (fresh_back e hp)).mono (ex_upd2 e)
/-- evaluates to some value, in some heap, of which R holds -/
def EvR (te : TE) (σ : L2.St) (H : Hp) (R : V → Hp → Prop) : Prop := ∀ H1, Ex H H1 → ∀ Q : VK, (∀ v H2, Ex H1 H2 → R v H2 → Q v H2) → te σ H1 Q
section
variable {K : PySem.W.Frag} {σ : L2.St} {H H' : Hp} {ta tb tc te tx : TE} {t u : TT} {x y z v w : V} {D : Ends} {tu tw tz : TS} {g : TG} {i j : Nat} {xs ys : List V} {tr : TA} {R : V → Hp → Prop}
theorem EvR.mono (e : Ex H H') (h : EvR te σ H R) : EvR te σ H' R := fun H1 a Q q => h H1 (e.trans a) Q q
theorem go_asg (h : Ev te σ H v) (k : Go H (tz D (σ.set i (some v)))) : Go H (tSeq (tAsg te (gName i)) tz D σ) := fun H1 e => h H1 e _ fun H2 e2 => k H2 (e.trans e2)
theorem go_asgL (h : EvL te σ H xs) (k : ∀ p, H p = none → Go (upd H p (.lst xs)) (tz D (σ.set i (some (.ref p))))) : Go H (tSeq (tAsg te (gName i)) tz D σ) := fun H1 e => h H1 e _ fun p H2 hp e2 h2 => k p (fresh_back e hp) H2 (ex_upd (e.trans e2) h2)
theorem go_asgU (h : EvU te σ H xs) (k : ∀ p, H p = none → Go (upd H p (.tup xs)) (tz D (σ.set i (some (.ref p))))) : Go H (tSeq (tAsg te (gName i)) tz D σ) := fun H1 e => h H1 e _ fun p H2 hp e2 h2 => k p (fresh_back e hp) H2 (ex_upd (e.trans e2) h2)
theorem go_asgR (h : EvR te σ H R) (k : ∀ v H2, Ex H H2 → R v H2 → Go H2 (tz D (σ.set i (some v)))) : Go H (tSeq (tAsg te (gName i)) tz D σ) := fun H1 e => h H1 e _ fun v H2 e2 r => k v H2 (e.trans e2) r H2 (Ex.refl H2)
theorem go_ret (h : Ev te σ H v) (k : Go H (D.rt v)) : Go H (tSeq (tRet te) tz D σ) := fun H1 e => h H1 e _ fun H2 e2 => k H2 (e.trans e2)
theorem go_retL (h : EvL te σ H xs) (k : NewL xs H D.rt) : Go H (tSeq (tRet te) tz D σ) := fun H1 e => h H1 e _ fun p H2 hp e2 h2 => k p (fresh_back e hp) H2 (ex_upd (e.trans e2) h2)
theorem go_retU (h : EvU te σ H xs) (k : NewU xs H D.rt) : Go H (tSeq (tRet te) tz D σ) := fun H1 e => h H1 e _ fun p H2 hp e2 h2 => k p (fresh_back e hp) H2 (ex_upd (e.trans e2) h2)
theorem go_retR (h : EvR te σ H R) (k : ∀ v H2, Ex H H2 → R v H2 → D.rt v H2) : Go H (tSeq (tRet te) tz D σ) := fun H1 e => h H1 e _ fun v H2 e2 r => k v H2 (e.trans e2) r
theorem go_next (k : Go H (D.nx σ)) : Go H (tNext D σ) := k
theorem go_brk (k : Go H (D.bk σ)) : Go H (tSeq tBreak tz D σ) := k
theorem go_cont (k : Go H (D.ct σ)) : Go H (tSeq tCont tz D σ) := k
theorem go_pass (k : Go H (tz D σ)) : Go H (tSeq tNext tz D σ) := k
theorem go_if {b : Bool} (h : EvT t σ H b) (h1 : b = true → Go H (tu { D with nx := tz D } σ)) (h2 : b = false → Go H (tw { D with nx := tz D } σ)) : Go H (tSeq (tIfS t tu tw) tz D σ) := fun H1 e => h H1 e _ fun H2 e2 => by
  cases b with
  | true => rw [if_pos rfl]; exact h1 rfl H2 (e.trans e2)
  | false => rw [if_neg Bool.false_ne_true]; exact h2 rfl H2 (e.trans e2)
/-- an if without else -/
theorem go_when {b : Bool} (h : EvT t σ H b) (h1 : b = true → Go H (tu { D with nx := tz D } σ)) (h2 : b = false → Go H (tz D σ)) : Go H (tSeq (tIfS t tu tNext) tz D σ) := go_if h h1 h2
theorem go_drop (h : Ev te σ H v) (k : Go H (tz D σ)) : Go H (tSeq (tDrop te) tz D σ) := fun H1 e => h H1 e _ fun H2 e2 => k H2 (e.trans e2)
theorem go_aug {f : Int → Int → Int} {a b : Int} (hx : σ[i]? = some (some (.int a))) (h : Ev te σ H (.int b)) (k : Go H (tz D (σ.set i (some (.int (f a b)))))) : Go H (tSeq (tAug i te (ipI f)) tz D σ) := fun H1 e =>
  ⟨.int a, hx, h H1 e _ fun H2 e2 => ⟨a, b, rfl, rfl, k H2 (e.trans e2)⟩⟩
theorem go_augM {a b : Int} (hx : σ[i]? = some (some (.int a))) (h : Ev te σ H (.int b)) (hc : CMul a b) (k : Go H (tz D (σ.set i (some (.int (a * b)))))) : Go H (tSeq (tAug i te (rI CMul fun i j => .int (i * j))) tz D σ) := fun H1 e =>
  ⟨.int a, hx, h H1 e _ fun H2 e2 => ⟨a, b, rfl, rfl, hc, k H2 (e.trans e2)⟩⟩
theorem go_app {l : Addr} (hl : H l = some (.lst xs)) (ha : Ev ta σ H (.ref l)) (h : Ev te σ H v) (hz : xs.length < 100000) (k : Go (upd H l (.lst (xs ++ [v]))) (tz D σ)) :
    Go H (tSeq (tDrop (tBM K "list" rAppend ta (tCons te tNil))) tz D σ) := fun H0 e0 => ha H0 e0 _ fun H1 e1 =>
  ⟨Or.inl ⟨rfl, xs, sq_of (e1 l _ (e0 l _ hl))⟩, h H1 (e0.trans e1) _ fun H2 e2 => ⟨l, xs, v, rfl, rfl, e2 l _ (e1 l _ (e0 l _ hl)), sz_lt hz, k _ (ex_upd2 ((e0.trans e1).trans e2))⟩⟩
theorem go_setL {l : Addr} {n : Nat} (hl : H l = some (.lst xs)) (h : Ev te σ H v) (ho : Ev ta σ H (.ref l)) (hi : Ev tb σ H (.int (n : Int))) (hn : n < xs.length) (k : Go (upd H l (.lst (xs.set n v))) (tz D σ)) :
    Go H (tSeq (tAsg te (gSub ta tb rSetL)) tz D σ) := fun H0 e0 => h H0 e0 _ fun H1 e1 => ho H1 (e0.trans e1) _ fun H2 e2 => hi H2 ((e0.trans e1).trans e2) _ fun H3 e3 =>
  ⟨l, xs, (n : Int), n, rfl, rfl, (((e0.trans e1).trans e2).trans e3) l _ hl, ixN_nat hn, k _ (ex_upd2 (((e0.trans e1).trans e2).trans e3))⟩
theorem go_par (h : EvA tr σ H [v, w]) (k : Go H (tz D ((σ.set i (some v)).set j (some w)))) : Go H (tSeq (tPar i j tr) tz D σ) := fun H1 e => h H1 e _ fun H2 e2 => ⟨v, w, rfl, k H2 (e.trans e2)⟩
/-- both sides new lists -/
theorem go_parLL (h1 : EvL ta σ H xs) (h2 : EvL tb σ H ys) (k : ∀ p q, H p = none → H q = none → p ≠ q → Go (upd (upd H p (.lst xs)) q (.lst ys)) (tz D ((σ.set i (some (.ref p))).set j (some (.ref q))))) :
    Go H (tSeq (tPar i j (tCons ta (tCons tb tNil))) tz D σ) := fun H1 e => h1 H1 e _ fun p H2 hp e2 hp2 => h2 H2 (e.trans e2) _ fun q H3 hq e3 hq3 => ⟨.ref p, .ref q, rfl,
      k p q (fresh_back e hp) (fresh_back (e.trans e2) hq) (ne_of_none hp2 hq) H3 (ex_upd (ex_upd ((e.trans e2).trans e3) (e3 p _ hp2)) hq3)⟩
theorem go_unpack2 (h : EvR te σ H R) (k : ∀ v H2, Ex H H2 → R v H2 → ∃ p x y, v = .ref p ∧ SqT K H2 p [x, y] ∧ Go H2 (tz D ((σ.set i (some x)).set j (some y)))) :
    Go H (tSeq (tAsg te (gTup K 2 (gCons (gName i) (gCons (gName j) gNil)))) tz D σ) := fun H1 e => h H1 e _ fun v H2 e2 r => by
  obtain ⟨p, x, y, rfl, hp, k⟩ := k v H2 (e.trans e2) r
  exact ⟨p, [x, y], rfl, hp, rfl, x, [y], rfl, y, [], rfl, rfl, k H2 (Ex.refl H2)⟩
/-! ### loops -/
def Up (P : L2.St → Hp → Prop) : L2.St → Hp → Prop := fun σ H' => ∃ Hk, P σ Hk ∧ Ex Hk H'
theorem up_mk {P : L2.St → Hp → Prop} (h : P σ H) : Go H (Up P σ) := fun H1 e => ⟨H, h, e⟩
/-- a turn's end -/
theorem go_up {P : L2.St → Hp → Prop} (e : D.nx = Up P) (h : P σ H) : Go H (tNext D σ) := fun H1 e1 => by
  show D.nx σ H1
  rw [e]
  exact ⟨H, h, e1⟩
theorem go_upc {P : L2.St → Hp → Prop} (e : D.ct = Up P) (h : P σ H) : Go H (tSeq tCont tz D σ) := fun H1 e1 => by
  show D.ct σ H1
  rw [e]
  exact ⟨H, h, e1⟩
theorem go_forL {a : Addr} {tl : TE} (P : Nat → L2.St → Hp → Prop) (h : Ev tl σ H (.ref a)) (hx : SqL K H a xs) (h0 : P 0 σ H) (hl : ∀ i σ' Hk, P i σ' Hk → SqL K Hk a xs)
    (hs : ∀ i x σ' Hk, xs[i]? = some x → P i σ' Hk → Go Hk (tu { D with nx := Up (P (i + 1)), ct := Up (P (i + 1)), bk := tz D } (σ'.set j (some x)))) (hd : ∀ σ' Hk, P xs.length σ' Hk → Go Hk (tz D σ')) :
    Go H (tSeq (tFor (iList K tl) (gName j) tu) tz D σ) := fun H0 e0 => h H0 e0 _ fun H1 e => ⟨a, rfl, ⟨xs, ex_l (e0.trans e) hx⟩,
      for_list (D := { D with nx := tz D }) (fun i => Up (P i)) ⟨H, h0, e0.trans e⟩ (fun i σ' H' _ ⟨Hk, p, ek⟩ => ex_l ek (hl i σ' Hk p)) (fun i x σ' H' hi ⟨Hk, p, ek⟩ => hs i x σ' Hk hi p H' ek) (fun σ' H' ⟨Hk, p, ek⟩ => hd σ' Hk p H' ek)⟩
theorem go_forR {n : Nat} {tl : TA} (P : Nat → L2.St → Hp → Prop) (h : EvA tl σ H [.int (n : Nat)]) (hn : n ≤ 100000) (h0 : P 0 σ H)
    (hs : ∀ i σ' Hk, i < n → P i σ' Hk → Go Hk (tu { D with nx := Up (P (i + 1)), ct := Up (P (i + 1)), bk := tz D } (σ'.set j (some (.int (i : Nat)))))) (hd : ∀ σ' Hk, P n σ' Hk → Go Hk (tz D σ')) :
    Go H (tSeq (tFor (iRng1 tl) (gName j) tu) tz D σ) := fun H0 e0 => h H0 e0 _ fun H1 e => ⟨(n : Int), rfl, by omega, by omega,
      for_range (D := { D with nx := tz D }) (lo := 0) (n := (n : Int).toNat) (fun i => Up (P i)) ⟨H, h0, e0.trans e⟩ (fun i σ' H' hi ⟨Hk, p, ek⟩ => by
        have e0 : (0 : Int) + (i : Int) = (i : Int) := Int.zero_add _
        show tu { D with nx := Up (P (i + 1)), ct := Up (P (i + 1)), bk := tz D } (σ'.set j (some (.int ((0 : Int) + (i : Int))))) H'
        rw [e0]
        exact hs i σ' Hk (by omega) p H' ek) (fun σ' H' ⟨Hk, p, ek⟩ => hd σ' Hk (by rwa [Int.toNat_natCast] at p) H' ek)⟩
/-- over a tuple that was just written -/
theorem go_forU {tl : TE} (P : Addr → Nat → L2.St → Hp → Prop) (h : EvU tl σ H xs) (h0 : ∀ p, H p = none → P p 0 σ (upd H p (.tup xs))) (hl : ∀ p i σ' Hk, P p i σ' Hk → Hk p = some (.tup xs))
    (hs : ∀ p i x σ' Hk, xs[i]? = some x → P p i σ' Hk → Go Hk (tu { D with nx := Up (P p (i + 1)), ct := Up (P p (i + 1)), bk := tz D } (σ'.set j (some x)))) (hd : ∀ p σ' Hk, P p xs.length σ' Hk → Go Hk (tz D σ')) :
    Go H (tSeq (tFor (iTup K tl) (gName j) tu) tz D σ) := fun H0 e0 => h H0 e0 _ fun p H1 hp e hp1 => ⟨p, rfl, ⟨xs, st_of hp1⟩,
      for_tup (D := { D with nx := tz D }) (fun i => Up (P p i)) ⟨_, h0 p (fresh_back e0 hp), ex_upd (e0.trans e) hp1⟩ (fun i σ' H' _ ⟨Hk, q, ek⟩ => ex_t ek (st_of (hl p i σ' Hk q))) (fun i x σ' H' hi ⟨Hk, q, ek⟩ => hs p i x σ' Hk hi q H' ek) (fun σ' H' ⟨Hk, q, ek⟩ => hd p σ' Hk q H' ek)⟩
/-- for i, s in enumerate(text) -/
theorem go_forES {m : List Nat} {tl : TA} {j1 j2 : Nat} (P : Nat → L2.St → Hp → Prop) (h : EvA tl σ H [.str (S m)]) (h0 : P 0 σ H)
    (hs : ∀ i σ' Hk, i < m.length → P i σ' Hk → Go Hk (tu { D with nx := Up (P (i + 1)), ct := Up (P (i + 1)), bk := tz D } ((σ'.set j1 (some (.int (i : Nat)))).set j2 (some (.str (S [m.getD i 0])))))) (hd : ∀ σ' Hk, P m.length σ' Hk → Go Hk (tz D σ')) :
    Go H (tSeq (tFor (iEnumS tl) (gTup K 2 (gCons (gName j1) (gCons (gName j2) gNil))) tu) tz D σ) := fun H0 e0 => h H0 e0 _ fun H1 e => ⟨m, rfl,
      for_it (D := { D with nx := tz D }) walk_enumE (fun i => Up (P i)) ⟨H, h0, e0.trans e⟩ (fun _ _ _ _ _ => True.intro) (fun i x σ' H' H'' hi ⟨Hk, p, ek⟩ ⟨T, ev, hT, eH⟩ => by
        subst ev eH
        exact ⟨T, _, rfl, st_of upd_same, rfl, _, _, rfl, _, _, rfl, rfl, hs i σ' Hk hi p _ (ek.trans (Ex.new hT))⟩) (fun σ' H' ⟨Hk, p, ek⟩ => hd σ' Hk p H' ek)⟩
/-- while: P by a number that falls -/
theorem go_while {tt : TT} (P : Nat → L2.St → Hp → Prop) (m0 : Nat) (h0 : P m0 σ H)
    (hs : ∀ m σ' Hk, P m σ' Hk → ∃ b, EvT tt σ' Hk b ∧ (b = true → Go Hk (tu { D with nx := Up (fun σ2 H2 => ∃ m', m' < m ∧ P m' σ2 H2), ct := Up (fun σ2 H2 => ∃ m', m' < m ∧ P m' σ2 H2), bk := tz D } σ')) ∧ (b = false → Go Hk (tz D σ'))) :
    Go H (tSeq (tWhile tt tu) tz D σ) := fun H0 e0 => ⟨fun m => Up (P m), ⟨m0, H, h0, e0⟩, fun m σ' H' ⟨Hk, p, ek⟩ => by
    obtain ⟨b, hb, h1, h2⟩ := hs m σ' Hk p
    refine hb H' ek _ fun H1 e => ?_
    cases b with
    | true =>
      rw [if_pos rfl]
      exact ⟨_, fun σ2 H2 ⟨Hk2, ⟨m', l, q⟩, e2⟩ => ⟨m', l, Hk2, q, e2⟩, h1 rfl H1 (ek.trans e)⟩
    | false =>
      rw [if_neg Bool.false_ne_true]
      exact h2 rfl H1 (ek.trans e)⟩
/-! ### comprehensions -/
theorem given_at (n : Nat) {f f' : Nat → Bool} {v v' : Nat → V} (hf : ∀ i, i < n → f i = f' i) (hv : ∀ i, i < n → f i = true → v i = v' i) : given n f v = given n f' v' := by
  unfold given
  have e : (List.range n).filter f = (List.range n).filter f' := List.filter_congr fun i hi => hf i (List.mem_range.mp hi)
  rw [e]
  refine List.map_congr_left fun i hi => ?_
  obtain ⟨h1, h2⟩ := List.mem_filter.mp hi
  have h3 := List.mem_range.mp h1
  exact hv i h3 (by rw [hf i h3]; exact h2)
theorem given_list {α : Type} (d : α) : ∀ (l : List α) (p : α → Bool) (g : α → V), given l.length (fun i => p (l.getD i d)) (fun i => g (l.getD i d)) = (l.filter p).map g := by
  intro l p g
  unfold given
  have e : l = (List.range l.length).map fun i => l.getD i d := by
    refine List.ext_getElem (by simp) fun i h1 h2 => ?_
    simp [List.getD_eq_getElem?_getD, List.getElem?_eq_getElem h1]
  conv => rhs; rw [e, List.filter_map, List.map_map]
  rfl
/-- [e for x in xs if t], the items told by inj, the kept ones by p, the new ones by g -/
theorem el_compL {α : Type} (l : List α) (inj : α → V) (p : α → Bool) (g : α → V) {a : Addr} {tl : TE} {vs : List Nat} (d : α) (h : Ev tl σ H (.ref a)) (hx : SqL K H a (l.map inj)) (hz : l.length ≤ 40000)
    (hw : ∀ x, wipe ((wipe σ vs).set j (some x)) vs = wipe σ vs) (ht : ∀ x ∈ l, EvT t ((wipe σ vs).set j (some (inj x))) H (p x)) (he : ∀ x ∈ l, p x = true → Ev te ((wipe σ vs).set j (some (inj x))) H (g x)) :
    EvL (tLc (iList K tl) (gName j) t te vs) σ H ((l.filter p).map g) := by
  rw [← given_list d l p g]
  have key : ∀ (i : Nat) (x : V), (l.map inj)[i]? = some x → l.getD i d ∈ l ∧ x = inj (l.getD i d) := fun i x hi => by
    rw [List.getElem?_map] at hi
    cases q : l[i]? with
    | none => rw [q] at hi; cases hi
    | some y =>
      rw [q] at hi
      have e : l.getD i d = y := by simp [List.getD_eq_getElem?_getD, q]
      rw [e]
      exact ⟨List.mem_of_getElem? q, (Option.some.inj hi).symm⟩
  have := el_lcL (K := K) (t := t) (te := te) (vs := vs) (j := j) (fun i => p (l.getD i d)) (fun i => g (l.getD i d)) h hx (by rw [List.length_map]; exact hz) hw
    (fun i x H1 e1 hi => by
      obtain ⟨m, rfl⟩ := key i x hi
      exact (ht _ m).mono e1)
    (fun i x H1 e1 hi hf => by
      obtain ⟨m, rfl⟩ := key i x hi
      exact (he _ m hf).mono e1)
  rw [List.length_map] at this
  exact this
theorem et_yes : EvT tYes σ H true := fun H1 _ _ q => q H1 (Ex.refl H1)
theorem el_mapL {α : Type} (l : List α) (inj : α → V) (g : α → V) {a : Addr} {tl : TE} {vs : List Nat} (d : α) (h : Ev tl σ H (.ref a)) (hx : SqL K H a (l.map inj)) (hz : l.length ≤ 40000)
    (hw : ∀ x, wipe ((wipe σ vs).set j (some x)) vs = wipe σ vs) (he : ∀ x ∈ l, Ev te ((wipe σ vs).set j (some (inj x))) H (g x)) : EvL (tLc (iList K tl) (gName j) tYes te vs) σ H (l.map g) := by
  have e : l.filter (fun _ => true) = l := List.filter_eq_self.mpr fun _ _ => rfl
  have q := el_compL l inj (fun _ => true) g d h hx hz hw (fun _ _ => et_yes) (fun x hx _ => he x hx)
  rw [e] at q
  exact q
/-- over a list just made -/
theorem el_mapN {α : Type} (l : List α) (inj : α → V) (g : α → V) {tl : TE} {vs : List Nat} (d : α) (h : EvL tl σ H (l.map inj)) (hz : l.length ≤ 40000)
    (hw : ∀ x, wipe ((wipe σ vs).set j (some x)) vs = wipe σ vs) (he : ∀ x ∈ l, Ev te ((wipe σ vs).set j (some (inj x))) H (g x)) : EvL (tLc (iList K tl) (gName j) tYes te vs) σ H (l.map g) := fun H0 e0 Q q =>
  h H0 e0 _ fun a H1 ha e1 hx => el_mapL (K := K) (H := H1) (tl := tC (.ref a)) l inj g d ev_c (sq_of hx) hz hw (fun x hx => (he x hx).mono (e0.trans e1)) H1 (Ex.refl H1) Q (fun p H2 hp e2 h2 => q p H2 (fresh_back e1 hp) (e1.trans e2) h2)
/-- over range(n) -/
theorem el_compR {n : Nat} {tl : TA} (p : Nat → Bool) (g : Nat → V) {vs : List Nat} (h : EvA tl σ H [.int (n : Nat)]) (hn : n ≤ 40000)
    (hw : ∀ x, wipe ((wipe σ vs).set j (some x)) vs = wipe σ vs) (ht : ∀ i, i < n → EvT t ((wipe σ vs).set j (some (.int (i : Nat)))) H (p i)) (he : ∀ i, i < n → p i = true → Ev te ((wipe σ vs).set j (some (.int (i : Nat)))) H (g i)) :
    EvL (tLc (iRng1 tl) (gName j) t te vs) σ H (((List.range n).filter p).map g) := by
  have q := el_lcR1 (t := t) (te := te) (vs := vs) (j := j) (n := (n : Int)) p g h (by omega) hw (fun i H1 e1 hi => (ht i (by omega)).mono e1) (fun i H1 e1 hi hf => (he i (by omega) hf).mono e1)
  rw [Int.toNat_natCast] at q
  exact q
theorem el_mapR {n : Nat} {tl : TA} (g : Nat → V) {vs : List Nat} (h : EvA tl σ H [.int (n : Nat)]) (hn : n ≤ 40000)
    (hw : ∀ x, wipe ((wipe σ vs).set j (some x)) vs = wipe σ vs) (he : ∀ i, i < n → Ev te ((wipe σ vs).set j (some (.int (i : Nat)))) H (g i)) : EvL (tLc (iRng1 tl) (gName j) tYes te vs) σ H ((List.range n).map g) := by
  have e : (List.range n).filter (fun _ => true) = List.range n := List.filter_eq_self.mpr fun _ _ => rfl
  have q := el_compR (fun _ => true) g h hn hw (fun _ _ => et_yes) (fun i hi _ => he i hi)
  rw [e] at q
  exact q
/-- for i, s in enumerate(text) -/
theorem el_compE {m : List Nat} {tl : TA} {j1 j2 : Nat} (p : Nat → Bool) (g : Nat → V) {vs : List Nat} (h : EvA tl σ H [.str (S m)]) (hm : m.length ≤ 40000)
    (hw : ∀ x y, wipe (((wipe σ vs).set j1 (some x)).set j2 (some y)) vs = wipe σ vs)
    (ht : ∀ i, i < m.length → EvT t (((wipe σ vs).set j1 (some (.int (i : Nat)))).set j2 (some (.str (S [m.getD i 0])))) H (p i))
    (he : ∀ i, i < m.length → p i = true → Ev te (((wipe σ vs).set j1 (some (.int (i : Nat)))).set j2 (some (.str (S [m.getD i 0])))) H (g i)) :
    EvL (tLc (iEnumS tl) (gTup K 2 (gCons (gName j1) (gCons (gName j2) gNil))) t te vs) σ H (((List.range m.length).filter p).map g) := fun H0 e0 Q q => h H0 e0 _ fun H1 e => ⟨m, rfl, fun Dl hD =>
  lc_it walk_enumE (Cw H1 p g Dl) ⟨hD, Ex.new hD, upd_same⟩ (fun _ _ _ _ => True.intro) (fun i x H' H'' hi pc ⟨T, ev, hT, eH⟩ => by
    subst ev eH
    have pc2 : Cw H1 p g Dl i (upd H' T (.tup [.int (i : Nat), .str (S [m.getD i 0])])) := ⟨pc.1, pc.2.1.trans (Ex.new hT), Ex.new hT _ _ pc.2.2⟩
    exact ⟨T, _, rfl, st_of upd_same, rfl, _, _, rfl, _, _, rfl, rfl, hw _ _, cw_turn pc2 (by omega) ((ht i hi).mono (e0.trans e)) (fun hf => (he i hi hf).mono (e0.trans e))⟩)
    (fun H' pc => q Dl H' (fresh_back e pc.1) (e.trans pc.2.1) pc.2.2)⟩
end
/-! ## promises -/
def S1 (R : V → Hp → VK → Prop) : Sp := fun vs H Q _ => ∃ a, vs = [a] ∧ R a H Q
def S2 (R : V → V → Hp → VK → Prop) : Sp := fun vs H Q _ => ∃ a b, vs = [a, b] ∧ R a b H Q
def S3 (R : V → V → V → Hp → VK → Prop) : Sp := fun vs H Q _ => ∃ a b c, vs = [a, b, c] ∧ R a b c H Q
def S4 (R : V → V → V → V → Hp → VK → Prop) : Sp := fun vs H Q _ => ∃ a b c d, vs = [a, b, c, d] ∧ R a b c d H Q
theorem len1 {R : V → Hp → VK → Prop} (vs : List V) (H : Hp) (Q : VK) (E : XK) (h : S1 R vs H Q E) : vs.length = 1 := by
  obtain ⟨a, rfl, _⟩ := h
  rfl
theorem len2 {R : V → V → Hp → VK → Prop} (vs : List V) (H : Hp) (Q : VK) (E : XK) (h : S2 R vs H Q E) : vs.length = 2 := by
  obtain ⟨a, b, rfl, _⟩ := h
  rfl
theorem len3 {R : V → V → V → Hp → VK → Prop} (vs : List V) (H : Hp) (Q : VK) (E : XK) (h : S3 R vs H Q E) : vs.length = 3 := by
  obtain ⟨a, b, c, rfl, _⟩ := h
  rfl
theorem len4 {R : V → V → V → V → Hp → VK → Prop} (vs : List V) (H : Hp) (Q : VK) (E : XK) (h : S4 R vs H Q E) : vs.length = 4 := by
  obtain ⟨a, b, c, d, rfl, _⟩ := h
  rfl
theorem sv1 {R : V → Hp → VK → Prop} {a z : V} {H : Hp} (h : ∀ H1, Ex H H1 → ∀ Q, Go H1 (Q z) → R a H1 Q) : SpV (S1 R) [a] H z := fun H1 e Q q _ => ⟨a, rfl, h H1 e Q q⟩
theorem sv2 {R : V → V → Hp → VK → Prop} {a b z : V} {H : Hp} (h : ∀ H1, Ex H H1 → ∀ Q, Go H1 (Q z) → R a b H1 Q) : SpV (S2 R) [a, b] H z := fun H1 e Q q _ => ⟨a, b, rfl, h H1 e Q q⟩
theorem sv3 {R : V → V → V → Hp → VK → Prop} {a b c z : V} {H : Hp} (h : ∀ H1, Ex H H1 → ∀ Q, Go H1 (Q z) → R a b c H1 Q) : SpV (S3 R) [a, b, c] H z := fun H1 e Q q _ => ⟨a, b, c, rfl, h H1 e Q q⟩
theorem sv4 {R : V → V → V → V → Hp → VK → Prop} {a b c d z : V} {H : Hp} (h : ∀ H1, Ex H H1 → ∀ Q, Go H1 (Q z) → R a b c d H1 Q) : SpV (S4 R) [a, b, c, d] H z := fun H1 e Q q _ => ⟨a, b, c, d, rfl, h H1 e Q q⟩
/-- a promise that hands back a new list -/
theorem newL_spl {xs : List V} {H1 : Hp} {Q : VK} (q : ∀ p H2, H1 p = none → Ex H1 H2 → H2 p = some (.lst xs) → Q (.ref p) H2) : NewL xs H1 Q := fun p hp H2 e => q p H2 hp ((Ex.new hp).trans e) (e p _ upd_same)
theorem newU_spl {xs : List V} {H1 : Hp} {Q : VK} (q : ∀ p H2, H1 p = none → Ex H1 H2 → H2 p = some (.tup xs) → Q (.ref p) H2) : NewU xs H1 Q := fun p hp H2 e => q p H2 hp ((Ex.new hp).trans e) (e p _ upd_same)
/-- a def of the module that may be called by its name -/
structure Cal (CX : CXT) (P : Program) (w : World) (K : PySem.W.Frag) (mg : Str → Option Value) (base : Heap) (k : Nat) (x : Str) (sp : Sp) : Prop where
  ex : ∃ (f : Addr) (fd : FuncData) (ps : List Str), FnOk P w K mg base CX k f fd ps sp ∧ mg x = some (.ref f) ∧ PySem.W.keepIn K (.ref f) = true ∧ Binds K fd ps []
section
variable {P : Program} {w : World} {K : PySem.W.Frag} {mg : Str → Option Value} {base : Heap}
theorem cal_mk {x : Str} {st : Stmt} {f : Addr} {N ps : List Str} {k : Nat} {sp : Sp} (F : ∃ fd, FunD K x x (defArgs st) (defBody st) (defScope st) [] [] f fd) (g : mg x = some (.ref f)) (S : FnScope N ps (defScope st))
    (b : ∀ (kV doc pm : Value) (an : Option Addr) (cdv ct : Value) (us : List Value), us.length = ps.length → bindArgs (PySem.W.fnOf x x (defArgs st) (defBody st) (defScope st) .none kV doc pm an cdv ct) ⟨us, []⟩ = pure (ps.zip us))
    (len : ∀ vs H Q E, sp vs H Q E → vs.length = ps.length)
    (body : ∀ (cdv : Value) (A : Around) (outer : List Env) (s : Shared) (H : Hp) (vs : List V) (Q : VK) (E : XK), Room k (A.deeper (envOfC x (defScope st) s.heap.objs.size f cdv)) → sp vs H Q E →
      ∃ t, PSs (cxOf CX0 P w K mg base N x (defScope st) f cdv A outer s H E).nox (defBody st) t ∧ Go H (t { nx := fun _ H' => Q .non H', rt := Q } (start N vs))) : Cal CX0 P w K mg base (k + 1) x sp := by
  obtain ⟨fd, F⟩ := F
  refine ⟨f, fd, ps, F.ok S len (fun cdv A outer s H vs Q E hr hsp => ?_), g, F.kp, F.bindsN b⟩
  obtain ⟨t, h, q⟩ := body cdv A outer s H vs Q E hr hsp
  exact ⟨t, h.nox, q.here⟩
end
section
variable {X : Cx} {k j : Nat} {C : Addr} {x m : Str} {sp : Sp} {p pos apos : Pos} {e o : Expr} {es : List Expr} {ta : TE} {t : TA}
theorem pe_k (c : Cal CX0 X.prog X.w X.K X.mg X.base k x sp) (hr : Room j X.A) (hk : k ≤ j) (hg : Gl X x) (ha : PA X (e :: es) t)
    (hdb : (x == ("__debug__" : Str)) = false := by decide) (he : starEach (e :: es) X.env = (false, eval e X.env) :: starEach es X.env := by rfl) (hpl : (backTo pos (starEach es X.env)).any (·.1) = false := by rfl) :
    PE X (.Call (.Name x p) (e :: es) [] pos) (tCall sp [] E0 t) := by
  obtain ⟨f, fd, ps, F, hm, kp, b⟩ := c.ex
  exact pe_call F (hr.mono hk) hg hm kp b .nil pass0 ha hdb he hpl
end
end Od

namespace Od
open PySem PySem.Spec PyProof.Rows L2 SX Evl
open PySem.Builtin PySem.Builtin.Str
/-! ## types of values -/
theorem tyx_mono {K : PySem.W.Frag} {H H1 : Hp} (e : Ex H H1) {x : V} {t : Value} (h : TyX K H x t) : TyX K H1 x t := by
  cases h with
  | base b =>
    cases b with
    | non => exact .base .non
    | bl x => exact .base (.bl x)
    | int x => exact .base (.int x)
    | str x => exact .base (.str x)
    | flt x => exact .base (.flt x)
    | lst q => exact .base (.lst (e _ _ q))
    | frz q => exact .base (.frz (e _ _ q))
    | tup q => exact .base (.tup (e _ _ q))
    | dK q => exact .base (.dK (e _ _ q))
    | dT q => exact .base (.dT (e _ _ q))
    | ins q c a n t m => exact .base (.ins (e _ _ q) c a n t m)
  | byt b => exact .byt b
  | set q => exact .set (e _ _ q)
  | kList q c => exact .kList q c
  | kTuple q c => exact .kTuple q c
  | kDict q c => exact .kDict q c
  | fTuple q => exact .fTuple (e _ _ q)
  | fDict q => exact .fDict (e _ _ q)
theorem tyx_sql {K : PySem.W.Frag} {H : Hp} {a : Addr} {xs : List V} (h : SqL K H a xs) : TyX K H (.ref a) (.type "list") := by
  rcases h with (h | ⟨o, h⟩) | ⟨o, its, n, q, c, _⟩
  · exact .base (.lst h)
  · exact .base (.frz h)
  · exact .kList q c
theorem tyx_sqt {K : PySem.W.Frag} {H : Hp} {a : Addr} {xs : List V} (h : SqT K H a xs) : TyX K H (.ref a) (.type "tuple") := by
  rcases h with (h | ⟨o, h⟩) | ⟨o, its, n, q, c, _⟩
  · exact .base (.tup h)
  · exact .fTuple h
  · exact .kTuple q c
section
variable {K : PySem.W.Frag} {σ : L2.St} {H H' : Hp} {ta tb tc te tx : TE} {t u : TT} {x : V} {j : Nat}
theorem ev_isT {c : V} {tt uu : Value} {bb : Bool} (ha : Ev ta σ H x) (hb : Ev tb σ H c) (hc : ClsV c uu) (ht : TyX K H x tt) (hk : PySem.W.kitOne K tt uu = some bb) : Ev (tCB (rIsi K) (tCons ta (tCons tb tNil))) σ H (.bl bb) :=
  ev_isi ha hb hc (fun H1 e => tyx_mono e ht) hk
/-- [e for s in text] -/
theorem el_mapS {m : List Nat} (g : Nat → V) {tl : TE} {vs : List Nat} (h : Ev tl σ H (.str (S m))) (hz : m.length ≤ 40000)
    (hw : ∀ x, wipe ((wipe σ vs).set j (some x)) vs = wipe σ vs) (he : ∀ c ∈ m, Ev te ((wipe σ vs).set j (some (.str (S [c])))) H (g c)) : EvL (tLc (iStr tl) (gName j) tYes te vs) σ H (m.map g) := fun H0 e0 Q q =>
  h H0 e0 _ fun H1 e => ⟨S m, rfl, fun Dl hD => by
    have e2 : m.map g = given m.length (fun _ => true) fun i => g (m.getD i 0) := by
      rw [given_list 0 m (fun _ => true) g, List.filter_eq_self.mpr fun _ _ => rfl]
    have hs : (S m).cps.size = m.length := S_len m
    have W := walk_str (z := S m)
    rw [hs] at W
    refine lc_it W (Cw H1 (fun _ => true) (fun i => g (m.getD i 0)) Dl) ⟨hD, Ex.new hD, upd_same⟩ (fun _ _ _ _ => True.intro) (fun i x H' H'' hi pc ⟨eH, c, hc, ev⟩ => ?_) (fun H' pc => q Dl H' (fresh_back e pc.1) (e.trans pc.2.1) (by rw [e2]; exact pc.2.2))
    subst ev eH
    have hc2 : m[i]? = some c := by
      have z : (S m).cps[i]? = some c := hc
      simpa using z
    have ec : m.getD i 0 = c := by simp [List.getD_eq_getElem?_getD, hc2]
    refine ⟨hw _, cw_turn pc (by omega) et_yes fun _ => ?_⟩
    rw [ec]
    exact (he c (List.mem_of_getElem? hc2)).mono (e0.trans e)⟩
end
/-! ## join of texts -/
def rJoinT (K : PySem.W.Frag) : V → List V → Hp → VK → Prop := fun x xs H Q => ∃ (a : List Nat) (p : Addr) (ys : List (List Nat)), x = .str (S a) ∧ xs = [.ref p] ∧ SqL K H p (ys.map fun y => .str (S y)) ∧
  (ys.map (·.length)).sum + ys.length * a.length ≤ 100000 ∧ Q (.str (S (TL.joinL a ys))) H
section
variable {X : Cx}
theorem mt_joinT : MtR X "str.join" (rJoinT X.K) := fun pins s σ H x xs v us Q I rx rxs h => by
  obtain ⟨a, p, ys, rfl, rfl, hp, hl, q⟩ := h
  refine mt_join pins s σ H _ _ v us Q I rx rxs ⟨S a, p, ys.map S, rfl, rfl, .inl (by rw [List.map_map]; exact hp), ?_, by rw [join_S]; exact q⟩
  rw [lens, List.length_map, S_len]
  omega
end
theorem joinL_nil : ∀ ys : List (List Nat), TL.joinL [] ys = ys.flatten
  | [] => rfl
  | [y] => by
    show y = [y].flatten
    simp
  | y :: z :: r => by
    show y ++ ([] ++ TL.joinL [] (z :: r)) = _
    rw [joinL_nil (z :: r)]
    simp
theorem joinL_one (f : α → Nat) (l : List α) : TL.joinL [] (l.map fun i => [f i]) = l.map f := by
  rw [joinL_nil]
  induction l with
  | nil => rfl
  | cons a r ih => rw [List.map_cons, List.flatten_cons, ih, List.map_cons] <;> rfl
section
variable {K : PySem.W.Frag} {σ : L2.St} {H H' : Hp} {ta tb : TE}
/-- ''.join([one sign for each of ..]), the list just made -/
theorem ev_joinOne {α : Type} (l : List α) (f : α → Nat) (ha : Ev ta σ H (.str (S []))) (hb : EvL tb σ H (l.map fun i => .str (S [f i]))) (hl : l.length ≤ 100000) : Ev (tM1 (rJoinT K) ta tb) σ H (.str (S (l.map f))) := fun H1 e Q q =>
  ha H1 e _ fun H2 e2 => ⟨⟨_, rfl⟩, hb H2 (e.trans e2) _ fun p H3 _ e3 hp => ⟨[], p, l.map fun i => [f i], rfl, rfl, sq_of (by rw [List.map_map]; exact hp), by
    have z : ∀ l : List α, (((l.map fun i => [f i]).map (·.length)).sum) = l.length := fun l => by
      induction l with
      | nil => rfl
      | cons a r ih => simp only [List.map_cons, List.sum_cons, ih, List.length_cons, List.length_nil]; omega
    rw [z]
    simp
    exact hl, by rw [joinL_one]; exact q H3 (e2.trans e3)⟩⟩
theorem ev_join {ys : List (List Nat)} {a : List Nat} (ha : Ev ta σ H (.str (S a))) (hb : EvL tb σ H (ys.map fun y => .str (S y))) (hl : (ys.map (·.length)).sum + ys.length * a.length ≤ 100000) : Ev (tM1 (rJoinT K) ta tb) σ H (.str (S (TL.joinL a ys))) := fun H1 e Q q =>
  ha H1 e _ fun H2 e2 => ⟨⟨_, rfl⟩, hb H2 (e.trans e2) _ fun p H3 _ e3 hp => ⟨a, p, ys, rfl, rfl, sq_of hp, hl, q H3 (e2.trans e3)⟩⟩
end
end Od
namespace Od
open PySem PySem.Spec PyProof.Rows L2 SX Evl
/-! ## rules whose reading names the written part apart from the context (for what stands within a comprehension) -/
section
variable {X : Cx} {e : Expr} {f : Str} {ta : TE} {pos : Pos}
theorem op_inK (K : PySem.W.Frag) (h : X.K = K := by rfl) : OpR X (compareOp .In) (rIn K false) := h ▸ op_in_seq
theorem op_notInK (K : PySem.W.Frag) (h : X.K = K := by rfl) : OpR X (compareOp .NotIn) (rIn K true) := h ▸ op_notIn_seq
theorem op_eqDK (K : PySem.W.Frag) (hu : X.A.units + 64 < cLine) (h : X.K = K := by rfl) : OpR X (compareOp .Eq) (rEqD K) := h ▸ op_eqD hu
theorem op_neDK (K : PySem.W.Frag) (hu : X.A.units + 64 < cLine) (h : X.K = K := by rfl) : OpR X (compareOp .NotEq) (rNeD K) := h ▸ op_neD hu
theorem call_lenQK (K : PySem.W.Frag) (h : X.K = K := by rfl) : CallR X (.builtin "len") (rLenQ K) := h ▸ call_lenQ
theorem call_isiK2 (K : PySem.W.Frag) (h : X.K = K := by rfl) : CallR X (.builtin "isinstance") (rIsi K) := h ▸ call_isi
theorem cr_allK (K : PySem.W.Frag) (hc : X.calm = true) (h : X.K = K := by rfl) : CallR X (.builtin "all") (rAll K) := h ▸ cr_all hc
theorem cr_anyK (K : PySem.W.Frag) (hc : X.calm = true) (h : X.K = K := by rfl) : CallR X (.builtin "any") (rAny K) := h ▸ cr_any hc
theorem ix_listK (K : PySem.W.Frag) (h : X.K = K := by rfl) : IxR X (rIxL K) := h ▸ ix_list
theorem ix_tupK (K : PySem.W.Frag) (h : X.K = K := by rfl) : IxR X (rIxT K) := h ▸ ix_tup
theorem sl_listK (K : PySem.W.Frag) (h : X.K = K := by rfl) : SlR X (rSlL K) := h ▸ sl_list
theorem pe_fldK (K : PySem.W.Frag) (he : PE X e ta) (hb : attributeBase e f X.env (eval e X.env) = eval e X.env) (h : X.K = K := by rfl) : PE X (.Attribute e f pos) (tFld K ta f) := h ▸ pe_fld he hb
end
end Od
namespace Od
open PySem PySem.Spec PyProof.Rows L2 SX Evl
section
variable {K : PySem.W.Frag} {σ σ2 : L2.St} {H H' : Hp} {ta tb tc te tx : TE} {t u : TT} {x : V} {i j : Nat} {D : Ends} {tu tw tz : TS} {xs ys : List V}
/-- an if without else that leaves known slots, whichever way -/
theorem go_whenS {b : Bool} (h : EvT t σ H b) (σ2 : L2.St) (h1 : b = true → Go H (tz D σ2) → Go H (tu { D with nx := tz D } σ)) (h2 : b = false → σ = σ2) (k : Go H (tz D σ2)) : Go H (tSeq (tIfS t tu tNext) tz D σ) :=
  go_when h (fun e => h1 e k) (fun e => by rw [h2 e]; exact k)
/-- xs * k, xs just written -/
theorem el_rep {k : Int} (ha : EvL ta σ H xs) (hb : Ev tb σ H (.int k)) (h1 : -(2 ^ 63) ≤ k) (h2 : k < 2 ^ 63) (h3 : xs.length * k.toNat ≤ 100000) : EvL (tOp rRep ta tb) σ H (List.replicate k.toNat xs).flatten := fun H1 e Q q =>
  ha H1 e _ fun p H2 _ e2 hp => hb H2 (e.trans e2) _ fun H3 e3 => ⟨p, k, xs, rfl, rfl, e3 p _ hp, h1, h2, sz_of h3, fun l hl => q l _ (fresh_back (e2.trans e3) hl) ((e2.trans e3).trans (Ex.new hl)) upd_same⟩
/-- xs + ys, both tracked | new -/
theorem el_cat {p q : Addr} (ha : Ev ta σ H (.ref p)) (hb : Ev tb σ H (.ref q)) (hp : H p = some (.lst xs)) (hq : H q = some (.lst ys)) (hl : xs.length + ys.length ≤ 100000) : EvL (tOp rCat ta tb) σ H (xs ++ ys) := fun H1 e Q k =>
  ha H1 e _ fun H2 e2 => hb H2 (e.trans e2) _ fun H3 e3 => ⟨p, q, xs, ys, rfl, rfl, ((e.trans e2).trans e3) p _ hp, ((e.trans e2).trans e3) q _ hq, sz_of hl, fun l hl => k l _ (fresh_back (e2.trans e3) hl) ((e2.trans e3).trans (Ex.new hl)) upd_same⟩
theorem el_catN {p : Addr} (ha : Ev ta σ H (.ref p)) (hb : EvL tb σ H ys) (hp : H p = some (.lst xs)) (hl : xs.length + ys.length ≤ 100000) : EvL (tOp rCat ta tb) σ H (xs ++ ys) := fun H1 e Q k =>
  ha H1 e _ fun H2 e2 => hb H2 (e.trans e2) _ fun q H3 _ e3 hq => ⟨p, q, xs, ys, rfl, rfl, ((e.trans e2).trans e3) p _ hp, hq, sz_of hl, fun l hl => k l _ (fresh_back (e2.trans e3) hl) ((e2.trans e3).trans (Ex.new hl)) upd_same⟩
theorem el_catNN (ha : EvL ta σ H xs) (hb : EvL tb σ H ys) (hl : xs.length + ys.length ≤ 100000) : EvL (tOp rCat ta tb) σ H (xs ++ ys) := fun H1 e Q k =>
  ha H1 e _ fun p H2 _ e2 hp => hb H2 (e.trans e2) _ fun q H3 _ e3 hq => ⟨p, q, xs, ys, rfl, rfl, e3 p _ hp, hq, sz_of hl, fun l hl => k l _ (fresh_back (e2.trans e3) hl) ((e2.trans e3).trans (Ex.new hl)) upd_same⟩
theorem el_catNq {q : Addr} (ha : EvL ta σ H xs) (hb : Ev tb σ H (.ref q)) (hq : H q = some (.lst ys)) (hl : xs.length + ys.length ≤ 100000) : EvL (tOp rCat ta tb) σ H (xs ++ ys) := fun H1 e Q k =>
  ha H1 e _ fun p H2 _ e2 hp => hb H2 (e.trans e2) _ fun H3 e3 => ⟨p, q, xs, ys, rfl, rfl, e3 p _ hp, ((e.trans e2).trans e3) q _ hq, sz_of hl, fun l hl => k l _ (fresh_back (e2.trans e3) hl) ((e2.trans e3).trans (Ex.new hl)) upd_same⟩
theorem el_mapE {m : List Nat} {tl : TA} {j1 j2 : Nat} (g : Nat → V) {vs : List Nat} (h : EvA tl σ H [.str (S m)]) (hm : m.length ≤ 40000)
    (hw : ∀ x y, wipe (((wipe σ vs).set j1 (some x)).set j2 (some y)) vs = wipe σ vs)
    (he : ∀ i, i < m.length → Ev te (((wipe σ vs).set j1 (some (.int (i : Nat)))).set j2 (some (.str (S [m.getD i 0])))) H (g i)) :
    EvL (tLc (iEnumS tl) (gTup K 2 (gCons (gName j1) (gCons (gName j2) gNil))) tYes te vs) σ H ((List.range m.length).map g) := by
  have e : (List.range m.length).filter (fun _ => true) = List.range m.length := List.filter_eq_self.mpr fun _ _ => rfl
  have q := el_compE (K := K) (fun _ => true) g h hm hw (fun _ _ => et_yes) (fun i hi _ => he i hi)
  rw [e] at q
  exact q
end
theorem sl1 {R : V → Hp → VK → Prop} {a : V} {xs : List V} {H : Hp} (h : ∀ H1, Ex H H1 → ∀ Q, NewL xs H1 Q → R a H1 Q) : SpL (S1 R) [a] H xs := fun H1 e Q q _ => ⟨a, rfl, h H1 e Q (newL_spl q)⟩
theorem sl2 {R : V → V → Hp → VK → Prop} {a b : V} {xs : List V} {H : Hp} (h : ∀ H1, Ex H H1 → ∀ Q, NewL xs H1 Q → R a b H1 Q) : SpL (S2 R) [a, b] H xs := fun H1 e Q q _ => ⟨a, b, rfl, h H1 e Q (newL_spl q)⟩
theorem sl3 {R : V → V → V → Hp → VK → Prop} {a b c : V} {xs : List V} {H : Hp} (h : ∀ H1, Ex H H1 → ∀ Q, NewL xs H1 Q → R a b c H1 Q) : SpL (S3 R) [a, b, c] H xs := fun H1 e Q q _ => ⟨a, b, c, rfl, h H1 e Q (newL_spl q)⟩
theorem sl4 {R : V → V → V → V → Hp → VK → Prop} {a b c d : V} {xs : List V} {H : Hp} (h : ∀ H1, Ex H H1 → ∀ Q, NewL xs H1 Q → R a b c d H1 Q) : SpL (S4 R) [a, b, c, d] H xs := fun H1 e Q q _ => ⟨a, b, c, d, rfl, h H1 e Q (newL_spl q)⟩
theorem el_call0 {σ : L2.St} {H : Hp} {xs : List V} {sp : Sp} {vs : List V} {E : XK} {tr : TA} (h : EvA tr σ H vs) (hs : SpL sp (vs ++ []) H xs) : EvL (tCall sp [] E tr) σ H xs := el_call h hs
end Od
namespace Od
open PySem PySem.Spec PyProof.Rows L2 SX Evl
section
variable {X : Cx} {pos : Pos}
theorem pg_tupK (K : PySem.W.Frag) (n : Nat) {es : List Expr} {k : Nat} {t : TGs} (hc : X.calm = true) (h : PGs X es t)
    (hn : (assignEach es X.env).length = n := by rfl) (hst : (assignEach es X.env).findIdx? (·.1) = none := by rfl) (e : X.K = K := by rfl) : PG X (.Tuple es k pos) (gTup K n t) := e ▸ pg_tup hc h hn hst
end
end Od

namespace Od
open PySem PySem.Spec PyProof.Rows L2 SX Evl
/-! ## the program as functions of plain data: a text of marks is the list of its signs (101 e, 104 h, 108 l, 103 g) -/
abbrev tEven : List Nat := [101, 118, 101, 110]
abbrev tLeft : List Nat := [108, 101, 102, 116]
abbrev tRight : List Nat := [114, 105, 103, 104, 116]
/-- what are marks -/
def Marks (m : List Nat) : Prop := (∀ c ∈ m, c = 101 ∨ c = 104 ∨ c = 108 ∨ c = 103) ∧ ¬ (101 ∈ m ∧ (104 ∈ m ∨ 108 ∈ m))
def marksB (m : List Nat) : Bool := (m.all fun c => decide (c ∈ [101, 104, 108, 103])) && !(decide (101 ∈ m) && (decide (104 ∈ m) || decide (108 ∈ m)))
def tiltB (m : List Nat) : Bool := decide (104 ∈ m) || decide (108 ∈ m)
def casesN (m : List Nat) : Nat := 2 * m.count 101 + m.count 104 + m.count 108 + if tiltB m then 0 else 1
/-- the fewest weighings with as many outcomes -/
def wf (n : Nat) : Nat := if h : n ≤ 1 then 0 else wf ((n + 2) / 3) + 1
  termination_by n
  decreasing_by omega
theorem wf_le : ∀ (k n : Nat), n ≤ 3 ^ k ↔ wf n ≤ k
  | 0, n => by
    rw [wf]
    split
    · rename_i h
      exact ⟨fun _ => Nat.le_refl _, fun _ => h⟩
    · rename_i h
      exact ⟨fun q => absurd q h, fun q => absurd q (by omega)⟩
  | k + 1, n => by
    rw [wf]
    split
    · rename_i h
      exact ⟨fun _ => Nat.zero_le _, fun _ => Nat.le_trans h (Nat.one_le_pow _ _ (by decide))⟩
    · rename_i h
      have ih := wf_le k ((n + 2) / 3)
      rw [Nat.add_le_add_iff_right, ← ih, Nat.pow_succ]
      omega
theorem wf_gt (k n : Nat) : 3 ^ k < n ↔ k < wf n := by
  have h := wf_le k n
  omega
def isIntV : V → Bool
  | .int _ => true
  | _ => false
def intOf : V → Int
  | .int i => i
  | _ => 0
/-- rising counts from above last on to c -/
def riseB (c : Int) : Int → List Int → Bool
  | _, [] => true
  | last, x :: r => decide (last < x) && decide (x ≤ c) && riseB c x r
def sideV (xs : List V) (c : Int) : Bool := xs.all isIntV && riseB c (-1) (xs.map intOf)
def sideN (ns : List Int) (c : Int) : Bool := riseB c (-1) ns
theorem sideV_ints (ns : List Int) (c : Int) : sideV (ns.map V.int) c = sideN ns c := by
  unfold sideV sideN
  rw [List.map_map]
  have e1 : (ns.map V.int).all isIntV = true := by
    rw [List.all_eq_true]
    intro x hx
    obtain ⟨n, _, rfl⟩ := List.mem_map.mp hx
    rfl
  have e2 : ns.map (intOf ∘ V.int) = ns := by
    conv => rhs; rw [← List.map_id ns]
    exact List.map_congr_left fun _ _ => rfl
  rw [e1, e2, Bool.true_and]
/-- whether two lists are a weighing of c coins -/
def weighB (c : Int) (l r : List Int) : Bool := sideN l c && sideN r c && decide (l.length = r.length) && !(l.any fun x => decide (x ∈ r))
def leftover (c : Nat) (s : Int) (o : List Nat) : Nat :=
  if o = tEven then (if s = 0 then c else 103) else if 0 < s ∧ (c = 101 ∨ c = 104) then 104 else if s < 0 ∧ (c = 101 ∨ c = 108) then 108 else 103
def sideOf (l r : List Int) (o : List Nat) (i : Int) : Int :=
  if i ∈ (if o = tRight then l else r) then -1 else if i ∈ (if o = tRight then r else l) then 1 else 0
def behindL (m : List Nat) (l r : List Int) (o : List Nat) : List Nat := (List.range m.length).map fun i => leftover (m.getD i 0) (sideOf l r o (i : Nat)) o
def manyN (m : List Nat) (l r : List Int) (o : List Nat) : Nat :=
  2 * (behindL m l r o).count 101 + (behindL m l r o).count 104 + (behindL m l r o).count 108 + if decide (o = tEven) && !tiltB m then 1 else 0
end Od
namespace Od
open PySem PySem.Spec PyProof.Rows L2 SX Evl
/-- a thing handed in where a list of counts is due: no list, or a list of these flat things -/
def Thing (K : PySem.W.Frag) (H : Hp) (a : V) : Option (List V) → Prop
  | none => ∃ t, TyX K H a t ∧ PySem.W.kitOne K t (.type "list") = some false
  | some xs => ∃ p, a = .ref p ∧ SqL K H p xs ∧ xs.all flatV = true ∧ xs.length ≤ 40000
theorem Thing.mono {K : PySem.W.Frag} {H H1 : Hp} {a : V} {o : Option (List V)} (e : Ex H H1) (h : Thing K H a o) : Thing K H1 a o := by
  cases o with
  | none =>
    obtain ⟨t, h1, h2⟩ := h
    exact ⟨t, tyx_mono e h1, h2⟩
  | some xs =>
    obtain ⟨p, h1, h2, h3⟩ := h
    exact ⟨p, h1, ex_l e h2, h3⟩
def sideO (o : Option (List V)) (c : Int) : Bool := match o with
  | none => false
  | some xs => sideV xs c
def weighO (c : Int) (l r : Option (List V)) : Bool := match l, r with
  | some l, some r => sideV l c && (sideV r c && (decide (l.length = r.length) && !(l.any fun x => inV x r)))
  | _, _ => false
theorem all_flat (ns : List Int) : (ns.map V.int).all flatV = true := by
  rw [List.all_eq_true]
  intro x hx
  obtain ⟨n, _, rfl⟩ := List.mem_map.mp hx
  rfl
theorem thing_ints {K : PySem.W.Frag} {H : Hp} {p : Addr} {ns : List Int} (h : SqL K H p (ns.map V.int)) (hl : ns.length ≤ 40000) : Thing K H (.ref p) (some (ns.map V.int)) :=
  ⟨p, rfl, h, all_flat ns, by rw [List.length_map]; exact hl⟩
theorem inV_ints (x : Int) (r : List Int) : inV (.int x) (r.map V.int) = decide (x ∈ r) := by
  unfold inV
  rw [List.any_map]
  cases h : decide (x ∈ r) with
  | true =>
    rw [List.any_eq_true]
    exact ⟨x, of_decide_eq_true h, by show (x == x) = true; simp⟩
  | false =>
    rw [List.any_eq_false]
    intro y hy q
    have e : (y == x) = true := q
    have e2 : y = x := by simpa using e
    subst e2
    exact of_decide_eq_false h hy
theorem weighO_ints (c : Int) (l r : List Int) : weighO c (some (l.map V.int)) (some (r.map V.int)) = weighB c l r := by
  unfold weighO weighB
  have e : ((l.map V.int).any fun x => inV x (r.map V.int)) = l.any fun x => decide (x ∈ r) := by
    rw [List.any_map]
    congr 1
    funext x
    exact inV_ints x r
  show (sideV (l.map V.int) c && (sideV (r.map V.int) c && (decide ((l.map V.int).length = (r.map V.int).length) && !((l.map V.int).any fun x => inV x (r.map V.int))))) = _
  rw [sideV_ints, sideV_ints, e, List.length_map, List.length_map, Bool.and_assoc, Bool.and_assoc]
theorem ints_of {xs : List V} (h : xs.all isIntV = true) : xs = (xs.map intOf).map V.int := by
  rw [List.map_map]
  conv => lhs; rw [← List.map_id xs]
  refine List.map_congr_left fun x hx => ?_
  have q := List.all_eq_true.mp h x hx
  cases x with
  | int i => rfl
  | _ => cases q
theorem drop_at {α : Type} {l : List α} {i : Nat} {x : α} (h : l[i]? = some x) : l.drop i = x :: l.drop (i + 1) := by
  obtain ⟨h1, h2⟩ := List.getElem?_eq_some_iff.mp h
  rw [List.drop_eq_getElem_cons h1, h2]
end Od
namespace Od
open PySem PySem.Spec PyProof.Rows L2 SX Evl
/-! ## the sides, as they are stored one by one -/
def putAll (v : Int) (f : List Int) (xs : List Int) : List Int := xs.foldl (fun f x => f.set x.toNat v) f
theorem putAll_len (v : Int) : ∀ (xs f : List Int), (putAll v f xs).length = f.length
  | [], f => rfl
  | x :: r, f => by
    show (putAll v (f.set x.toNat v) r).length = _
    rw [putAll_len v r, List.length_set]
theorem putAll_get (v : Int) : ∀ (xs f : List Int) (i : Nat), i < f.length → (∀ x ∈ xs, 0 ≤ x) → (putAll v f xs)[i]? = if (i : Int) ∈ xs then some v else f[i]?
  | [], f, i, _, _ => by simp [putAll]
  | x :: r, f, i, hi, h0 => by
    show (putAll v (f.set x.toNat v) r)[i]? = _
    have hx := h0 x List.mem_cons_self
    rw [putAll_get v r (f.set x.toNat v) i (by rw [List.length_set]; exact hi) fun y hy => h0 y (List.mem_cons_of_mem _ hy)]
    by_cases h : (i : Int) ∈ r
    · rw [if_pos h, if_pos (List.mem_cons_of_mem _ h)]
    · rw [if_neg h]
      by_cases e : x.toNat = i
      · have e2 : (i : Int) = x := by omega
        rw [if_pos (by rw [e2]; exact List.mem_cons_self), e, List.getElem?_set_self hi]
      · have e2 : ¬ (i : Int) = x := by omega
        rw [if_neg (by simp [e2, h]), List.getElem?_set_ne e]
theorem putAll_take (v : Int) {xs f : List Int} {i : Nat} {x : Int} (h : xs[i]? = some x) : putAll v f (xs.take (i + 1)) = (putAll v f (xs.take i)).set x.toNat v := by
  unfold putAll
  rw [List.take_add_one, h, List.foldl_append]
  rfl
def sidesL (n : Nat) (l r : List Int) (o : List Nat) : List Int := putAll (-1) (putAll 1 (List.replicate (n + 1) 0) (if o = tRight then r else l)) (if o = tRight then l else r)
theorem sidesL_get {n : Nat} {l r : List Int} {o : List Nat} (hl : ∀ x ∈ l, 0 ≤ x) (hr : ∀ x ∈ r, 0 ≤ x) {i : Nat} (hi : i < n + 1) : (sidesL n l r o)[i]? = some (sideOf l r o (i : Nat)) := by
  unfold sidesL sideOf
  have h1 : ∀ x ∈ (if o = tRight then r else l), 0 ≤ x := by
    split
    · exact hr
    · exact hl
  have h2 : ∀ x ∈ (if o = tRight then l else r), 0 ≤ x := by
    split
    · exact hl
    · exact hr
  rw [putAll_get _ _ _ i (by rw [putAll_len, List.length_replicate]; exact hi) h2, putAll_get _ _ _ i (by rw [List.length_replicate]; exact hi) h1]
  have e : (List.replicate (n + 1) (0 : Int))[i]? = some 0 := by
    rw [List.getElem?_replicate, if_pos hi]
  rw [e]
  by_cases a1 : (i : Int) ∈ (if o = tRight then l else r)
  · rw [if_pos a1, if_pos a1]
  · rw [if_neg a1, if_neg a1]
    by_cases a2 : (i : Int) ∈ (if o = tRight then r else l)
    · rw [if_pos a2, if_pos a2]
    · rw [if_neg a2, if_neg a2]
end Od

namespace Od
open PySem PySem.Spec PyProof.Rows L2 SX Evl
/-! ## == of lists of ints -/
def dI (ns : List Int) : PyData := .list (ns.map PyData.int)
theorem lay_ints : ∀ ns : List Int, PyData.canLayAll0 (ns.map PyData.int) = true
  | [] => by simp [PyData.canLayAll0]
  | n :: r => by
    rw [List.map_cons]
    unfold PyData.canLayAll0
    rw [lay_ints r]
    simp [PyData.canLay0]
theorem depth_ints : ∀ ns : List Int, PyData.depthAll (ns.map PyData.int) = 0
  | [] => by simp [PyData.depthAll]
  | n :: r => by
    rw [List.map_cons]
    simp [PyData.depthAll, depth_ints r, PyData.depth]
theorem shaped_ints (ns : List Int) : SeqAt.shaped (dI ns) = true := by
  unfold SeqAt.shaped dI
  rw [Bool.and_eq_true]
  refine ⟨?_, ?_⟩
  · unfold PyData.canLay0
    exact lay_ints ns
  · simp [PyData.depth, depth_ints ns]
theorem eqv_intsAll : ∀ xs ys : List Int, PyData.eqvAll (xs.map PyData.int) (ys.map PyData.int) = decide (xs = ys)
  | [], [] => by simp [PyData.eqvAll]
  | [], y :: s => by simp [PyData.eqvAll]
  | x :: r, [] => by simp [PyData.eqvAll]
  | x :: r, y :: s => by
    rw [List.map_cons, List.map_cons]
    unfold PyData.eqvAll
    rw [eqv_intsAll r s]
    unfold PyData.eqv
    by_cases h : x = y
    · subst h
      by_cases h2 : r = s
      · subst h2; simp
      · simp [h2]
    · have e : (x == y) = false := by simpa using h
      rw [e]
      simp [h]
theorem eqv_ints (xs ys : List Int) : PyData.eqv (dI xs) (dI ys) = decide (xs = ys) := by
  unfold dI PyData.eqv
  exact eqv_intsAll xs ys
theorem dpAll_ints {K : PySem.W.Frag} {H : Hp} : ∀ ns : List Int, DpAll K H (ns.map V.int) (ns.map PyData.int)
  | [] => .nil
  | n :: r => .cons (.int n) (dpAll_ints r)
theorem dp_ints {K : PySem.W.Frag} {H : Hp} {p : Addr} {ns : List Int} (h : SqL K H p (ns.map V.int)) : Dp K H (.ref p) (dI ns) := .lst h (dpAll_ints ns)
section
variable {K : PySem.W.Frag} {σ σ2 : L2.St} {H H' : Hp} {ta tb tc te tx tv : TE} {t u : TT} {x y : V} {i j : Nat} {D : Ends} {tu tw tz : TS} {xs ys : List Int} {p q : Addr}
theorem rv_eqD (hx : SqL K H p (xs.map V.int)) (hy : SqL K H q (ys.map V.int)) : RV (rEqD K) (.ref p) (.ref q) H (.bl (decide (xs = ys))) := rv_val fun H1 e Q q => ⟨dI xs, dI ys, dp_ints (ex_l e hx), dp_ints (ex_l e hy), shaped_ints xs, shaped_ints ys, by rw [eqv_ints]; exact q⟩
theorem rv_neD (hx : SqL K H p (xs.map V.int)) (hy : SqL K H q (ys.map V.int)) : RV (rNeD K) (.ref p) (.ref q) H (.bl (!decide (xs = ys))) := rv_val fun H1 e Q q => ⟨dI xs, dI ys, dp_ints (ex_l e hx), dp_ints (ex_l e hy), shaped_ints xs, shaped_ints ys, by rw [eqv_ints]; exact q⟩
theorem ev_eqRR (ha : Ev ta σ H (.ref p)) (hb : Ev tb σ H (.ref q)) (hx : SqL K H p (xs.map V.int)) (hy : SqL K H q (ys.map V.int)) : Ev (tOp (rEqD K) ta tb) σ H (.bl (decide (xs = ys))) := ev_op ha hb (rv_eqD hx hy)
theorem ev_neRR (ha : Ev ta σ H (.ref p)) (hb : Ev tb σ H (.ref q)) (hx : SqL K H p (xs.map V.int)) (hy : SqL K H q (ys.map V.int)) : Ev (tOp (rNeD K) ta tb) σ H (.bl (!decide (xs = ys))) := ev_op ha hb (rv_neD hx hy)
theorem ev_eqRN (ha : Ev ta σ H (.ref p)) (hb : EvL tb σ H (ys.map V.int)) (hx : SqL K H p (xs.map V.int)) : Ev (tOp (rEqD K) ta tb) σ H (.bl (decide (xs = ys))) := ev_opL ha hb fun q H1 hq e => rv_eqD (ex_l e hx) (sq_of hq)
theorem ev_neRN (ha : Ev ta σ H (.ref p)) (hb : EvL tb σ H (ys.map V.int)) (hx : SqL K H p (xs.map V.int)) : Ev (tOp (rNeD K) ta tb) σ H (.bl (!decide (xs = ys))) := ev_opL ha hb fun q H1 hq e => rv_neD (ex_l e hx) (sq_of hq)
theorem ev_eqNN (ha : EvL ta σ H (xs.map V.int)) (hb : EvL tb σ H (ys.map V.int)) : Ev (tOp (rEqD K) ta tb) σ H (.bl (decide (xs = ys))) := ev_opLL ha hb fun p q H1 hp hq e => rv_eqD (sq_of hp) (sq_of hq)
theorem ev_neNN (ha : EvL ta σ H (xs.map V.int)) (hb : EvL tb σ H (ys.map V.int)) : Ev (tOp (rNeD K) ta tb) σ H (.bl (!decide (xs = ys))) := ev_opLL ha hb fun p q H1 hp hq e => rv_neD (sq_of hp) (sq_of hq)
/-! ## sorted -/
def srt (ns : List Int) : List Int := ns.mergeSort (fun a b => decide (a ≤ b))
theorem srt_perm (ns : List Int) : (srt ns).Perm ns := List.mergeSort_perm ns _
theorem srt_pair (ns : List Int) : (srt ns).Pairwise (· ≤ ·) := by
  have h := List.pairwise_mergeSort (le := fun a b : Int => decide (a ≤ b)) (by intro a b c; simp; omega) (by intro a b; simp; omega) ns
  exact h.imp fun q => of_decide_eq_true q
theorem srt_eq {ns ms : List Int} (h : ms.Perm ns) (hs : ms.Pairwise (· ≤ ·)) : ms = srt ns :=
  List.Perm.eq_of_pairwise (fun a b _ _ h1 h2 => by have h3 : a ≤ b := h1; have h4 : b ≤ a := h2; omega) hs (srt_pair ns) (h.trans (srt_perm ns).symm)
theorem el_sortedN (ha : EvL ta σ H (xs.map V.int)) : EvL (tCB (rSortedI K) (tCons ta tNil)) σ H ((srt xs).map V.int) := fun H1 e Q k =>
  ha H1 e _ fun p H2 hp e2 h2 => ⟨p, xs, rfl, sq_of h2, fun ms l hm hs hl => by
    rw [srt_eq hm hs]
    exact k l _ (fresh_back e2 hl) (e2.trans (Ex.new hl)) upd_same⟩
theorem el_sorted (ha : Ev ta σ H (.ref p)) (hx : SqL K H p (xs.map V.int)) : EvL (tCB (rSortedI K) (tCons ta tNil)) σ H ((srt xs).map V.int) := fun H1 e Q k =>
  ha H1 e _ fun H2 e2 => ⟨p, xs, rfl, ex_l (e.trans e2) hx, fun ms l hm hs hl => by
    rw [srt_eq hm hs]
    exact k l _ (fresh_back e2 hl) (e2.trans (Ex.new hl)) upd_same⟩
/-! ## instances -/
theorem go_fld {C dx : Addr} {fs : List (Str × V)} {f : Str} (hv : Ev tv σ H y) (ha : Ev ta σ H (.ref p)) (h : H p = some (.ins C dx fs)) (c : Cls K C) (n : NoAttr K C f) (l : fs.length < 1000) (k : Go (upd H p (.ins C dx (putF f y fs))) (tz D σ)) :
    Go H (tSeq (sFld K ta tv f) tz D σ) := fun H1 e => hv H1 e _ fun H2 e2 => ha H2 (e.trans e2) _ fun H3 e3 => ⟨p, C, dx, fs, rfl, ((e.trans e2).trans e3) _ _ h, c, n, l, k _ (ex_upd2 ((e.trans e2).trans e3))⟩
theorem go_fldL {C dx : Addr} {fs : List (Str × V)} {f : Str} {zs : List V} (hv : EvL tv σ H zs) (ha : Ev ta σ H (.ref p)) (h : H p = some (.ins C dx fs)) (c : Cls K C) (n : NoAttr K C f) (l : fs.length < 1000)
    (k : ∀ q, H q = none → Go (upd (upd H q (.lst zs)) p (.ins C dx (putF f (.ref q) fs))) (tz D σ)) :
    Go H (tSeq (sFld K ta tv f) tz D σ) := fun H1 e => hv H1 e _ fun q H2 hq e2 h2 => ha H2 (e.trans e2) _ fun H3 e3 => ⟨p, C, dx, fs, rfl, ((e.trans e2).trans e3) _ _ h, c, n, l,
      k q (fresh_back e hq) _ (ex_upd2 (ex_upd ((e.trans e2).trans e3) (e3 _ _ h2)))⟩
end
/-! ## classes: made, their methods -/
structure MakX (P : Program) (w : World) (K : PySem.W.Frag) (mg : Str → Option Value) (base : Heap) (k : Nat) (x : Str) (C : Addr) (sp : Sp) : Prop where
  ex : ∃ (f : Addr) (fd : FuncData) (ps : List Str), Mk K C f ∧ FnOk P w K mg base CX0 k f fd ps sp ∧ mg x = some (.ref C) ∧ Binds K fd ps []
structure MetX (P : Program) (w : World) (K : PySem.W.Frag) (mg : Str → Option Value) (base : Heap) (k : Nat) (C : Addr) (m : Str) (sp : Sp) : Prop where
  ex : ∃ (f : Addr) (fd : FuncData) (ps : List Str), Cls K C ∧ Meth K C m f ∧ FnOk P w K mg base CX0 k f fd ps sp ∧ Binds K fd ps []
section
variable {P : Program} {w : World} {K : PySem.W.Frag} {mg : Str → Option Value} {base : Heap}
theorem mak_mk {x qual : Str} {C : Addr} {st : Stmt} {f : Addr} {N ps : List Str} {k : Nat} {sp : Sp} (F : ∃ fd, FunD K "__init__" qual (defArgs st) (defBody st) (defScope st) [] [] f fd) (M : Mk K C f) (g : mg x = some (.ref C)) (S : FnScope N ps (defScope st))
    (b : ∀ (kV doc pm : Value) (an : Option Addr) (cdv ct : Value) (us : List Value), us.length = ps.length → bindArgs (PySem.W.fnOf "__init__" qual (defArgs st) (defBody st) (defScope st) .none kV doc pm an cdv ct) ⟨us, []⟩ = pure (ps.zip us))
    (len : ∀ vs H Q E, sp vs H Q E → vs.length = ps.length)
    (body : ∀ (cdv : Value) (A : Around) (outer : List Env) (s : Shared) (H : Hp) (vs : List V) (Q : VK) (E : XK), Room k (A.deeper (envOfC qual (defScope st) s.heap.objs.size f cdv)) → sp vs H Q E →
      ∃ t, PSs (cxOf CX0 P w K mg base N qual (defScope st) f cdv A outer s H E).nox (defBody st) t ∧ Go H (t { nx := fun _ H' => Q .non H', rt := Q } (start N vs))) : MakX P w K mg base (k + 1) x C sp := by
  obtain ⟨fd, F⟩ := F
  refine ⟨f, fd, ps, M, F.ok S len (fun cdv A outer s H vs Q E hr hsp => ?_), g, F.bindsN b⟩
  obtain ⟨t, h, q⟩ := body cdv A outer s H vs Q E hr hsp
  exact ⟨t, h.nox, q.here⟩
theorem met_mk {m qual : Str} {C : Addr} {st : Stmt} {f : Addr} {N ps : List Str} {k : Nat} {sp : Sp} (F : ∃ fd, FunD K m qual (defArgs st) (defBody st) (defScope st) [] [] f fd) (c : Cls K C) (M : Meth K C m f) (S : FnScope N ps (defScope st))
    (b : ∀ (kV doc pm : Value) (an : Option Addr) (cdv ct : Value) (us : List Value), us.length = ps.length → bindArgs (PySem.W.fnOf m qual (defArgs st) (defBody st) (defScope st) .none kV doc pm an cdv ct) ⟨us, []⟩ = pure (ps.zip us))
    (len : ∀ vs H Q E, sp vs H Q E → vs.length = ps.length)
    (body : ∀ (cdv : Value) (A : Around) (outer : List Env) (s : Shared) (H : Hp) (vs : List V) (Q : VK) (E : XK), Room k (A.deeper (envOfC qual (defScope st) s.heap.objs.size f cdv)) → sp vs H Q E →
      ∃ t, PSs (cxOf CX0 P w K mg base N qual (defScope st) f cdv A outer s H E).nox (defBody st) t ∧ Go H (t { nx := fun _ H' => Q .non H', rt := Q } (start N vs))) : MetX P w K mg base (k + 1) C m sp := by
  obtain ⟨fd, F⟩ := F
  refine ⟨f, fd, ps, c, M, F.ok S len (fun cdv A outer s H vs Q E hr hsp => ?_), F.bindsN b⟩
  obtain ⟨t, h, q⟩ := body cdv A outer s H vs Q E hr hsp
  exact ⟨t, h.nox, q.here⟩
end
section
variable {X : Cx} {k j : Nat} {C : Addr} {x m : Str} {sp : Sp} {p pos apos : Pos} {e o : Expr} {es : List Expr} {ta : TE} {t : TA}
theorem pe_mkc (c : MakX X.prog X.w X.K X.mg X.base k x C sp) (hr : Room j X.A) (hk : k + 1 ≤ j) (hg : Gl X x) (ha : PA X (e :: es) t)
    (hdb : (x == ("__debug__" : Str)) = false := by decide) (he : starEach (e :: es) X.env = (false, eval e X.env) :: starEach es X.env := by rfl) (hpl : (backTo pos (starEach es X.env)).any (·.1) = false := by rfl) :
    PE X (.Call (.Name x p) (e :: es) [] pos) (tMake C sp [] E0 t) := by
  obtain ⟨f, fd, ps, M, F, hm, b⟩ := c.ex
  exact pe_make M F (hr.mono hk) hg hm b .nil pass0 ha hdb he hpl
theorem pe_mtc {pl : Sem Bool} (c : MetX X.prog X.w X.K X.mg X.base k C m sp) (hr : Room j X.A) (hk : k ≤ j) (he : PE X o ta) (ha : PA X (e :: es) t)
    (hst : starEach (e :: es) X.env = (false, eval e X.env) :: starEach es X.env := by rfl) (hpl : (backTo pos (starEach es X.env)).any (·.1) = false := by rfl)
    (ht : eval (.Call (.Attribute o m apos) (e :: es) [] pos) X.env = (do
      let ov ← eval o X.env
      standAt apos.atName
      let (f, first) ← holding [ov] (getMethod ov m pl)
      callWith pos f first (backTo pos (starEach (e :: es) X.env)) (backToKw pos (keywordEach [] X.env))) := by rfl) :
    PE X (.Call (.Attribute o m apos) (e :: es) [] pos) (tMeth C m sp [] E0 ta t) := by
  obtain ⟨f, fd, ps, hc, hm, F, b⟩ := c.ex
  exact pe_meth (pl := pl) he hc hm F (hr.mono hk) b .nil pass0 ha hst hpl ht
theorem pe_either {e : Expr} {t1 t2 : TE} (h1 : PE X e t1) (h2 : PE X e t2) : PE X e (fun σ H Q => t1 σ H Q ∨ t2 σ H Q) := ⟨fun pins s σ H Q I h => by
  rcases h with h | h
  · exact h1.run pins s σ H Q I h
  · exact h2.run pins s σ H Q I h⟩
/-- C(), C without an __init__ of its own -/
def tMake0 (C : Addr) : TE := fun _ H Q => ∀ x dx, H x = none → H dx = none → dx ≠ x → Q (.ref x) (upd (upd H dx (.own x)) x (.ins C dx []))
end
end Od
namespace Od
open PySem PySem.Spec PyProof.Rows L2 SX Evl
theorem lk0 {f : Str} {v : V} {r : List (Str × V)} : List.lookup f ((f, v) :: r) = some v := by simp [List.lookup]
theorem lk1 {f g : Str} {v x : V} {r : List (Str × V)} (h : (f == g) = false) (q : List.lookup f r = some v) : List.lookup f ((g, x) :: r) = some v := by
  simp [List.lookup, h, q]
theorem lkn {f g : Str} {x : V} {r : List (Str × V)} (h : (f == g) = false) (q : List.lookup f r = none) : List.lookup f ((g, x) :: r) = none := by
  simp [List.lookup, h, q]
theorem put_new {f g : Str} {v x : V} {r : List (Str × V)} (h : ¬ g = f) : putF f v ((g, x) :: r) = (g, x) :: putF f v r := by
  show (if g = f then _ else _) = _
  rw [if_neg h]
theorem fs_left {f : V} {r : List (Str × V)} : putF "left" f [] = ([("left", f)] : List (Str × V)) := rfl
theorem fs_right {f g : V} : putF "right" g ([("left", f)] : List (Str × V)) = ([("left", f), ("right", g)] : List (Str × V)) := by
  rw [put_new (by decide +kernel)]
  rfl
theorem fs_many {f g h : V} : putF "many" h ([("left", f), ("right", g)] : List (Str × V)) = ([("left", f), ("right", g), ("many", h)] : List (Str × V)) := by
  rw [put_new (by decide +kernel), put_new (by decide +kernel)]
  rfl
end Od

namespace Od
open PySem PySem.Spec PyProof.Rows L2 SX Evl
section
variable {X : Cx} {C : Addr} {x : Str} {p pos : Pos}
theorem run_make00 {pins : List (Addr × Obj)} {σ : L2.St} {H : Hp} {s : Shared} {Q : VK} (M : Mk0 X.K C) (top : PySem.W.mroIn X.K C (.type "object") = some true) (I : Inv X pins σ H s)
    (h : ∀ x dx, H x = none → H dx = none → dx ≠ x → Q (.ref x) (upd (upd H dx (.own x)) x (.ins C dx []))) :
    wpAny (model X.prog X.w) X.A (call (.ref C) []) (EP X pins σ Q) X.xe s := by
  have hq := h (s.heap.objs.size + 1) s.heap.objs.size (I.hok.fresh (Nat.le_succ _)) (I.hok.fresh (Nat.le_refl _)) (Nat.ne_of_lt (Nat.lt_succ_self _))
  have I2 := Inv.made (C := C) I
  refine wpAny_call (make_map0 I.kIn M.makes M.init (fun self => PySem.W.Looks.of_pure (PySem.W.oi_bind _)) ?_)
  have hx : ((s.heap.push PySem.W.emptyDict).push (PySem.W.instObj C s.heap.objs.size)).get? (s.heap.objs.size + 1) = some (PySem.W.instObj C s.heap.objs.size) := by
    have z := Heap.get?_push_size (s.heap.push PySem.W.emptyDict) (o := PySem.W.instObj C s.heap.objs.size) rfl
    rw [Heap.size_push] at z
    exact z
  have t1 : PySem.W.Looks (model X.prog X.w) ((s.heap.push PySem.W.emptyDict).push (PySem.W.instObj C s.heap.objs.size)) (typeOf (.ref (s.heap.objs.size + 1))) (.ref C) := NwA.type_at hx rfl
  have t2 : PySem.W.Looks (model X.prog X.w) ((s.heap.push PySem.W.emptyDict).push (PySem.W.instObj C s.heap.objs.size)) (isInstance (.ref (s.heap.objs.size + 1)) (.type "object")) true := t1.andThen (PySem.W.looks_mroIn I2.kIn top)
  refine codeAny_call_builtin PySem.W.oi_plain PySem.W.entry_oi (@PySem.W.check_slot (model X.prog X.w) _ _ _ "object.__init__" "object" "__init__" (.ref (s.heap.objs.size + 1)) [] [] _ PySem.W.oi_kind PySem.W.oi_split t2 (NwA.oi_args_any (.ref (s.heap.objs.size + 1)) [] []) ?_)
  rw [PySem.W.oi_run]
  exact wpAny_pure (And.intro rfl ⟨V.ref (s.heap.objs.size + 1), _, I2, rfl, hq⟩)
theorem pe_make00 (M : Mk0 X.K C) (top : PySem.W.mroIn X.K C (.type "object") = some true) (hg : Gl X x) (hm : X.mg x = some (.ref C)) (hdb : (x == ("__debug__" : Str)) = false := by decide) : PE X (.Call (.Name x p) [] [] pos) (tMake0 C) := by
  refine ⟨fun pins s σ H Q I h => ?_⟩
  refine wpAny_Call_Name_kw (ld_glob I hg hm ?_ hdb)
  exact PySem.W.callWith_K0 I.kIn M.kp (run_make00 M top I h)
end
end Od

namespace Od
open PySem PySem.Spec PyProof.Rows L2 SX Evl
open PySem.Builtin PySem.Builtin.Str
/-! ## strip(signs) -/
def stripL (g m : List Nat) : List Nat := (m.drop (m.takeWhile fun c => decide (c ∈ g)).length).take (m.length - ((m.drop (m.takeWhile fun c => decide (c ∈ g)).length).reverse.takeWhile fun c => decide (c ∈ g)).length - (m.takeWhile fun c => decide (c ∈ g)).length)
theorem strip_S (m g : List Nat) : Txt.stripChars (S m) (S g) = S (stripL g m) := by
  unfold Txt.stripChars
  rw [PyProof.Rows.stripBy_eq]
  have e : ((S g).cps.contains : Nat → Bool) = fun c => decide (c ∈ g) := by
    funext c
    show g.toArray.contains c = _
    rw [List.contains_toArray]
    simp
  rw [e]
  refine TL.ext_tl ?_
  show (strSub _ _ _).cps.toList = _
  rw [StrLaws.strSub_toList]
  unfold stripLo stripHi stripL
  rw [if_pos rfl, if_pos rfl, S_len]
theorem tw_all {p : Nat → Bool} : ∀ l : List Nat, (∀ c ∈ l, p c = true) → l.takeWhile p = l
  | [], _ => rfl
  | c :: r, h => by
    rw [List.takeWhile_cons, if_pos (h c List.mem_cons_self), tw_all r fun d hd => h d (List.mem_cons_of_mem _ hd)]
theorem drop_tw {p : Nat → Bool} : ∀ l : List Nat, l.drop (l.takeWhile p).length = l.dropWhile p
  | [] => rfl
  | c :: r => by
    rw [List.takeWhile_cons, List.dropWhile_cons]
    by_cases h : p c = true
    · rw [if_pos h, if_pos h, List.length_cons, List.drop_succ_cons, drop_tw r]
    · rw [if_neg h, if_neg h] <;> rfl
theorem tw_len {p : Nat → Bool} : ∀ l : List Nat, (l.takeWhile p).length = l.length → ∀ c ∈ l, p c = true
  | [], _, _, hc => by cases hc
  | d :: r, h, c, hc => by
    rw [List.takeWhile_cons] at h
    by_cases q : p d = true
    · rw [if_pos q, List.length_cons, List.length_cons] at h
      rcases List.mem_cons.mp hc with e | e
      · rw [e]; exact q
      · exact tw_len r (by omega) c e
    · rw [if_neg q] at h
      simp at h
theorem dw_head {p : Nat → Bool} : ∀ (l : List Nat) {c : Nat} {r : List Nat}, l.dropWhile p = c :: r → p c = false
  | [], c, r, h => by cases h
  | d :: s, c, r, h => by
    rw [List.dropWhile_cons] at h
    by_cases q : p d = true
    · rw [if_pos q] at h
      exact dw_head s h
    · rw [if_neg q] at h
      have e : d = c := (List.cons.inj h).1
      rw [← e]
      exact Bool.not_eq_true _ ▸ q
theorem stripL_nil (g m : List Nat) : decide (stripL g m = []) = m.all fun c => decide (c ∈ g) := by
  cases h : (m.all fun c => decide (c ∈ g)) with
  | true =>
    have e := tw_all (p := fun c => decide (c ∈ g)) m (List.all_eq_true.mp h)
    have : stripL g m = [] := by
      unfold stripL
      rw [e, List.drop_length, List.take_nil]
    rw [this]
    rfl
  | false =>
    refine decide_eq_false fun q => ?_
    unfold stripL at q
    have hl := congrArg List.length q
    rw [List.length_take, List.length_drop, List.length_nil] at hl
    have d1 : (m.takeWhile fun c => decide (c ∈ g)).length ≤ m.length := by
      have := congrArg List.length (List.takeWhile_append_dropWhile (p := fun c => decide (c ∈ g)) (l := m))
      rw [List.length_append] at this
      omega
    have e2 := drop_tw (p := fun c => decide (c ∈ g)) m
    have d2 : ((m.drop (m.takeWhile fun c => decide (c ∈ g)).length).reverse.takeWhile fun c => decide (c ∈ g)).length ≤ (m.drop (m.takeWhile fun c => decide (c ∈ g)).length).reverse.length := by
      have := congrArg List.length (List.takeWhile_append_dropWhile (p := fun c => decide (c ∈ g)) (l := (m.drop (m.takeWhile fun c => decide (c ∈ g)).length).reverse))
      rw [List.length_append] at this
      omega
    have d3 : (m.drop (m.takeWhile fun c => decide (c ∈ g)).length).reverse.length = m.length - (m.takeWhile fun c => decide (c ∈ g)).length := by
      rw [List.length_reverse, List.length_drop]
    have d4 : ((m.drop (m.takeWhile fun c => decide (c ∈ g)).length).reverse.takeWhile fun c => decide (c ∈ g)).length = (m.drop (m.takeWhile fun c => decide (c ∈ g)).length).reverse.length := by omega
    have all := tw_len _ d4
    rw [e2] at all
    cases hd : m.dropWhile fun c => decide (c ∈ g) with
    | nil =>
      rw [hd] at e2
      have hz := congrArg List.length e2
      rw [List.length_drop, List.length_nil] at hz
      have full := tw_len m (p := fun c => decide (c ∈ g)) (by omega)
      rw [List.all_eq_true.mpr full] at h
      cases h
    | cons c r =>
      have n := dw_head m hd
      have y := all c (by rw [hd, List.mem_reverse]; exact List.mem_cons_self)
      rw [n] at y
      cases y
def rStripT : V → List V → Hp → VK → Prop := fun x xs H Q => ∃ (m g : List Nat), x = .str (S m) ∧ xs = [.str (S g)] ∧ m.length ≤ 100000 ∧ Q (.str (S (stripL g m))) H
theorem mt_stripT {X : Cx} : MtR X "str.strip" rStripT := fun pins s σ H x xs v us Q I rx rxs h => by
  obtain ⟨m, g, rfl, rfl, hm, q⟩ := h
  exact mt_stripChars pins s σ H _ _ v us Q I rx rxs ⟨S m, S g, rfl, rfl, by rw [S_len]; exact sz_of hm, by rw [strip_S]; exact q⟩
theorem ev_stripT {σ : L2.St} {H : Hp} {ta tb : TE} {m g : List Nat} (ha : Ev ta σ H (.str (S m))) (hb : Ev tb σ H (.str (S g))) (hm : m.length ≤ 100000) : Ev (tM1 rStripT ta tb) σ H (.str (S (stripL g m))) := fun H1 e Q q =>
  ha H1 e _ fun H2 e2 => ⟨⟨_, rfl⟩, hb H2 (e.trans e2) _ fun H3 e3 => ⟨m, g, rfl, rfl, hm, q H3 (e2.trans e3)⟩⟩
/-! ## answers -/
inductive Ans where
  | heavy (i : Int) | light (i : Int) | nothing | opn (l r : List Int) (n : Int)
def OpnAt (K : PySem.W.Frag) (H : Hp) (v : V) (pl pr : Addr) (l r : List Int) (n : Int) : Prop :=
  ∃ p dx, v = .ref p ∧ H p = some (.ins (He.ga K "Open") dx [("left", .ref pl), ("right", .ref pr), ("many", .int n)]) ∧ H pl = some (.lst (l.map V.int)) ∧ H pr = some (.lst (r.map V.int))
def AnsAt (K : PySem.W.Frag) (H : Hp) (v : V) : Ans → Prop
  | .heavy i => ∃ p dx, v = .ref p ∧ H p = some (.ins (He.ga K "Heavy") dx [("coin", .int i)])
  | .light i => ∃ p dx, v = .ref p ∧ H p = some (.ins (He.ga K "Light") dx [("coin", .int i)])
  | .nothing => ∃ p dx, v = .ref p ∧ H p = some (.ins (He.ga K "Nothing") dx [])
  | .opn l r n => ∃ pl pr, OpnAt K H v pl pr l r n
theorem OpnAt.mono {K : PySem.W.Frag} {H H1 : Hp} {v : V} {pl pr : Addr} {l r : List Int} {n : Int} (e : Ex H H1) (h : OpnAt K H v pl pr l r n) : OpnAt K H1 v pl pr l r n := by
  obtain ⟨p, dx, h0, h1, h2, h3⟩ := h
  exact ⟨p, dx, h0, e _ _ h1, e _ _ h2, e _ _ h3⟩
theorem AnsAt.mono {K : PySem.W.Frag} {H H1 : Hp} {v : V} {a : Ans} (e : Ex H H1) (h : AnsAt K H v a) : AnsAt K H1 v a := by
  cases a with
  | heavy i => obtain ⟨p, dx, h0, h1⟩ := h; exact ⟨p, dx, h0, e _ _ h1⟩
  | light i => obtain ⟨p, dx, h0, h1⟩ := h; exact ⟨p, dx, h0, e _ _ h1⟩
  | nothing => obtain ⟨p, dx, h0, h1⟩ := h; exact ⟨p, dx, h0, e _ _ h1⟩
  | opn l r n => obtain ⟨pl, pr, h1⟩ := h; exact ⟨pl, pr, h1.mono e⟩
def oneB (m : List Nat) (i : Int) (c : Nat) : Bool := (decide (0 ≤ i) && decide (i < (m.length : Nat))) && (decide (m.getD i.toNat 0 = c) && decide (casesN m = 1))
def outs : List (List Nat) := [tLeft, tRight, tEven]
def openB (m : List Nat) (l r : List Int) (n : Int) : Bool :=
  !(decide (casesN m < 2) || (!decide (n = (wf (casesN m) : Nat)) || !weighB (m.length : Nat) l r)) && outs.all fun o => decide (manyN m l r o = 0) || decide ((wf (manyN m l r o) : Int) < n)
def showsB (m : List Nat) : Ans → Bool
  | .heavy i => oneB m i 104
  | .light i => oneB m i 108
  | .nothing => m.all fun c => decide (c ∈ [103])
  | .opn l r n => openB m l r n
end Od

namespace Od
/-! ## what is told, and that it is right: plain -/
def idx (c : Nat) (m : List Nat) : List Int := ((List.range m.length).filter fun i => decide (m.getD i 0 = c)).map fun i : Nat => (i : Int)
def eitherL (co : List Int) (b : Int) (out : Nat) : List Int × List Int :=
  let many := (2 * co.length + 2 - out) / 2
  let half := (many + 1) / 2
  (co.take half, if ((co.drop half).take (many - half)).length < (co.take half).length then (co.drop half).take (many - half) ++ [b] else (co.drop half).take (many - half))
def tiltedL (h l : List Int) (b : Int) (out : Nat) : List Int × List Int :=
  let due := (h.length + l.length + 1 - out) / 2
  let first := min due (h.length / 2)
  let second := min (due - first) (l.length / 2)
  if first + second < due then (h.take 1, [b]) else (srt (h.take first ++ l.take second), srt ((h.drop first).take first ++ (l.drop second).take second))
def pairL (m : List Nat) : List Int × List Int :=
  if idx 104 m ++ idx 108 m = [] then eitherL (idx 101 m) (m.length : Nat) (3 ^ (wf (casesN m) - 1)) else tiltedL (idx 104 m) (idx 108 m) (m.length : Nat) (3 ^ (wf (casesN m) - 1))
def toldA (m : List Nat) : Ans :=
  if 1 < casesN m then .opn (pairL m).1 (pairL m).2 (wf (casesN m) : Nat)
  else match idx 104 m with
    | i :: _ => .heavy i
    | [] => match idx 108 m with
      | i :: _ => .light i
      | [] => .nothing
/-! ### counting over a range -/
def cnt (n : Nat) (p : Nat → Bool) : Nat := (List.range n).countP p
theorem cnt_mono {n : Nat} {p q : Nat → Bool} (h : ∀ i, i < n → p i = true → q i = true) : cnt n p ≤ cnt n q :=
  List.countP_mono_left fun i hi => h i (List.mem_range.mp hi)
theorem cnt_congr {n : Nat} {p q : Nat → Bool} (h : ∀ i, i < n → p i = q i) : cnt n p = cnt n q := by
  unfold cnt
  refine List.countP_congr fun i hi => ?_
  rw [h i (List.mem_range.mp hi)]
theorem cnt_succ (n : Nat) (p : Nat → Bool) : cnt (n + 1) p = cnt n p + if p n = true then 1 else 0 := by
  unfold cnt
  rw [List.range_succ, List.countP_append]
  by_cases h : p n = true
  · simp [h]
  · simp [h]
theorem cnt_false {n : Nat} {p : Nat → Bool} (h : ∀ i, i < n → p i = false) : cnt n p = 0 := by
  have := cnt_congr (q := fun _ => false) h
  rw [this]
  simp [cnt]
theorem cnt_or (n : Nat) (p q : Nat → Bool) : cnt n (fun i => p i || q i) ≤ cnt n p + cnt n q := by
  induction n with
  | zero => simp [cnt]
  | succ n ih =>
    rw [cnt_succ, cnt_succ, cnt_succ]
    cases p n <;> cases q n <;> simp <;> omega
theorem cnt_one (n a : Nat) (p : Nat → Bool) (h : p a = true) (ha : a < n) : cnt n (fun i => p i && !decide (i = a)) + 1 = cnt n p := by
  induction n with
  | zero => omega
  | succ n ih =>
    rw [cnt_succ, cnt_succ]
    by_cases e : a = n
    · subst e
      have z : cnt a (fun i => p i && !decide (i = a)) = cnt a p := cnt_congr fun i hi => by
        have : decide (i = a) = false := decide_eq_false (by omega)
        simp [this]
      rw [z]
      simp [h]
    · have ih := ih (by omega)
      have z : decide (n = a) = false := decide_eq_false (by omega)
      simp only [z, Bool.not_false, Bool.and_true]
      omega
theorem cnt_eq1 (n a : Nat) : cnt n (fun i => decide (i = a)) ≤ 1 := by
  induction n with
  | zero => simp [cnt]
  | succ n ih =>
    rw [cnt_succ]
    by_cases e : n = a
    · subst e
      have z : cnt n (fun i => decide (i = n)) = 0 := cnt_false fun i hi => decide_eq_false (by omega)
      rw [z]
      simp
    · rw [if_neg (by simpa using e)]
      omega
def inL (l : List Int) (i : Nat) : Bool := decide ((i : Int) ∈ l)
theorem cnt_len (n : Nat) : ∀ l : List Int, cnt n (inL l) ≤ l.length
  | [] => by rw [cnt_false fun i _ => by simp [inL]]; exact Nat.zero_le _
  | a :: l => by
    have h := cnt_len n l
    have e : cnt n (inL (a :: l)) ≤ cnt n (fun i => decide (i = a.toNat)) + cnt n (inL l) := by
      refine Nat.le_trans (cnt_mono fun i _ q => ?_) (cnt_or n _ _)
      unfold inL at q ⊢
      rw [decide_eq_true_eq, List.mem_cons] at q
      rw [Bool.or_eq_true, decide_eq_true_eq, decide_eq_true_eq]
      rcases q with q | q
      · left; omega
      · right; exact q
    have e1 := cnt_eq1 n a.toNat
    rw [List.length_cons]
    omega
/-- of those that p tells, those that are drawn | not -/
theorem cnt_diff (n : Nat) (p : Nat → Bool) : ∀ D : List Int, D.Nodup → (∀ x ∈ D, 0 ≤ x ∧ x < n ∧ p x.toNat = true) → cnt n (fun i => p i && !inL D i) + D.length = cnt n p
  | [], _, _ => by
    have e : cnt n (fun i => p i && !inL [] i) = cnt n p := cnt_congr fun i _ => by simp [inL]
    rw [e]; rfl
  | a :: D, hn, h => by
    obtain ⟨h1, h2⟩ := List.nodup_cons.mp hn
    have ih := cnt_diff n p D h2 fun x hx => h x (List.mem_cons_of_mem _ hx)
    obtain ⟨a0, a1, a2⟩ := h a List.mem_cons_self
    have one := cnt_one n a.toNat (fun i => p i && !inL D i) (by
      rw [a2, Bool.true_and]
      unfold inL
      rw [Bool.not_eq_true', decide_eq_false_iff_not]
      have : ((a.toNat : Nat) : Int) = a := by omega
      rw [this]
      exact h1) (by omega)
    have e : cnt n (fun i => p i && !inL (a :: D) i) = cnt n (fun i => (p i && !inL D i) && !decide (i = a.toNat)) := cnt_congr fun i _ => by
      have : inL (a :: D) i = (decide (i = a.toNat) || inL D i) := by
        unfold inL
        rw [← Bool.decide_or]
        refine decide_eq_decide.mpr ?_
        rw [List.mem_cons]
        constructor
        · rintro (q | q)
          · left; omega
          · right; exact q
        · rintro (q | q)
          · left; omega
          · right; exact q
      rw [this]
      cases p i <;> cases inL D i <;> cases decide (i = a.toNat) <;> rfl
    rw [e, List.length_cons]
    omega
/-! ### counts of signs -/
theorem beq_dec (a b : Nat) : (a == b) = decide (a = b) := by
  by_cases h : a = b
  · rw [decide_eq_true h, beq_iff_eq]; exact h
  · rw [decide_eq_false h]; simpa using h
theorem sign_cnt (m : List Nat) (c : Nat) : m.count c = cnt m.length (fun i => decide (m.getD i 0 = c)) := by
  have e : m = (List.range m.length).map fun i => m.getD i 0 := by
    refine List.ext_getElem (by simp) fun i h1 h2 => ?_
    simp [List.getD_eq_getElem?_getD, List.getElem?_eq_getElem h1]
  have : m.count c = ((List.range m.length).map fun i => m.getD i 0).count c := by rw [← e]
  rw [this, List.count_eq_countP, List.countP_map]
  refine cnt_congr (n := m.length) fun i _ => ?_
  show (m.getD i 0 == c) = decide (m.getD i 0 = c)
  exact beq_dec _ _
theorem idx_len (m : List Nat) (c : Nat) : (idx c m).length = m.count c := by
  rw [sign_cnt]
  unfold idx cnt
  rw [List.length_map, List.countP_eq_length_filter]
theorem idx_mem {m : List Nat} {c : Nat} {x : Int} (h : x ∈ idx c m) : 0 ≤ x ∧ x < m.length ∧ m.getD x.toNat 0 = c := by
  unfold idx at h
  obtain ⟨i, hi, rfl⟩ := List.mem_map.mp h
  obtain ⟨h1, h2⟩ := List.mem_filter.mp hi
  have := List.mem_range.mp h1
  exact ⟨by omega, by omega, by rw [Int.toNat_natCast]; exact of_decide_eq_true h2⟩
theorem mem_idx {m : List Nat} {c i : Nat} (h : i < m.length) (e : m.getD i 0 = c) : (i : Int) ∈ idx c m :=
  List.mem_map.mpr ⟨i, List.mem_filter.mpr ⟨List.mem_range.mpr h, decide_eq_true e⟩, rfl⟩
theorem idx_lt (m : List Nat) (c : Nat) : (idx c m).Pairwise (· < ·) := by
  unfold idx
  refine List.pairwise_map.mpr ?_
  have h : (List.range m.length).Pairwise (· < ·) := List.pairwise_lt_range
  exact (h.filter _).imp fun q => by omega
theorem lt_nodup {l : List Int} (h : l.Pairwise (· < ·)) : l.Nodup := h.imp fun q => by omega
theorem mem_take_of {α : Type} {l : List α} {k : Nat} {x : α} (h : x ∈ l.take k) : x ∈ l := List.mem_of_mem_take h
theorem mem_drop_of {α : Type} {l : List α} {k : Nat} {x : α} (h : x ∈ l.drop k) : x ∈ l := List.mem_of_mem_drop h
/-! ### sides that are rising -/
theorem rise_lt : ∀ (ns : List Int) (c last : Int), ns.Pairwise (· < ·) → (∀ x ∈ ns, last < x ∧ x ≤ c) → riseB c last ns = true
  | [], _, _, _, _ => rfl
  | x :: r, c, last, hp, h => by
    obtain ⟨h1, h2⟩ := List.pairwise_cons.mp hp
    have hx := h x List.mem_cons_self
    unfold riseB
    rw [decide_eq_true hx.1, decide_eq_true hx.2, rise_lt r c x h2 fun y hy => ⟨h1 y hy, (h y (List.mem_cons_of_mem _ hy)).2⟩] <;> rfl
theorem side_lt {ns : List Int} {c : Int} (hp : ns.Pairwise (· < ·)) (h : ∀ x ∈ ns, 0 ≤ x ∧ x ≤ c) : sideN ns c = true :=
  rise_lt ns c (-1) hp fun x hx => ⟨by have := (h x hx).1; omega, (h x hx).2⟩
theorem lt_side : ∀ (ns : List Int) (c last : Int), riseB c last ns = true → ns.Pairwise (· < ·) ∧ ∀ x ∈ ns, last < x ∧ x ≤ c
  | [], _, _, _ => ⟨List.Pairwise.nil, fun x hx => by cases hx⟩
  | x :: r, c, last, h => by
    unfold riseB at h
    rw [Bool.and_eq_true, Bool.and_eq_true, decide_eq_true_eq, decide_eq_true_eq] at h
    obtain ⟨h1, h2⟩ := lt_side r c x h.2
    refine ⟨List.pairwise_cons.mpr ⟨fun y hy => (h2 y hy).1, h1⟩, fun y hy => ?_⟩
    rcases List.mem_cons.mp hy with e | e
    · rw [e]; exact h.1
    · have := h2 y e
      omega
theorem weigh_mk {c : Int} {l r : List Int} (h1 : sideN l c = true) (h2 : sideN r c = true) (h3 : l.length = r.length) (h4 : ∀ x ∈ l, x ∉ r) : weighB c l r = true := by
  unfold weighB
  have h5 : (l.any fun x => decide (x ∈ r)) = false := by
    rw [List.any_eq_false]
    intro x hx q
    exact h4 x hx (of_decide_eq_true q)
  rw [h1, h2, decide_eq_true h3, h5] <;> rfl
theorem weigh_un {c : Int} {l r : List Int} (h : weighB c l r = true) : sideN l c = true ∧ sideN r c = true ∧ l.length = r.length ∧ ∀ x ∈ l, x ∉ r := by
  unfold weighB at h
  rw [Bool.and_eq_true, Bool.and_eq_true, Bool.and_eq_true, decide_eq_true_eq, Bool.not_eq_true'] at h
  obtain ⟨⟨⟨h1, h2⟩, h3⟩, h4⟩ := h
  refine ⟨h1, h2, h3, fun x hx hr => ?_⟩
  rw [List.any_eq_false] at h4
  exact h4 x hx (decide_eq_true hr)
theorem srt_lt {ns : List Int} (h : ns.Nodup) : (srt ns).Pairwise (· < ·) := by
  have h1 := srt_pair ns
  have h2 : (srt ns).Nodup := (srt_perm ns).nodup_iff.mpr h
  exact (List.pairwise_and_iff.mpr ⟨h1, h2⟩).imp fun ⟨a, b⟩ => by omega
theorem srt_mem {ns : List Int} {x : Int} : x ∈ srt ns ↔ x ∈ ns := (srt_perm ns).mem_iff
theorem srt_len (ns : List Int) : (srt ns).length = ns.length := (srt_perm ns).length_eq
/-! ### how many behind -/
def sg (m : List Nat) (c i : Nat) : Bool := decide (m.getD i 0 = c)
theorem beh_cnt (m : List Nat) (l r : List Int) (o : List Nat) (c : Nat) : (behindL m l r o).count c = cnt m.length (fun i => decide (leftover (m.getD i 0) (sideOf l r o (i : Nat)) o = c)) := by
  unfold behindL
  rw [List.count_eq_countP, List.countP_map]
  refine cnt_congr (n := m.length) fun i _ => ?_
  show (leftover (m.getD i 0) (sideOf l r o (i : Nat)) o == c) = _
  exact beq_dec _ _
/-- dn what goes down, up what goes up -/
theorem many_tilt {m : List Nat} {l r : List Int} {o : List Nat} {dn up : List Int} (ho : o ≠ tEven) (hd : (if o = tRight then r else l) = dn) (hu : (if o = tRight then l else r) = up) :
    manyN m l r o ≤ cnt m.length (fun i => inL dn i && (sg m 101 i || sg m 104 i)) + cnt m.length (fun i => inL up i && (sg m 101 i || sg m 108 i)) := by
  unfold manyN
  rw [decide_eq_false ho, Bool.false_and, if_neg Bool.false_ne_true, beh_cnt, beh_cnt, beh_cnt]
  have lo : ∀ i : Nat, leftover (m.getD i 0) (sideOf l r o (i : Nat)) o = if 0 < sideOf l r o (i : Nat) ∧ (m.getD i 0 = 101 ∨ m.getD i 0 = 104) then 104 else if sideOf l r o (i : Nat) < 0 ∧ (m.getD i 0 = 101 ∨ m.getD i 0 = 108) then 108 else 103 := fun i => by
    unfold leftover
    rw [if_neg ho]
  have sd : ∀ i : Nat, 0 < sideOf l r o (i : Nat) → inL dn i = true := fun i h => by
    unfold sideOf at h
    rw [hu, hd] at h
    unfold inL
    by_cases a : (i : Int) ∈ dn
    · exact decide_eq_true a
    · rw [if_neg a] at h
      split at h <;> omega
  have su : ∀ i : Nat, sideOf l r o (i : Nat) < 0 → inL up i = true := fun i h => by
    unfold sideOf at h
    rw [hu, hd] at h
    unfold inL
    by_cases a : (i : Int) ∈ up
    · exact decide_eq_true a
    · rw [if_neg a] at h
      split at h <;> omega
  have z0 : cnt m.length (fun i => decide (leftover (m.getD i 0) (sideOf l r o (i : Nat)) o = 101)) = 0 := cnt_false fun i _ => by
    rw [lo]
    refine decide_eq_false ?_
    split
    · decide
    · split <;> decide
  have z1 : cnt m.length (fun i => decide (leftover (m.getD i 0) (sideOf l r o (i : Nat)) o = 104)) ≤ cnt m.length (fun i => inL dn i && (sg m 101 i || sg m 104 i)) := cnt_mono fun i _ q => by
    have q := of_decide_eq_true q
    rw [lo] at q
    by_cases a : 0 < sideOf l r o (i : Nat) ∧ (m.getD i 0 = 101 ∨ m.getD i 0 = 104)
    · rw [sd i a.1, Bool.true_and]
      unfold sg
      rcases a.2 with e | e
      · rw [decide_eq_true e] <;> rfl
      · rw [decide_eq_true e, Bool.or_true]
    · rw [if_neg a] at q
      split at q <;> cases q
  have z2 : cnt m.length (fun i => decide (leftover (m.getD i 0) (sideOf l r o (i : Nat)) o = 108)) ≤ cnt m.length (fun i => inL up i && (sg m 101 i || sg m 108 i)) := cnt_mono fun i _ q => by
    have q := of_decide_eq_true q
    rw [lo] at q
    by_cases a : 0 < sideOf l r o (i : Nat) ∧ (m.getD i 0 = 101 ∨ m.getD i 0 = 104)
    · rw [if_pos a] at q
      cases q
    · rw [if_neg a] at q
      by_cases b : sideOf l r o (i : Nat) < 0 ∧ (m.getD i 0 = 101 ∨ m.getD i 0 = 108)
      · rw [su i b.1, Bool.true_and]
        unfold sg
        rcases b.2 with e | e
        · rw [decide_eq_true e] <;> rfl
        · rw [decide_eq_true e, Bool.or_true]
      · rw [if_neg b] at q
        cases q
  omega
theorem side_none {l r : List Int} {o : List Nat} {i : Nat} (ho : o ≠ tRight) : (sideOf l r o (i : Nat) = 0) ↔ (inL l i || inL r i) = false := by
  unfold sideOf inL
  rw [if_neg ho, if_neg ho]
  by_cases a : (i : Int) ∈ r
  · rw [if_pos a, decide_eq_true a, Bool.or_true]
    simp
  · rw [if_neg a, decide_eq_false a, Bool.or_false]
    by_cases b : (i : Int) ∈ l
    · rw [if_pos b, decide_eq_true b]
      simp
    · rw [if_neg b, decide_eq_false b]
      simp
theorem even_at {m : List Nat} {l r : List Int} {i : Nat} : leftover (m.getD i 0) (sideOf l r tEven (i : Nat)) tEven = if (inL l i || inL r i) = true then 103 else m.getD i 0 := by
  unfold leftover
  rw [if_pos rfl]
  by_cases h : sideOf l r tEven (i : Nat) = 0
  · rw [if_pos h, (side_none (by decide)).mp h] <;> rfl
  · have : ¬ (inL l i || inL r i) = false := fun q => h ((side_none (by decide)).mpr q)
    rw [if_neg h, if_pos (by rwa [Bool.not_eq_false] at this)]
theorem even_cnt {m : List Nat} {l r : List Int} {c : Nat} (hc : c ≠ 103) : (behindL m l r tEven).count c = cnt m.length (fun i => sg m c i && !(inL l i || inL r i)) := by
  rw [beh_cnt]
  refine cnt_congr fun i _ => ?_
  rw [even_at]
  unfold sg
  by_cases a : (inL l i || inL r i) = true
  · rw [if_pos a, a, decide_eq_false (fun q => hc q.symm)]
    simp
  · rw [if_neg a]
    have : (inL l i || inL r i) = false := by simpa using a
    rw [this]
    simp
theorem many_even {m : List Nat} {l r : List Int} : manyN m l r tEven = 2 * cnt m.length (fun i => sg m 101 i && !(inL l i || inL r i)) + cnt m.length (fun i => sg m 104 i && !(inL l i || inL r i)) + cnt m.length (fun i => sg m 108 i && !(inL l i || inL r i)) + if tiltB m then 0 else 1 := by
  unfold manyN
  rw [even_cnt (by decide), even_cnt (by decide), even_cnt (by decide), decide_eq_true rfl, Bool.true_and]
  cases tiltB m <;> rfl
end Od

namespace Od
theorem inL_app (l r : List Int) (i : Nat) : inL (l ++ r) i = (inL l i || inL r i) := by
  unfold inL
  rw [← Bool.decide_or]
  exact decide_eq_decide.mpr List.mem_append
theorem inL_of {l r : List Int} {i : Nat} (h : ∀ x : Int, x ∈ l ↔ x ∈ r) : inL l i = inL r i := decide_eq_decide.mpr (h _)
theorem inL_end {l : List Int} {n i : Nat} (h : i < n) : inL (l ++ [(n : Int)]) i = inL l i := by
  rw [inL_app]
  have e : inL [(n : Int)] i = false := decide_eq_false fun q => by
    have := List.mem_singleton.mp q
    omega
  rw [e, Bool.or_false]
theorem cnt_and {n : Nat} {l : List Int} {p : Nat → Bool} : cnt n (fun i => inL l i && p i) ≤ l.length :=
  Nat.le_trans (cnt_mono fun i _ q => (Bool.and_eq_true _ _ ▸ q : _ ∧ _).1) (cnt_len n l)
theorem pow_odd : ∀ k : Nat, 3 ^ k % 2 = 1
  | 0 => rfl
  | k + 1 => by
    rw [Nat.pow_succ]
    have := pow_odd k
    omega
theorem cut3 {α : Type} (l : List α) (a b : Nat) : l.take a ++ (l.drop a).take b = l.take (a + b) := (List.take_add).symm
theorem either_right {m : List Nat} {out : Nat} (h4 : m.count 104 = 0) (h8 : m.count 108 = 0) (ht : tiltB m = false) (hodd : out % 2 = 1) (h1 : out < 2 * m.count 101 + 1) (h2 : 2 * m.count 101 + 1 ≤ 3 * out) :
    let q := eitherL (idx 101 m) (m.length : Nat) out
    weighB (m.length : Nat) q.1 q.2 = true ∧ (∀ o ∈ outs, manyN m q.1 q.2 o ≤ out) ∧ q.1.length ≤ m.length := by
  have hE := idx_len m 101
  have hlt := idx_lt m 101
  have hmem : ∀ x ∈ idx 101 m, 0 ≤ x ∧ x < m.length ∧ m.getD x.toNat 0 = 101 := fun x hx => idx_mem hx
  have hcl : m.count 101 ≤ m.length := List.count_le_length
  unfold eitherL
  dsimp only
  rw [hE]
  generalize hmany : (2 * m.count 101 + 2 - out) / 2 = many
  generalize hhalf : (many + 1) / 2 = half
  generalize idx 101 m = E at *
  have e1 : 2 * many = 2 * m.count 101 + 1 - out := by omega
  have e2 : many ≤ m.count 101 := by omega
  have ll : (E.take half).length = half := by rw [List.length_take]; omega
  have lr : ((E.drop half).take (many - half)).length = many - half := by rw [List.length_take, List.length_drop]; omega
  have hD : E.take half ++ (E.drop half).take (many - half) = E.take many := by
    rw [cut3]
    congr 1
    omega
  have hDlt : (E.take many).Pairwise (· < ·) := hlt.sublist (List.take_sublist _ _)
  have hl1 : (E.take half).Pairwise (· < ·) := hlt.sublist (List.take_sublist _ _)
  have hr1 : ((E.drop half).take (many - half)).Pairwise (· < ·) := hlt.sublist ((List.take_sublist _ _).trans (List.drop_sublist _ _))
  have hdis : ∀ x ∈ E.take half, ∀ y ∈ (E.drop half).take (many - half), x < y := by
    rw [← hD] at hDlt
    exact (List.pairwise_append.mp hDlt).2.2
  have hlm : ∀ x ∈ E.take half, 0 ≤ x ∧ x < m.length := fun x hx => ⟨(hmem x (mem_take_of hx)).1, (hmem x (mem_take_of hx)).2.1⟩
  have hrm : ∀ x ∈ (E.drop half).take (many - half), 0 ≤ x ∧ x < m.length := fun x hx => ⟨(hmem x (mem_drop_of (mem_take_of hx))).1, (hmem x (mem_drop_of (mem_take_of hx))).2.1⟩
  -- the right side, the coin beside in it or not
  have main : ∀ r : List Int, (∀ i, i < m.length → inL r i = inL ((E.drop half).take (many - half)) i) → ∀ o ∈ outs, manyN m (E.take half) r o ≤ out := by
    intro r hr o ho
    have c1 : ∀ p : Nat → Bool, cnt m.length (fun i => inL (E.take half) i && p i) ≤ half := fun p => by
      have := cnt_and (n := m.length) (l := E.take half) (p := p)
      omega
    have c2 : ∀ p : Nat → Bool, cnt m.length (fun i => inL r i && p i) ≤ many - half := fun p => by
      have e : cnt m.length (fun i => inL r i && p i) = cnt m.length (fun i => inL ((E.drop half).take (many - half)) i && p i) := cnt_congr fun i hi => by rw [hr i hi]
      have := cnt_and (n := m.length) (l := (E.drop half).take (many - half)) (p := p)
      omega
    have ho2 : o = tLeft ∨ o = tRight ∨ o = tEven := by simpa [outs] using ho
    rcases ho2 with e | e | e
    · subst e
      have := many_tilt (m := m) (l := E.take half) (r := r) (o := tLeft) (dn := E.take half) (up := r) (by decide) (if_neg (by decide)) (if_neg (by decide))
      have a1 := c1 (fun i => sg m 101 i || sg m 104 i)
      have a2 := c2 (fun i => sg m 101 i || sg m 108 i)
      omega
    · subst e
      have := many_tilt (m := m) (l := E.take half) (r := r) (o := tRight) (dn := r) (up := E.take half) (by decide) (if_pos rfl) (if_pos rfl)
      have a1 := c2 (fun i => sg m 101 i || sg m 104 i)
      have a2 := c1 (fun i => sg m 101 i || sg m 108 i)
      omega
    · subst e
      rw [many_even, ht]
      have z4 : cnt m.length (fun i => sg m 104 i && !(inL (E.take half) i || inL r i)) = 0 := by
        have := cnt_mono (n := m.length) (p := fun i => sg m 104 i && !(inL (E.take half) i || inL r i)) (q := sg m 104) fun i _ q => (Bool.and_eq_true _ _ ▸ q : _ ∧ _).1
        rw [show cnt m.length (sg m 104) = m.count 104 from (sign_cnt m 104).symm] at this
        omega
      have z8 : cnt m.length (fun i => sg m 108 i && !(inL (E.take half) i || inL r i)) = 0 := by
        have := cnt_mono (n := m.length) (p := fun i => sg m 108 i && !(inL (E.take half) i || inL r i)) (q := sg m 108) fun i _ q => (Bool.and_eq_true _ _ ▸ q : _ ∧ _).1
        rw [show cnt m.length (sg m 108) = m.count 108 from (sign_cnt m 108).symm] at this
        omega
      have z1 := cnt_diff m.length (sg m 101) (E.take many) (lt_nodup hDlt) fun x hx => ⟨(hmem x (mem_take_of hx)).1, (hmem x (mem_take_of hx)).2.1, decide_eq_true (hmem x (mem_take_of hx)).2.2⟩
      rw [show cnt m.length (sg m 101) = m.count 101 from (sign_cnt m 101).symm] at z1
      have z2 : cnt m.length (fun i => sg m 101 i && !(inL (E.take half) i || inL r i)) = cnt m.length (fun i => sg m 101 i && !inL (E.take many) i) := cnt_congr fun i hi => by
        rw [hr i hi, ← inL_app, hD]
      have z3 : (E.take many).length = many := by rw [List.length_take]; omega
      rw [z4, z8, z2]
      simp only [Bool.false_eq_true, if_false]
      omega
  by_cases hc : ((E.drop half).take (many - half)).length < (E.take half).length
  · rw [if_pos hc]
    refine ⟨weigh_mk (side_lt hl1 fun x hx => ⟨(hlm x hx).1, Int.le_of_lt (hlm x hx).2⟩) (side_lt ?_ fun x hx => ?_) ?_ fun x hx hx2 => ?_, main _ fun i hi => inL_end hi, by omega⟩
    · exact List.pairwise_append.mpr ⟨hr1, List.pairwise_singleton _ _, fun a ha b hb => by
        rw [List.mem_singleton.mp hb]
        exact (hrm a ha).2⟩
    · rcases List.mem_append.mp hx with q | q
      · exact ⟨(hrm x q).1, Int.le_of_lt (hrm x q).2⟩
      · rw [List.mem_singleton.mp q]; omega
    · rw [List.length_append, List.length_singleton]
      omega
    · rcases List.mem_append.mp hx2 with q | q
      · have := hdis x hx x q; omega
      · have := List.mem_singleton.mp q
        have := (hlm x hx).2
        omega
  · rw [if_neg hc]
    exact ⟨weigh_mk (side_lt hl1 fun x hx => ⟨(hlm x hx).1, Int.le_of_lt (hlm x hx).2⟩) (side_lt hr1 fun x hx => ⟨(hrm x hx).1, Int.le_of_lt (hrm x hx).2⟩) (by omega) fun x hx hx2 => by have := hdis x hx x hx2; omega, main _ fun i _ => rfl, by omega⟩
end Od

namespace Od
theorem cnt_sub {n : Nat} {p : Nat → Bool} {l : List Int} (h : ∀ i, i < n → p i = true → inL l i = true) : cnt n p ≤ l.length := Nat.le_trans (cnt_mono h) (cnt_len n l)
theorem inL_iff {l : List Int} {i : Nat} : inL l i = true ↔ (i : Int) ∈ l := ⟨fun h => of_decide_eq_true h, fun h => decide_eq_true h⟩
theorem sg_or {m : List Nat} {a b i : Nat} (h : (sg m a i || sg m b i) = true) : m.getD i 0 = a ∨ m.getD i 0 = b := by
  rw [Bool.or_eq_true] at h
  rcases h with h | h
  · exact .inl (of_decide_eq_true h)
  · exact .inr (of_decide_eq_true h)
theorem tilted_right {m : List Nat} {out : Nat} (h1 : m.count 101 = 0) (ht : tiltB m = true) (hodd : out % 2 = 1) (g1 : out < m.count 104 + m.count 108) (g2 : m.count 104 + m.count 108 ≤ 3 * out) :
    let q := tiltedL (idx 104 m) (idx 108 m) (m.length : Nat) out
    weighB (m.length : Nat) q.1 q.2 = true ∧ (∀ o ∈ outs, manyN m q.1 q.2 o ≤ out) ∧ q.1.length ≤ m.length := by
  have eH := idx_len m 104
  have eL := idx_len m 108
  have ltH := idx_lt m 104
  have ltL := idx_lt m 108
  have mH : ∀ x ∈ idx 104 m, 0 ≤ x ∧ x < m.length ∧ m.getD x.toNat 0 = 104 := fun x hx => idx_mem hx
  have mL : ∀ x ∈ idx 108 m, 0 ≤ x ∧ x < m.length ∧ m.getD x.toNat 0 = 108 := fun x hx => idx_mem hx
  have cl4 : m.count 104 ≤ m.length := List.count_le_length
  have cl8 : m.count 108 ≤ m.length := List.count_le_length
  have n1 : ∀ i, i < m.length → m.getD i 0 ≠ 101 := fun i hi q => by
    have z := cnt_one m.length i (sg m 101) (decide_eq_true q) hi
    rw [show cnt m.length (sg m 101) = m.count 101 from (sign_cnt m 101).symm] at z
    omega
  have k4 : ∀ i : Nat, (i : Int) ∈ idx 104 m → m.getD i 0 = 104 := fun i h => by
    have := (mH _ h).2.2
    rwa [Int.toNat_natCast] at this
  have k8 : ∀ i : Nat, (i : Int) ∈ idx 108 m → m.getD i 0 = 108 := fun i h => by
    have := (mL _ h).2.2
    rwa [Int.toNat_natCast] at this
  have z101 : ∀ p : Nat → Bool, cnt m.length (fun i => sg m 101 i && p i) = 0 := fun p => cnt_false fun i hi => by
    have : sg m 101 i = false := decide_eq_false (n1 i hi)
    rw [this, Bool.false_and]
  unfold tiltedL
  dsimp only
  rw [eH, eL]
  generalize hdue : (m.count 104 + m.count 108 + 1 - out) / 2 = due
  generalize hf : min due (m.count 104 / 2) = first
  generalize hs : min (due - first) (m.count 108 / 2) = second
  generalize idx 104 m = Hh at *
  generalize idx 108 m = Ll at *
  by_cases hc : first + second < due
  · rw [if_pos hc]
    have o1 : out = 1 := by omega
    have c4 : m.count 104 = 1 := by omega
    have c8 : m.count 108 = 1 := by omega
    have ln : (Hh.take 1).length = 1 := by rw [List.length_take]; omega
    have hm1 : ∀ x ∈ Hh.take 1, 0 ≤ x ∧ x < m.length := fun x hx => ⟨(mH x (mem_take_of hx)).1, (mH x (mem_take_of hx)).2.1⟩
    have zn : ∀ p : Nat → Bool, cnt m.length (fun i => inL [(m.length : Int)] i && p i) = 0 := fun p => cnt_false fun i hi => by
      have : inL [(m.length : Int)] i = false := decide_eq_false fun q => by
        have := List.mem_singleton.mp q
        omega
      rw [this, Bool.false_and]
    have zl : ∀ p : Nat → Bool, cnt m.length (fun i => inL (Hh.take 1) i && p i) ≤ 1 := fun p => by
      have := cnt_and (n := m.length) (l := Hh.take 1) (p := p)
      omega
    refine ⟨weigh_mk (side_lt (ltH.sublist (List.take_sublist _ _)) fun x hx => ⟨(hm1 x hx).1, Int.le_of_lt (hm1 x hx).2⟩) (side_lt (List.pairwise_singleton _ _) fun x hx => ?_) (by rw [ln]; rfl) fun x hx hx2 => ?_, fun o ho => ?_, by show (Hh.take 1).length ≤ _; omega⟩
    · rw [List.mem_singleton.mp hx]; omega
    · have a := List.mem_singleton.mp hx2
      have b := (hm1 x hx).2
      omega
    · show manyN m (Hh.take 1) [(m.length : Int)] o ≤ out
      have ho2 : o = tLeft ∨ o = tRight ∨ o = tEven := by simpa [outs] using ho
      rcases ho2 with e | e | e
      · subst e
        have := many_tilt (m := m) (l := Hh.take 1) (r := [(m.length : Int)]) (o := tLeft) (dn := Hh.take 1) (up := [(m.length : Int)]) (by decide) (if_neg (by decide)) (if_neg (by decide))
        have a1 := zl (fun i => sg m 101 i || sg m 104 i)
        have a2 := zn (fun i => sg m 101 i || sg m 108 i)
        omega
      · subst e
        have := many_tilt (m := m) (l := Hh.take 1) (r := [(m.length : Int)]) (o := tRight) (dn := [(m.length : Int)]) (up := Hh.take 1) (by decide) (if_pos rfl) (if_pos rfl)
        have a1 := zl (fun i => sg m 101 i || sg m 108 i)
        have a2 := zn (fun i => sg m 101 i || sg m 104 i)
        omega
      · subst e
        rw [many_even, z101, ht]
        have a1 : cnt m.length (fun i => sg m 104 i && !(inL (Hh.take 1) i || inL [(m.length : Int)] i)) ≤ cnt m.length (fun i => sg m 104 i && !inL (Hh.take 1) i) := cnt_mono fun i _ q => by
          cases a : inL (Hh.take 1) i <;> cases b : inL [(m.length : Int)] i <;> cases c : sg m 104 i <;> simp_all
        have a2 := cnt_diff m.length (sg m 104) (Hh.take 1) (lt_nodup (ltH.sublist (List.take_sublist _ _))) fun x hx => ⟨(hm1 x hx).1, (hm1 x hx).2, decide_eq_true (mH x (mem_take_of hx)).2.2⟩
        rw [show cnt m.length (sg m 104) = m.count 104 from (sign_cnt m 104).symm] at a2
        have a3 := cnt_mono (n := m.length) (p := fun i => sg m 108 i && !(inL (Hh.take 1) i || inL [(m.length : Int)] i)) (q := sg m 108) fun i _ q => (Bool.and_eq_true _ _ ▸ q : _ ∧ _).1
        rw [show cnt m.length (sg m 108) = m.count 108 from (sign_cnt m 108).symm] at a3
        simp only [if_true]
        omega
  · rw [if_neg hc]
    have b1 : first + second = due := by omega
    have b2 : 2 * first ≤ m.count 104 := by omega
    have b3 : 2 * second ≤ m.count 108 := by omega
    have dH : Hh.take first ++ (Hh.drop first).take first = Hh.take (2 * first) := by
      rw [cut3]; congr 1; omega
    have dL : Ll.take second ++ (Ll.drop second).take second = Ll.take (2 * second) := by
      rw [cut3]; congr 1; omega
    have pH : (Hh.take (2 * first)).Pairwise (· < ·) := ltH.sublist (List.take_sublist _ _)
    have pL : (Ll.take (2 * second)).Pairwise (· < ·) := ltL.sublist (List.take_sublist _ _)
    have xH : ∀ x ∈ Hh.take first, ∀ y ∈ (Hh.drop first).take first, x < y := by
      have z := pH
      rw [← dH] at z
      exact (List.pairwise_append.mp z).2.2
    have xL : ∀ x ∈ Ll.take second, ∀ y ∈ (Ll.drop second).take second, x < y := by
      have z := pL
      rw [← dL] at z
      exact (List.pairwise_append.mp z).2.2
    have HL : ∀ x ∈ Hh, ∀ y ∈ Ll, x ≠ y := fun x hx y hy e => by
      have a := (mH x hx).2.2
      have b := (mL y hy).2.2
      rw [e] at a
      omega
    have h1m : ∀ x ∈ Hh.take first, x ∈ Hh := fun x hx => mem_take_of hx
    have h2m : ∀ x ∈ (Hh.drop first).take first, x ∈ Hh := fun x hx => mem_drop_of (mem_take_of hx)
    have l1m : ∀ x ∈ Ll.take second, x ∈ Ll := fun x hx => mem_take_of hx
    have l2m : ∀ x ∈ (Ll.drop second).take second, x ∈ Ll := fun x hx => mem_drop_of (mem_take_of hx)
    have ln1 : (Hh.take first).length = first := by rw [List.length_take]; omega
    have ln2 : ((Hh.drop first).take first).length = first := by rw [List.length_take, List.length_drop]; omega
    have ln3 : (Ll.take second).length = second := by rw [List.length_take]; omega
    have ln4 : ((Ll.drop second).take second).length = second := by rw [List.length_take, List.length_drop]; omega
    have ndl : (Hh.take first ++ Ll.take second).Nodup := List.nodup_append.mpr ⟨lt_nodup (ltH.sublist (List.take_sublist _ _)), lt_nodup (ltL.sublist (List.take_sublist _ _)), fun x hx y hy => HL x (h1m x hx) y (l1m y hy)⟩
    have ndr : ((Hh.drop first).take first ++ (Ll.drop second).take second).Nodup := List.nodup_append.mpr ⟨lt_nodup (ltH.sublist ((List.take_sublist _ _).trans (List.drop_sublist _ _))), lt_nodup (ltL.sublist ((List.take_sublist _ _).trans (List.drop_sublist _ _))), fun x hx y hy => HL x (h2m x hx) y (l2m y hy)⟩
    generalize Hh.take first = A1 at *
    generalize (Hh.drop first).take first = A2 at *
    generalize Ll.take second = B1 at *
    generalize (Ll.drop second).take second = B2 at *
    have rng : ∀ x, x ∈ Hh ∨ x ∈ Ll → 0 ≤ x ∧ x ≤ (m.length : Int) := fun x hx => by
      rcases hx with q | q
      · have := mH x q; omega
      · have := mL x q; omega
    have meml : ∀ x, x ∈ srt (A1 ++ B1) ↔ x ∈ A1 ∨ x ∈ B1 := fun x => srt_mem.trans List.mem_append
    have memr : ∀ x, x ∈ srt (A2 ++ B2) ↔ x ∈ A2 ∨ x ∈ B2 := fun x => srt_mem.trans List.mem_append
    have p1 : ∀ i, i < m.length → (inL (srt (A1 ++ B1)) i && (sg m 101 i || sg m 104 i)) = true → inL A1 i = true := fun i hi q => by
      rw [Bool.and_eq_true] at q
      rcases (meml _).mp (inL_iff.mp q.1) with a | a
      · exact inL_iff.mpr a
      · have e := k8 i (l1m _ a)
        rcases sg_or q.2 with b | b <;> omega
    have p2 : ∀ i, i < m.length → (inL (srt (A2 ++ B2)) i && (sg m 101 i || sg m 104 i)) = true → inL A2 i = true := fun i hi q => by
      rw [Bool.and_eq_true] at q
      rcases (memr _).mp (inL_iff.mp q.1) with a | a
      · exact inL_iff.mpr a
      · have e := k8 i (l2m _ a)
        rcases sg_or q.2 with b | b <;> omega
    have p3 : ∀ i, i < m.length → (inL (srt (A1 ++ B1)) i && (sg m 101 i || sg m 108 i)) = true → inL B1 i = true := fun i hi q => by
      rw [Bool.and_eq_true] at q
      rcases (meml _).mp (inL_iff.mp q.1) with a | a
      · have e := k4 i (h1m _ a)
        rcases sg_or q.2 with b | b <;> omega
      · exact inL_iff.mpr a
    have p4 : ∀ i, i < m.length → (inL (srt (A2 ++ B2)) i && (sg m 101 i || sg m 108 i)) = true → inL B2 i = true := fun i hi q => by
      rw [Bool.and_eq_true] at q
      rcases (memr _).mp (inL_iff.mp q.1) with a | a
      · have e := k4 i (h2m _ a)
        rcases sg_or q.2 with b | b <;> omega
      · exact inL_iff.mpr a
    refine ⟨weigh_mk (side_lt (srt_lt ndl) fun x hx => rng x ?_) (side_lt (srt_lt ndr) fun x hx => rng x ?_) (by show (srt _).length = (srt _).length; rw [srt_len, srt_len, List.length_append, List.length_append]; omega) fun x hx hx2 => ?_, fun o ho => ?_, by show (srt _).length ≤ _; rw [srt_len, List.length_append]; omega⟩
    · rcases (meml x).mp hx with q | q
      · exact .inl (h1m x q)
      · exact .inr (l1m x q)
    · rcases (memr x).mp hx with q | q
      · exact .inl (h2m x q)
      · exact .inr (l2m x q)
    · rcases (meml x).mp hx with q | q <;> rcases (memr x).mp hx2 with q2 | q2
      · have := xH x q x q2; omega
      · exact HL x (h1m x q) x (l2m x q2) rfl
      · exact HL x (h2m x q2) x (l1m x q) rfl
      · have := xL x q x q2; omega
    · show manyN m (srt (A1 ++ B1)) (srt (A2 ++ B2)) o ≤ out
      have ho2 : o = tLeft ∨ o = tRight ∨ o = tEven := by simpa [outs] using ho
      rcases ho2 with e | e | e
      · subst e
        have := many_tilt (m := m) (l := srt (A1 ++ B1)) (r := srt (A2 ++ B2)) (o := tLeft) (dn := srt (A1 ++ B1)) (up := srt (A2 ++ B2)) (by decide) (if_neg (by decide)) (if_neg (by decide))
        have a1 := cnt_sub p1
        have a2 := cnt_sub p4
        omega
      · subst e
        have := many_tilt (m := m) (l := srt (A1 ++ B1)) (r := srt (A2 ++ B2)) (o := tRight) (dn := srt (A2 ++ B2)) (up := srt (A1 ++ B1)) (by decide) (if_pos rfl) (if_pos rfl)
        have a1 := cnt_sub p2
        have a2 := cnt_sub p3
        omega
      · subst e
        rw [many_even, z101, ht]
        have a1 : cnt m.length (fun i => sg m 104 i && !(inL (srt (A1 ++ B1)) i || inL (srt (A2 ++ B2)) i)) ≤ cnt m.length (fun i => sg m 104 i && !inL (Hh.take (2 * first)) i) := cnt_mono fun i hi q => by
          rw [Bool.and_eq_true, Bool.not_eq_true', Bool.or_eq_false_iff] at q
          rw [Bool.and_eq_true, Bool.not_eq_true']
          refine ⟨q.1, ?_⟩
          rw [← dH, inL_app, Bool.or_eq_false_iff]
          refine ⟨decide_eq_false fun a => ?_, decide_eq_false fun a => ?_⟩
          · have := inL_iff.mpr ((meml _).mpr (.inl a)); rw [q.2.1] at this; cases this
          · have := inL_iff.mpr ((memr _).mpr (.inl a)); rw [q.2.2] at this; cases this
        have a2 : cnt m.length (fun i => sg m 108 i && !(inL (srt (A1 ++ B1)) i || inL (srt (A2 ++ B2)) i)) ≤ cnt m.length (fun i => sg m 108 i && !inL (Ll.take (2 * second)) i) := cnt_mono fun i hi q => by
          rw [Bool.and_eq_true, Bool.not_eq_true', Bool.or_eq_false_iff] at q
          rw [Bool.and_eq_true, Bool.not_eq_true']
          refine ⟨q.1, ?_⟩
          rw [← dL, inL_app, Bool.or_eq_false_iff]
          refine ⟨decide_eq_false fun a => ?_, decide_eq_false fun a => ?_⟩
          · have := inL_iff.mpr ((meml _).mpr (.inr a)); rw [q.2.1] at this; cases this
          · have := inL_iff.mpr ((memr _).mpr (.inr a)); rw [q.2.2] at this; cases this
        have a3 := cnt_diff m.length (sg m 104) (Hh.take (2 * first)) (lt_nodup pH) fun x hx => ⟨(mH x (mem_take_of hx)).1, (mH x (mem_take_of hx)).2.1, decide_eq_true (mH x (mem_take_of hx)).2.2⟩
        have a4 := cnt_diff m.length (sg m 108) (Ll.take (2 * second)) (lt_nodup pL) fun x hx => ⟨(mL x (mem_take_of hx)).1, (mL x (mem_take_of hx)).2.1, decide_eq_true (mL x (mem_take_of hx)).2.2⟩
        rw [show cnt m.length (sg m 104) = m.count 104 from (sign_cnt m 104).symm] at a3
        rw [show cnt m.length (sg m 108) = m.count 108 from (sign_cnt m 108).symm] at a4
        have a5 : (Hh.take (2 * first)).length = 2 * first := by rw [List.length_take]; omega
        have a6 : (Ll.take (2 * second)).length = 2 * second := by rw [List.length_take]; omega
        simp only [if_true]
        omega
/-! ### what is told is right -/
theorem tilt_cnt {m : List Nat} : tiltB m = false ↔ m.count 104 = 0 ∧ m.count 108 = 0 := by
  unfold tiltB
  rw [Bool.or_eq_false_iff, decide_eq_false_iff_not, decide_eq_false_iff_not, ← List.count_eq_zero, ← List.count_eq_zero]
theorem marks_tilt {m : List Nat} (hm : marksB m = true) (ht : tiltB m = true) : m.count 101 = 0 := by
  unfold marksB at hm
  unfold tiltB at ht
  rw [ht, Bool.and_true, Bool.and_eq_true, Bool.not_eq_true', decide_eq_false_iff_not] at hm
  exact List.count_eq_zero.mpr hm.2
theorem told_right {m : List Nat} (hm : marksB m = true) (hc : 1 < casesN m) :
    weighB (m.length : Nat) (pairL m).1 (pairL m).2 = true ∧ (∀ o ∈ outs, manyN m (pairL m).1 (pairL m).2 o ≤ 3 ^ (wf (casesN m) - 1)) ∧ (pairL m).1.length ≤ m.length := by
  have w1 : 0 < wf (casesN m) := by
    have := wf_le 0 (casesN m)
    omega
  have w2 : casesN m ≤ 3 * 3 ^ (wf (casesN m) - 1) := by
    have := (wf_le (wf (casesN m)) (casesN m)).mpr (Nat.le_refl _)
    have e : wf (casesN m) = wf (casesN m) - 1 + 1 := by omega
    rw [e, Nat.pow_succ] at this
    omega
  have w3 : 3 ^ (wf (casesN m) - 1) < casesN m := (wf_gt _ _).mpr (by omega)
  have odd := pow_odd (wf (casesN m) - 1)
  unfold pairL
  generalize 3 ^ (wf (casesN m) - 1) = out at *
  have e4 := idx_len m 104
  have e8 := idx_len m 108
  cases ht : tiltB m with
  | false =>
    obtain ⟨c4, c8⟩ := tilt_cnt.mp ht
    have z4 : idx 104 m = [] := List.length_eq_zero_iff.mp (by omega)
    have z8 : idx 108 m = [] := List.length_eq_zero_iff.mp (by omega)
    have ec : casesN m = 2 * m.count 101 + 1 := by
      unfold casesN
      rw [ht, c4, c8]
      rfl
    rw [if_pos (by rw [z4, z8] <;> rfl)]
    exact either_right c4 c8 ht odd (by omega) (by omega)
  | true =>
    have c1 := marks_tilt hm ht
    have ec : casesN m = m.count 104 + m.count 108 := by
      unfold casesN
      rw [ht, c1]
      simp
    rw [if_neg fun q => by
      have := congrArg List.length q
      rw [List.length_append, List.length_nil] at this
      omega]
    exact tilted_right c1 ht odd (by omega) (by omega)
end Od

namespace Od
/-! ## one odd coin, or none, by weighing after weighing: plain -/
def oddIn (m : List Nat) (odd : Int) (hv : Bool) : Bool := if odd < 0 then !tiltB m else decide (m.getD odd.toNat 0 = 101) || decide (m.getD odd.toNat 0 = if hv then 104 else 108)
def outc (l r : List Int) (odd : Int) (hv : Bool) : List Nat := if odd ∈ l then (if hv then tLeft else tRight) else if odd ∈ r then (if hv then tRight else tLeft) else tEven
theorem beh_len (m : List Nat) (l r : List Int) (o : List Nat) : (behindL m l r o).length = m.length := by
  unfold behindL
  rw [List.length_map, List.length_range]
theorem beh_get {m : List Nat} {l r : List Int} {o : List Nat} {i : Nat} (h : i < m.length) : (behindL m l r o).getD i 0 = leftover (m.getD i 0) (sideOf l r o (i : Nat)) o := by
  unfold behindL
  rw [List.getD_eq_getElem?_getD, List.getElem?_map, List.getElem?_range h]
  rfl
theorem get_mem {m : List Nat} {i : Nat} (h : i < m.length) : m.getD i 0 ∈ m := by
  rw [List.getD_eq_getElem?_getD, List.getElem?_eq_getElem h]
  exact List.getElem_mem h
theorem beh_mem {m : List Nat} {l r : List Int} {o : List Nat} {c : Nat} (h : c ∈ behindL m l r o) : ∃ d ∈ m, ∃ z, c = leftover d z o := by
  unfold behindL at h
  obtain ⟨i, hi, rfl⟩ := List.mem_map.mp h
  exact ⟨_, get_mem (List.mem_range.mp hi), _, rfl⟩
theorem left_even {d : Nat} {z : Int} : leftover d z tEven = d ∨ leftover d z tEven = 103 := by
  unfold leftover
  rw [if_pos rfl]
  split
  · exact .inl rfl
  · exact .inr rfl
theorem left_side {d : Nat} {z : Int} {o : List Nat} (ho : o ≠ tEven) : leftover d z o = 104 ∨ leftover d z o = 108 ∨ leftover d z o = 103 := by
  unfold leftover
  rw [if_neg ho]
  split
  · exact .inl rfl
  · split
    · exact .inr (.inl rfl)
    · exact .inr (.inr rfl)
theorem marks_un {m : List Nat} (h : marksB m = true) : (∀ c ∈ m, c = 101 ∨ c = 104 ∨ c = 108 ∨ c = 103) ∧ (101 ∈ m → ¬ 104 ∈ m ∧ ¬ 108 ∈ m) := by
  unfold marksB at h
  rw [Bool.and_eq_true, List.all_eq_true, Bool.not_eq_true'] at h
  refine ⟨fun c hc => by simpa using of_decide_eq_true (h.1 c hc), fun e => ?_⟩
  have q := h.2
  rw [decide_eq_true e, Bool.true_and, Bool.or_eq_false_iff, decide_eq_false_iff_not, decide_eq_false_iff_not] at q
  exact q
theorem marks_mk {m : List Nat} (h1 : ∀ c ∈ m, c = 101 ∨ c = 104 ∨ c = 108 ∨ c = 103) (h2 : 101 ∈ m → ¬ 104 ∈ m ∧ ¬ 108 ∈ m) : marksB m = true := by
  unfold marksB
  rw [Bool.and_eq_true, List.all_eq_true, Bool.not_eq_true']
  refine ⟨fun c hc => decide_eq_true (by simpa using h1 c hc), ?_⟩
  by_cases e : 101 ∈ m
  · obtain ⟨a, b⟩ := h2 e
    rw [decide_eq_false a, decide_eq_false b]
    simp
  · rw [decide_eq_false e] <;> rfl
theorem beh_marks {m : List Nat} {l r : List Int} {o : List Nat} (hm : marksB m = true) : marksB (behindL m l r o) = true := by
  obtain ⟨h1, h2⟩ := marks_un hm
  by_cases ho : o = tEven
  · subst ho
    have back : ∀ c ∈ behindL m l r tEven, c ≠ 103 → c ∈ m := fun c hc n => by
      obtain ⟨d, hd, z, rfl⟩ := beh_mem hc
      rcases left_even (d := d) (z := z) with e | e
      · rw [e]; exact hd
      · exact absurd e n
    refine marks_mk (fun c hc => ?_) fun e => ?_
    · by_cases n : c = 103
      · exact .inr (.inr (.inr n))
      · exact h1 c (back c hc n)
    · obtain ⟨a, b⟩ := h2 (back _ e (by decide))
      exact ⟨fun q => a (back _ q (by decide)), fun q => b (back _ q (by decide))⟩
  · have no : ∀ c ∈ behindL m l r o, c = 104 ∨ c = 108 ∨ c = 103 := fun c hc => by
      obtain ⟨d, hd, z, rfl⟩ := beh_mem hc
      exact left_side ho
    refine marks_mk (fun c hc => .inr (no c hc)) fun e => ?_
    rcases no _ e with q | q | q <;> cases q
theorem beh_cases {m : List Nat} {l r : List Int} {o : List Nat} (hm : marksB m = true) : casesN (behindL m l r o) ≤ max 1 (manyN m l r o) := by
  unfold casesN manyN
  cases ht : tiltB (behindL m l r o) with
  | true =>
    simp only [if_true]
    omega
  | false =>
    obtain ⟨c4, c8⟩ := tilt_cnt.mp ht
    by_cases ho : o = tEven
    · cases hm2 : tiltB m with
      | false =>
        rw [decide_eq_true ho]
        simp only [Bool.not_false, Bool.and_true, if_true, Bool.false_eq_true, if_false]
        omega
      | true =>
        have c1 := List.count_eq_zero.mp (marks_tilt hm hm2)
        have d1 : (behindL m l r o).count 101 = 0 := List.count_eq_zero.mpr fun q => by
          obtain ⟨d, hd, z, e⟩ := beh_mem q
          subst ho
          rcases left_even (d := d) (z := z) with a | a
          · rw [a] at e; rw [← e] at hd; exact c1 hd
          · rw [a] at e; cases e
        rw [c4, c8, d1]
        simp only [Bool.false_eq_true, if_false]
        omega
    · have d1 : (behindL m l r o).count 101 = 0 := List.count_eq_zero.mpr fun q => by
        obtain ⟨d, hd, z, e⟩ := beh_mem q
        rcases left_side (d := d) (z := z) ho with a | a | a <;> (rw [a] at e; cases e)
      rw [c4, c8, d1]
      simp only [Bool.false_eq_true, if_false]
      omega
theorem pos_many {m : List Nat} {l r : List Int} {o : List Nat} {c : Nat} (h : c ∈ behindL m l r o) (hc : c = 101 ∨ c = 104 ∨ c = 108) : 1 ≤ manyN m l r o := by
  have := List.count_pos_iff.mpr h
  unfold manyN
  rcases hc with e | e | e <;> (subst e; omega)
theorem side_lr {l r : List Int} {o : List Nat} (ho : o ≠ tRight) (i : Int) : sideOf l r o i = if i ∈ r then -1 else if i ∈ l then 1 else 0 := by
  unfold sideOf
  rw [if_neg ho, if_neg ho]
theorem side_rl {l r : List Int} (i : Int) : sideOf l r tRight i = if i ∈ l then -1 else if i ∈ r then 1 else 0 := rfl
theorem led_step {m : List Nat} {l r : List Int} {odd : Int} {hv : Bool} (hw : weighB (m.length : Nat) l r = true) (h1 : -1 ≤ odd) (h2 : odd < m.length) (hi : oddIn m odd hv = true) :
    outc l r odd hv ∈ outs ∧ oddIn (behindL m l r (outc l r odd hv)) odd hv = true ∧ 1 ≤ manyN m l r (outc l r odd hv) := by
  obtain ⟨s1, s2, s3, s4⟩ := weigh_un hw
  have q1 : ∀ x ∈ l, 0 ≤ x := fun x hx => by have := (lt_side l _ _ s1).2 x hx; omega
  have q2 : ∀ x ∈ r, 0 ≤ x := fun x hx => by have := (lt_side r _ _ s2).2 x hx; omega
  have mem : outc l r odd hv ∈ outs := by
    unfold outc
    split
    · cases hv <;> decide
    · split
      · cases hv <;> decide
      · decide
  refine ⟨mem, ?_⟩
  by_cases neg : odd < 0
  · have n1 : odd ∉ l := fun q => by have := q1 _ q; omega
    have n2 : odd ∉ r := fun q => by have := q2 _ q; omega
    have eo : outc l r odd hv = tEven := by
      unfold outc
      rw [if_neg n1, if_neg n2]
    rw [eo]
    unfold oddIn at hi ⊢
    rw [if_pos neg] at hi ⊢
    rw [Bool.not_eq_true'] at hi
    obtain ⟨a, b⟩ := tilt_cnt.mp hi
    have back : ∀ c ∈ behindL m l r tEven, c ≠ 103 → c ∈ m := fun c hc n => by
      obtain ⟨d, hd, z, rfl⟩ := beh_mem hc
      rcases left_even (d := d) (z := z) with e | e
      · rw [e]; exact hd
      · exact absurd e n
    refine ⟨?_, ?_⟩
    · rw [Bool.not_eq_true']
      exact tilt_cnt.mpr ⟨List.count_eq_zero.mpr fun q => List.count_eq_zero.mp a (back _ q (by decide)), List.count_eq_zero.mpr fun q => List.count_eq_zero.mp b (back _ q (by decide))⟩
    · unfold manyN
      rw [hi]
      simp
  · have hi2 : m.getD odd.toNat 0 = 101 ∨ m.getD odd.toNat 0 = if hv then 104 else 108 := by
      unfold oddIn at hi
      rw [if_neg neg, Bool.or_eq_true, decide_eq_true_eq, decide_eq_true_eq] at hi
      exact hi
    have hk : odd.toNat < m.length := by omega
    have ek : ((odd.toNat : Nat) : Int) = odd := by omega
    have goal : leftover (m.getD odd.toNat 0) (sideOf l r (outc l r odd hv) odd) (outc l r odd hv) = 101 ∨ leftover (m.getD odd.toNat 0) (sideOf l r (outc l r odd hv) odd) (outc l r odd hv) = if hv then 104 else 108 := by
      by_cases a : odd ∈ l
      · have b : odd ∉ r := s4 _ a
        cases hv with
        | true =>
          have eo : outc l r odd true = tLeft := by unfold outc; rw [if_pos a]; rfl
          rw [eo]
          have es : sideOf l r tLeft odd = 1 := by rw [side_lr (by decide), if_neg b, if_pos a]
          rw [es]
          unfold leftover
          rw [if_neg (by decide), if_pos ⟨by decide, by simpa using hi2⟩]
          exact .inr rfl
        | false =>
          have eo : outc l r odd false = tRight := by unfold outc; rw [if_pos a]; rfl
          rw [eo]
          have es : sideOf l r tRight odd = -1 := by rw [side_rl, if_pos a]
          rw [es]
          unfold leftover
          rw [if_neg (by decide), if_neg (by simp), if_pos ⟨by decide, by simpa using hi2⟩]
          exact .inr rfl
      · by_cases b : odd ∈ r
        · cases hv with
          | true =>
            have eo : outc l r odd true = tRight := by unfold outc; rw [if_neg a, if_pos b]; rfl
            rw [eo]
            have es : sideOf l r tRight odd = 1 := by rw [side_rl, if_neg a, if_pos b]
            rw [es]
            unfold leftover
            rw [if_neg (by decide), if_pos ⟨by decide, by simpa using hi2⟩]
            exact .inr rfl
          | false =>
            have eo : outc l r odd false = tLeft := by unfold outc; rw [if_neg a, if_pos b]; rfl
            rw [eo]
            have es : sideOf l r tLeft odd = -1 := by rw [side_lr (by decide), if_pos b]
            rw [es]
            unfold leftover
            rw [if_neg (by decide), if_neg (by simp), if_pos ⟨by decide, by simpa using hi2⟩]
            exact .inr rfl
        · have eo : outc l r odd hv = tEven := by unfold outc; rw [if_neg a, if_neg b]
          rw [eo]
          have es : sideOf l r tEven odd = 0 := by rw [side_lr (by decide), if_neg b, if_neg a]
          rw [es]
          unfold leftover
          rw [if_pos rfl, if_pos rfl]
          exact hi2
    have got := beh_get (l := l) (r := r) (o := outc l r odd hv) hk
    rw [ek] at got
    rw [← got] at goal
    refine ⟨?_, ?_⟩
    · unfold oddIn
      rw [if_neg neg, Bool.or_eq_true, decide_eq_true_eq, decide_eq_true_eq]
      exact goal
    · refine pos_many (get_mem (by rw [beh_len]; exact hk)) ?_
      rcases goal with e | e
      · exact .inl e
      · cases hv with
        | true => exact .inr (.inl e)
        | false => exact .inr (.inr e)
theorem one_list {l : List Int} {x : Int} (h1 : l.length = 1) (h2 : x ∈ l) : l = [x] := by
  match l, h1 with
  | [y], _ => rw [List.mem_singleton.mp h2]
theorem led_done {m : List Nat} {odd : Int} {hv : Bool} (h1 : -1 ≤ odd) (h2 : odd < m.length) (hi : oddIn m odd hv = true) (hc : casesN m ≤ 1) :
    toldA m = if odd < 0 then .nothing else if hv then .heavy odd else .light odd := by
  unfold toldA
  rw [if_neg (by omega)]
  have e4 := idx_len m 104
  have e8 := idx_len m 108
  by_cases neg : odd < 0
  · rw [if_pos neg]
    unfold oddIn at hi
    rw [if_pos neg, Bool.not_eq_true'] at hi
    obtain ⟨a, b⟩ := tilt_cnt.mp hi
    have z4 : idx 104 m = [] := List.length_eq_zero_iff.mp (by omega)
    have z8 : idx 108 m = [] := List.length_eq_zero_iff.mp (by omega)
    rw [z4, z8]
  · rw [if_neg neg]
    have hk : odd.toNat < m.length := by omega
    have ek : ((odd.toNat : Nat) : Int) = odd := by omega
    have hi2 : m.getD odd.toNat 0 = 101 ∨ m.getD odd.toNat 0 = if hv then 104 else 108 := by
      unfold oddIn at hi
      rw [if_neg neg, Bool.or_eq_true, decide_eq_true_eq, decide_eq_true_eq] at hi
      exact hi
    have gm := get_mem hk
    have hc2 : 2 * m.count 101 + m.count 104 + m.count 108 ≤ 1 := by
      unfold casesN at hc
      omega
    rcases hi2 with e | e
    · rw [e] at gm
      have := List.count_pos_iff.mpr gm
      omega
    · rw [e] at gm
      cases hv with
      | true =>
        have c4 : 0 < m.count 104 := List.count_pos_iff.mpr gm
        have z : idx 104 m = [odd] := one_list (by omega) (by have := mem_idx hk e; rwa [ek] at this)
        rw [z]
        rfl
      | false =>
        have c8 : 0 < m.count 108 := List.count_pos_iff.mpr gm
        have z4 : idx 104 m = [] := List.length_eq_zero_iff.mp (by omega)
        have z : idx 108 m = [odd] := one_list (by omega) (by have := mem_idx hk e; rwa [ek] at this)
        rw [z4, z]
        rfl
/-- the start -/
def allE (n : Nat) : List Nat := List.replicate n 101
theorem allE_no {n c : Nat} (h : c ≠ 101) : c ∉ allE n := fun q => h (List.eq_of_mem_replicate q)
theorem allE_marks (n : Nat) : marksB (allE n) = true := marks_mk (fun c hc => .inl (List.eq_of_mem_replicate hc)) fun _ => ⟨allE_no (by decide), allE_no (by decide)⟩
theorem allE_tilt (n : Nat) : tiltB (allE n) = false := tilt_cnt.mpr ⟨List.count_eq_zero.mpr (allE_no (by decide)), List.count_eq_zero.mpr (allE_no (by decide))⟩
theorem allE_odd {n : Nat} {odd : Int} {hv : Bool} (h1 : -1 ≤ odd) (h2 : odd < n) : oddIn (allE n) odd hv = true := by
  unfold oddIn
  by_cases neg : odd < 0
  · rw [if_pos neg, allE_tilt] <;> rfl
  · rw [if_neg neg, Bool.or_eq_true]
    left
    refine decide_eq_true ?_
    unfold allE
    rw [List.getD_eq_getElem?_getD, List.getElem?_replicate, if_pos (by omega)]
    rfl
end Od

namespace Od
open PySem PySem.Spec PyProof.Rows L2 SX Evl
section
variable {K : PySem.W.Frag} {σ : L2.St} {H : Hp} {D : Ends} {tu tz : TS} {xs : List V}
/-- for i, x in enumerate(list) -/
theorem go_forEL {a : Addr} {tl : TA} {j1 j2 : Nat} (P : Nat → L2.St → Hp → Prop) (h : EvA tl σ H [.ref a]) (hx : SqL K H a xs) (h0 : P 0 σ H) (hl : ∀ i σ' Hk, P i σ' Hk → SqL K Hk a xs)
    (hs : ∀ i x σ' Hk, xs[i]? = some x → P i σ' Hk → Go Hk (tu { D with nx := Up (P (i + 1)), ct := Up (P (i + 1)), bk := tz D } ((σ'.set j1 (some (.int (i : Nat)))).set j2 (some x)))) (hd : ∀ σ' Hk, P xs.length σ' Hk → Go Hk (tz D σ')) :
    Go H (tSeq (tFor (iEnum K tl) (gTup K 2 (gCons (gName j1) (gCons (gName j2) gNil))) tu) tz D σ) := fun H0 e0 => h H0 e0 _ fun H1 e => ⟨a, xs, rfl, ex_l (e0.trans e) hx,
      for_it (D := { D with nx := tz D }) walk_enum (fun i => Up (P i)) ⟨H, h0, e0.trans e⟩ (fun i σ' H' _ ⟨Hk, p, ek⟩ => ex_l ek (hl i σ' Hk p)) (fun i x σ' H' H'' hi ⟨Hk, p, ek⟩ yy => by
        obtain ⟨T, u, v, ev, hT, eH, e1, e2⟩ := yy
        have e1 := Option.some.inj e1
        subst ev eH e1
        exact ⟨T, _, rfl, st_of upd_same, rfl, _, _, rfl, _, _, rfl, rfl, hs i _ σ' Hk e2 p _ (ek.trans (Ex.new hT))⟩) (fun σ' H' ⟨Hk, p, ek⟩ => hd σ' Hk p H' ek)⟩
end
/-! ## a def's body, apart from its object -/
def BodyOk (P : Program) (w : World) (K : PySem.W.Frag) (mg : Str → Option Value) (base : Heap) (k : Nat) (x : Str) (st : Stmt) (f : Addr) (N : List Str) (sp : Sp) : Prop :=
  ∀ (cdv : Value) (A : Around) (outer : List Env) (s : Shared) (H : Hp) (vs : List V) (Q : VK) (E : XK), Room k (A.deeper (envOfC x (defScope st) s.heap.objs.size f cdv)) → sp vs H Q E →
    ∃ t, PSs (cxOf CX0 P w K mg base N x (defScope st) f cdv A outer s H E).nox (defBody st) t ∧ Go H (t { nx := fun _ H' => Q .non H', rt := Q } (start N vs))
theorem BodyOk.fn {P : Program} {w : World} {K : PySem.W.Frag} {mg : Str → Option Value} {base : Heap} {x : Str} {st : Stmt} {f : Addr} {fd : FuncData} {N ps : List Str} {k : Nat} {sp : Sp} (F : FunD K x x (defArgs st) (defBody st) (defScope st) [] [] f fd) (S : FnScope N ps (defScope st))
    (len : ∀ vs H Q E, sp vs H Q E → vs.length = ps.length) (b : BodyOk P w K mg base k x st f N sp) : FnOk P w K mg base CX0 (k + 1) f fd ps sp :=
  F.ok S len fun cdv A outer s H vs Q E hr hsp => by
    obtain ⟨t, h, q⟩ := b cdv A outer s H vs Q E hr hsp
    exact ⟨t, h.nox, q.here⟩
/-! ## is None -/
def rNoneI : R2 := fun v z H R => z = .non ∧ R (.bl (decide (v = .non))) H
def rNoneN : R2 := fun v z H R => z = .non ∧ R (.bl (!decide (v = .non))) H
theorem op_noneI {X : Cx} : OpR X (compareOp .Is) rNoneI := L2.op_isN
theorem op_noneN {X : Cx} : OpR X (compareOp .IsNot) rNoneN := L2.op_notN
theorem ev_noneI {σ : L2.St} {H : Hp} {ta tb : TE} {x : V} (ha : Ev ta σ H x) (hb : Ev tb σ H .non) : Ev (tOp rNoneI ta tb) σ H (.bl (decide (x = .non))) := ev_op ha hb fun H1 _ _ q => ⟨rfl, q H1 (Ex.refl H1)⟩
theorem ev_noneN {σ : L2.St} {H : Hp} {ta tb : TE} {x : V} (ha : Ev ta σ H x) (hb : Ev tb σ H .non) : Ev (tOp rNoneN ta tb) σ H (.bl (!decide (x = .non))) := ev_op ha hb fun H1 _ _ q => ⟨rfl, q H1 (Ex.refl H1)⟩
/-! ## the draws -/
def primes : List Int := [1000003, 1000033, 1000037, 1000039, 1000081, 1000099, 1000117, 1000121, 1000133, 1000151, 1000159, 1000171, 1000183, 1000187, 1000193, 1000199]
def drawI (c : Int) (k : Nat) (many : Int) : Int := (c * 48271 + (k : Int) * 69621) % primes.getD (k % 16) 1 % many
theorem draw_0 {c : Int} {k : Nat} {many : Int} (h : 0 < many) : 0 ≤ drawI c k many := Int.emod_nonneg _ (by omega)
theorem draw_lt {c : Int} {k : Nat} {many : Int} (h : 0 < many) : drawI c k many < many := Int.emod_lt_of_pos _ h
theorem primes_pos : ∀ i, i < 16 → 0 < primes.getD i 1 := by decide
theorem primes_at : ∀ i, i < 16 → (primes.map V.int)[i]? = some (.int (primes.getD i 1)) := by
  intro i hi
  rw [List.getElem?_map, List.getElem?_eq_getElem (by exact hi)]
  rw [List.getD_eq_getElem?_getD, List.getElem?_eq_getElem (by exact hi)]
  rfl
end Od

namespace Od
open PySem PySem.Spec PyProof.Rows L2 SX Evl
/-! ## set(list of ints) -/
abbrev noSet (w : World) : Obj := { cls := .type "set", dict := none, data := .set #[] 0 (.fresh 0 0 (!w.params.followText "set-order")) }
section
variable {P : Program} {w : World} {A : Around} {E : Value → Shared → Prop} {s : Shared}
theorem set_of_ints {l : Addr} {its : Array Value} (ns : List Int) {Q : Value → Shared → Prop} (hh : A.handled = none) (hl : s.heap.IsList l its) (hit : IntsAre its.toList ns) (hb : ns.length + 1 < scanBound)
    (h : ∀ (h1 : Heap) (tk c : Nat), SetR w h1 s.heap.objs.size (fun j => decide (j ∈ ns)) c → c ≤ ns.length → (∀ b o, s.heap.get? b = some o → h1.get? b = some o) → Q (.ref s.heap.objs.size) { s with heap := h1, toks := tk }) :
    wpAny (model P w) A (call (.type "set") [.ref l]) Q E s := by
  have size_is : its.size = ns.length := by rw [← Array.length_toList]; exact IntsAre.length hit
  obtain ⟨c0, tl0, mro0⟩ := F.called_set.mro
  have m1 := F.called_set.made
  have m2 := F.called_set.sub
  refine wpAny_call (codeAny_of_tree (show wpAny _ _ (callAny (.type "set") _) _ _ _ from ?_))
  refine wpAny_pure (And.intro (Code.quiet_builtin _ (by decide +kernel)) (codeAny_builtin F.entry_type_call ?_))
  rw [Around.under_plain (weight_type_call_type "set" [Value.ref l] []) rfl]
  have m3 := F.called_set.notType
  have m4 := F.called_set.canCreate
  have m5 := F.typeCall_set_1 (.ref l)
  repeat (any_goals (first | assumption | wp_step))
  refine codeAny_mono (code_set_led1 (.ref l) (E := E) (Q₁ := fun v s1 => v = .ref s.heap.objs.size ∧ s1 = { s with heap := s.heap.push (noSet w) }) (And.intro rfl rfl)) fun r s1 hr => ?_
  match r, hr with
  | .error e, hr => exact hr
  | .ok (.ret v), hr =>
    obtain ⟨rfl, rfl⟩ := hr
    have at0 : (s.heap.push (noSet w)).get? s.heap.objs.size = some (noSet w) := Heap.get?_push_size _ rfl
    have ty0 : Shared.TypeIs { s with heap := s.heap.push (noSet w) } (.ref s.heap.objs.size) "set" := ⟨_, at0, rfl⟩
    have m6 := F.called_set.init.lookup
    have m7 := F.called_set.init.bind (.ref s.heap.objs.size)
    repeat (any_goals (first | assumption | wp_step))
    refine codeAny_mono (codeAny_call_builtin (R := wants (fun r s2 => r = .none ∧ ∃ h1 tk c, s2 = { s with heap := h1, toks := tk } ∧ SetR w h1 s.heap.objs.size (fun j => decide (j ∈ ns)) c ∧ c ≤ ns.length ∧
      ∀ b o, s.heap.get? b = some o → h1.get? b = some o) E) F.called_set.init.plain F.entry_set_init (check_set_init_1 ty0 ?_)) fun r2 s2 hr2 => ?_
    · obtain ⟨⟨oc, od, odt, os⟩, hol, hcl, nl, hdl⟩ := hl
      simp only at hcl hdl
      subst hcl hdl
      have n1 := F.sub_list_set
      have n2 := F.sub_list_frozenset
      have n3 : (Value.type "list" == Value.type "dict") = false := by decide
      have old := Heap.get?_push_of_some (noSet w) hol
      have hl1 : (s.heap.push (noSet w)).IsList l its := ⟨_, old, rfl, nl, rfl⟩
      unfold Builtin.«set.__init__» noKeywords Builtin.Frozenset.updateFrom
      generalize hPI : pyIter = PI
      wp_walk
      subst hPI
      refine wpAny_pyIter_list hl1 (wpAny_bind (wpAny_runValue ?_))
      have lt0 : l < s.heap.objs.size := Heap.lt_size hol
      have quiet3 : A.in1.in1.in1.handled = none := by simp [hh]
      have sz1 : (s.heap.push (noSet w)).objs.size = s.heap.objs.size + 1 := Heap.size_push ..
      have apart : l ≠ (s.heap.push (noSet w)).objs.size := fun z => Nat.ne_of_lt (Nat.lt_succ_of_lt lt0) (z.trans sz1)
      have out0 : s.heap.objs.size ∉ [(s.heap.push (noSet w)).objs.size, l] := by
        intro z
        rcases List.mem_cons.mp z with z | z
        · exact Nat.ne_of_lt (Nat.lt_succ_self _) (z.trans sz1)
        · exact Nat.ne_of_gt lt0 (List.mem_singleton.mp z)
      have vals : ∀ (i : Nat) (v : Value), its[i]? = some v → ∃ k t, ns[i]? = some k ∧ v = .int k t := by
        intro i v hv
        have hi : i < ns.length := by rw [← size_is]; exact (Array.getElem?_eq_some_iff.mp hv).1
        obtain ⟨t, e⟩ := PyProof.Rows.IntsAre.int_at hit i v (Array.getElem?_toList.trans hv)
        exact ⟨ns[i], t, List.getElem?_eq_getElem hi, by rw [e, List.getD_eq_getElem?_getD, List.getElem?_eq_getElem hi] <;> rfl⟩
      refine set_update_ints ((Walks.list quiet3 _ l apart its).toS) s.heap.objs.size out0 ns size_is hb vals (its.size - 0) 0 _ (by omega) (Nat.zero_le _) ⟨⟨_, Heap.get?_push_size _ rfl, rfl, rfl⟩, (hl1.push _)⟩
        ⟨0, Nat.le_refl 0, setR_new_at (Heap.get?_push_of_some _ at0)⟩ fun s3 c3 mv hc3 hS3 => ?_
      obtain ⟨h3, g3, d3, t3, o3⟩ := s3
      have q1 : g3 = s.gens := mv.gens
      have q2 : d3 = s.drawn := mv.drawn
      have q3 : o3 = s.os := mv.os
      subst q1 q2 q3
      refine wpAny_pure (show wpAny _ _ (ret Value.none) _ _ _ from wpAny_pure ⟨rfl, h3, t3, c3, rfl, hS3, by rw [size_is] at hc3; exact hc3, fun b o e => ?_⟩)
      have hb0 : b < s.heap.objs.size := Heap.lt_size e
      refine mv.heap b o (fun z => ?_) (Heap.get?_push_of_some _ (Heap.get?_push_of_some _ e))
      rcases List.mem_cons.mp z with z | z
      · exact Nat.ne_of_lt hb0 z
      · exact Nat.ne_of_lt (Nat.lt_succ_of_lt hb0) ((List.mem_singleton.mp z).trans sz1)
    · match r2, hr2 with
      | .error e, hr2 => exact hr2
      | .ok (.ret r), hr2 =>
        obtain ⟨rfl, h1, tk, c, rfl, a1, a2, a3⟩ := hr2
        repeat (any_goals (first | assumption | wp_step))
        exact h _ _ _ a1 a2 a3
end
def rSetI (K : PySem.W.Frag) (w : World) : List V → Hp → VK → Prop := fun vs H Q => ∃ (p : Addr) (ns : List Int), vs = [.ref p] ∧ SqL K H p (ns.map V.int) ∧ ns.length ≤ 1000 ∧ ∀ (a : Addr) (c : Nat), H a = none → c ≤ ns.length → Q (.ref a) (upd H a (SetO w a (fun j => decide (j ∈ ns)) c))
/-- sorted(set), any number -/
def rSortedS (w : World) : List V → Hp → VK → Prop := fun vs H Q => ∃ (a : Addr) (T : Int → Bool) (n : Nat), vs = [.ref a] ∧ H a = some (SetO w a T n) ∧ n ≤ 1000 ∧
  ∀ (ns : List Int) (p : Addr), ns.Pairwise (· < ·) → (∀ k : Int, k ∈ ns ↔ T k = true) → H p = none → Q (.ref p) (upd H p (.lst (ns.map V.int)))
section
variable {X : Cx}
theorem call_setI (hc : X.calm = true) : CallR X (.type "set") (rSetI X.K X.w) := by
  intro pins s σ H vs us Q I r h
  obtain ⟨p, ns, rfl, hp, hl, q⟩ := h
  obtain ⟨its, rv, pl, hz⟩ := I.list hp
  rw [Vals.ref1 r]
  refine set_of_ints ns (I.ok.hd hc) pl.isList (ints_of_vals rv) (by unfold scanBound; omega) fun h1 tk c R hcn k => ?_
  refine ⟨.ref _, upd H s.heap.objs.size (SetO X.w s.heap.objs.size (fun j => decide (j ∈ ns)) c), I.laid (t' := tk) k (Nat.le_refl _) (setO_new R), rfl, q _ c (I.hok.fresh (Nat.le_refl _)) hcn⟩
end
end Od

namespace Od
open PySem PySem.Spec PyProof.Rows L2 SX Evl
/-! ## sorted(set), of any number -/
section
variable {P : Program} {w : World} {A : Around} {E : Value → Shared → Prop} {s : Shared} {a : Addr}
theorem sorted_of_set {T : Int → Bool} {n : Nat} {Q : Value → Shared → Prop} (R : SetR w s.heap a T n) (quiet : A.handled = none) (few : n ≤ 1000)
    (go : ∀ s2 p (ys : List Value) (c : Nat) (ns : List Int), (∀ b o, s.heap.get? b = some o → s2.heap.get? b = some o) → s2.gens = s.gens → s2.os = s.os → s.heap.objs.size ≤ p → s2.heap.get? p = some (seqObj "list" ys.toArray c) →
      IntsAre ys ns → ns.Pairwise (· < ·) → (∀ k, k ∈ ns ↔ T k = true) → ns.length = n → Q (.ref p) s2) :
    wpAny (model P w) A (call (.builtin "sorted") [.ref a]) Q E s := by
  obtain ⟨ob, els, ep, tb, at0, exact0, data0, good, nodup0, mem0, fits0, tfits, size0, ris0, led0⟩ := R
  refine Calls.call_function_entry kind_sorted plain_sorted entry_sorted (args_sorted1 _) (show wpAny _ _ (Builtin.«sorted» _) _ _ _ from ?_)
  unfold Builtin.«sorted»
  refine wpAny_bind (m := checkCount "sorted" 1 1 _) (wpAny_pure (wpAny_bind (collect_set (A := A.in1) quiet (And.intro at0 ⟨exact0.1, data0⟩ |> fun z => ⟨ob, z⟩) tfits fits0 ris0 led0 fun s1 vs keep1 grow1 gens1 os1 perm1 => ?_)))
  have many : vs.length = n := by
    have z := perm1.length_eq
    rw [List.length_map, Array.length_toList] at z
    exact z.trans size0
  have small : vs.length ≤ sizeLine := by
    rw [many, sizeLine_eq]
    omega
  have ints1 : IntsAre vs (vs.map Builtin.Re.reRawOf) := L2.ints_of vs fun v hv => by
    obtain ⟨el, hel, q⟩ := List.mem_map.mp (perm1.mem_iff.mp hv)
    obtain ⟨k, tk, h1, _⟩ := good el hel
    exact ⟨k, tk, q.symm.trans h1⟩
  have keys : (vs.map Builtin.Re.reRawOf).Perm (els.toList.map keyOf) := by
    have q := perm1.map Builtin.Re.reRawOf
    rwa [List.map_map] at q
  refine wpAny_bind (wpAny_newList ?_ small)
  have new1 : (s1.heap.push (seqObj "list" vs.toArray 0)).get? s1.heap.objs.size = some (seqObj "list" vs.toArray 0) := Heap.get?_push_size _ rfl
  refine wpAny_bind (wpAny_holding (wpAny_call_entry PyProof.Rows.slot_list_sort ⟨_, new1, rfl⟩ PyProof.Rows.entry_list_sort
    (SrtO.list_sort_ord SrtO.swo_int new1 small (fun two => SrtO.ints_sortable ints1 two) fun ys h1 h2 => (show ∃ v, _ from ⟨_, rfl, ?_⟩)) (PyProof.Rows.args_list_sort _)))
  obtain ⟨c, hc⟩ := PyProof.Rows.sortedHeap_at (vs := vs) (out := ys.toArray) new1
  obtain ⟨k1, k2, k3⟩ := SrtO.ints_out ints1 h1 h2
  have pn : (ys.map SrtO.iv).Perm (els.toList.map keyOf) := k2.trans keys
  refine wpAny_pure ⟨_, rfl, go _ s1.heap.objs.size ys c _ (fun b u e => ?_) gens1 os1 grow1 hc k1 (lt_of_le_nodup _ k3 (pn.nodup_iff.mpr nodup0)) (fun k => pn.mem_iff.trans (mem0 k).symm) ?_⟩
  · have q := keep1 b u e
    have lt1 := Heap.lt_size q
    exact (sortedHeap_old (Nat.ne_of_lt lt1) (by rw [PyProof.Rows.size_push']; exact Nat.lt_succ_of_lt lt1)).trans (Heap.get?_push_of_some _ q)
  · have z := pn.length_eq
    rw [List.length_map (f := keyOf), Array.length_toList] at z
    exact z.trans size0
end
section
variable {X : Cx}
theorem cr_sortedS (hc : X.calm = true) : CallR X (.builtin "sorted") (rSortedS X.w) := by
  intro pins s σ H vs us Q I r h
  obtain ⟨a, T, n, rfl, ha, few, q⟩ := h
  rw [Vals.ref1 r]
  refine sorted_of_set (setO_get I ha) (I.ok.hd hc) few fun s2 p ys c ns keep gens os hp at1 ints1 lt1 mem1 len1 => ?_
  have fresh : H p = none := I.hok.fresh hp
  have small : (ns.map V.int).length ≤ sizeLine := by
    rw [List.length_map, len1, sizeLine_eq]
    omega
  obtain ⟨h2, g2, d2, t2, o2⟩ := s2
  have e1 : g2 = s.gens := gens
  have e2 : o2 = s.os := os
  subst e1 e2
  exact ⟨.ref p, upd H p (.lst (ns.map V.int)), I.call (ch := []) (Un.laid keep hp fresh) (I.hok.laid keep hp ⟨small, ys, c, vals_of_ints ints1, at1⟩) I.bare (fun _ z => nomatch z), rfl, q ns p lt1 mem1 fresh⟩
/-! ## list.count of bools -/
def rCntB (K : PySem.W.Frag) : V → List V → Hp → VK → Prop := fun x xs H Q => ∃ (p : Addr) (bs : List Bool) (k : Bool), x = .ref p ∧ xs = [.bl k] ∧ SqL K H p (bs.map V.bl) ∧ Q (.int (bs.count k : Nat)) H
theorem vals_bools : ∀ (bs : List Bool) (us : List Value), Vals (bs.map V.bl) us → us = bs.map Value.bool
  | [], _, .nil => rfl
  | b :: bs, _, .cons r rr => by
    cases r
    rw [vals_bools bs _ rr] <;> rfl
theorem reads_bools (h : Heap) : ∀ bs : List Bool, ReadsAll h (bs.map Value.bool) (bs.map PyData.bool) []
  | [] => .nil
  | b :: bs => .cons (as := []) (.bool b) (reads_bools h bs)
theorem bools_has : ∀ bs : List Bool, (bs.map PyData.bool).all Shape.bool.has = true
  | [] => rfl
  | b :: bs => by
    rw [List.map_cons, List.all_cons, bools_has bs]
    rfl
theorem count_bools (k : Bool) : ∀ bs : List Bool, countIn (.bool k) (bs.map PyData.bool) = (bs.count k : Nat)
  | [] => rfl
  | b :: bs => by
    rw [List.map_cons, countIn, count_bools k bs, List.count_cons]
    cases b <;> cases k <;> simp [same] <;> omega
theorem mt_countB : MtR X "list.count" (rCntB X.K) := by
  intro pins s σ H x xs v us Q I rx rxs h
  obtain ⟨p, bs, k, rfl, rfl, hs, q⟩ := h
  cases rx
  obtain ⟨u, rfl, ru⟩ := rxs.one
  cases ru
  obtain ⟨its, rv, pl, _⟩ := I.list hs
  have e := vals_bools bs its rv
  subst e
  refine count_list_bools (hp := s.heap) pl.isList (reads_bools _ bs) (bools_has bs) ?_
  rw [count_bools]
  exact ⟨.int (bs.count k : Nat), H, I.tok _, ⟨_, rfl⟩, q⟩
end
/-! ## what these evaluate to -/
section
variable {K : PySem.W.Frag} {w : World} {σ : L2.St} {H H' : Hp} {ta tb tc te tx : TE} {p : Addr} {ns : List Int}
def dedup (ns : List Int) : List Int := (srt ns).eraseDups
/-- sorted(set(xs)) -/
theorem el_sortedSet (ha : Ev ta σ H (.ref p)) (hx : SqL K H p (ns.map V.int)) (hn : ns.length ≤ 1000) (ms : List Int) (hm : ∀ zs : List Int, zs.Pairwise (· < ·) → (∀ k, k ∈ zs ↔ k ∈ ns) → zs = ms) :
    EvL (tCB (rSortedS w) (tCons (tCB (rSetI K w) (tCons ta tNil)) tNil)) σ H (ms.map V.int) := fun H1 e Q k =>
  ha H1 e _ fun H2 e2 => ⟨p, ns, rfl, ex_l (e.trans e2) hx, hn, fun a c hf hc => ⟨a, _, c, rfl, upd_same, by omega, fun zs q lt1 mem1 hq => by
    have ez := hm zs lt1 fun k => (mem1 k).trans (by rw [decide_eq_true_eq])
    subst ez
    have x1 : Ex H2 (upd H2 a (SetO w a (fun j => decide (j ∈ ns)) c)) := Ex.new hf
    exact k q _ (fresh_back (e2.trans x1) hq) ((e2.trans x1).trans (Ex.new hq)) upd_same⟩⟩
theorem ev_countB {bs : List Bool} {k : Bool} (ha : Ev ta σ H (.ref p)) (hx : SqL K H p (bs.map V.bl)) (hb : Ev tb σ H (.bl k)) : Ev (tBM K "list" (rCntB K) ta (tCons tb tNil)) σ H (.int (bs.count k : Nat)) := fun H1 e Q q =>
  ha H1 e _ fun H2 e2 => ⟨Or.inl ⟨rfl, _, ex_l (e.trans e2) hx⟩, hb H2 (e.trans e2) _ fun H3 e3 => ⟨p, bs, k, rfl, rfl, ex_l ((e.trans e2).trans e3) hx, q H3 (e2.trans e3)⟩⟩
theorem ev_notBl {a b : Bool} (ha : Ev ta σ H (.bl a)) (hb : Ev tb σ H (.bl b)) : Ev (tOp rNotB ta tb) σ H (.bl (!decide (a = b))) := ev_op ha hb fun H1 _ _ q => ⟨a, b, rfl, rfl, q H1 (Ex.refl H1)⟩
theorem ev_isBl {a b : Bool} (ha : Ev ta σ H (.bl a)) (hb : Ev tb σ H (.bl b)) : Ev (tOp rIsB ta tb) σ H (.bl (decide (a = b))) := ev_op ha hb fun H1 _ _ q => ⟨a, b, rfl, rfl, q H1 (Ex.refl H1)⟩
theorem ev_maxN {m : Int} (ha : EvL ta σ H (ns.map V.int)) (hm : m ∈ ns) (hb : ∀ y ∈ ns, y ≤ m) : Ev (tCB (rMax K) (tCons ta tNil)) σ H (.int m) := fun H1 e Q q =>
  ha H1 e _ fun p H2 _ e2 h2 => ⟨p, ns, rfl, sq_of h2, List.length_pos_of_mem hm, fun k hk hk2 => by
    have : k = m := Int.le_antisymm (hb k hk) (hk2 m hm)
    rw [this]
    exact q H2 e2⟩
end
end Od

namespace Od
open PySem PySem.Spec PyProof.Rows L2 SX Evl
open PySem.Builtin PySem.Builtin.Str
section
variable {K : PySem.W.Frag} {σ : L2.St} {H H' : Hp} {ta tb tc te tx : TE} {t u : TT} {x y : V} {i j l : Nat} {D : Ends} {tu tw tz : TS} {xs ys : List V} {ns ms : List Int} {p q : Addr}
/-! ## cuts of lists of ints -/
def cutI (ns : List Int) (lo hi : Option Int) : List Int := (ns.drop (HT.sIx ns.length 0 lo)).take (HT.sIx ns.length ns.length hi - HT.sIx ns.length 0 lo)
theorem cut_ints (ns : List Int) (lo hi : Option Int) : cutV (ns.map V.int) lo hi = (cutI ns lo hi).map V.int := by
  unfold cutV cutI
  rw [List.length_map, List.map_take, List.map_drop]
theorem cutI_len (ns : List Int) (lo hi : Option Int) : (cutI ns lo hi).length ≤ ns.length := by
  unfold cutI
  rw [List.length_take, List.length_drop]
  omega
theorem el_cut {tl th : TO} {lo hi : Option Int} (h : Ev te σ H (.ref p)) (h1 : EvO tl σ H lo) (h2 : EvO th σ H hi) (hs : SqL K H p (ns.map V.int)) : EvL (tSl (rSlL K) te tl th) σ H ((cutI ns lo hi).map V.int) := by
  rw [← cut_ints]
  exact el_sl h h1 h2 hs
theorem el_revL (h : Ev te σ H (.ref p)) (hs : SqL K H p (ns.map V.int)) : EvL (tRevL K te) σ H (ns.reverse.map V.int) := fun H1 e Q q =>
  h H1 e _ fun H2 e2 => ⟨p, ns.map V.int, rfl, ex_l (e.trans e2) hs, fun a ha => q a _ (fresh_back e2 ha) (e2.trans (Ex.new ha)) (by rw [upd_same, List.map_reverse])⟩
/-- both bounds within a text -/
theorem ev_slTxt {tl th : TO} {m : List Nat} {a b : Int} (h : Ev te σ H (.str (S m))) (h1 : EvO tl σ H (some a)) (h2 : EvO th σ H (some b)) (ha : 0 ≤ a) (hab : a ≤ b) (hb : b ≤ m.length) (hm : m.length ≤ 100000) : Ev (tSl C8.rSlX te tl th) σ H (.str (S ((m.drop a.toNat).take (b - a).toNat))) := fun H1 e Q q =>
  h H1 e _ fun H2 e2 => h1 H2 (e.trans e2) _ fun H3 e3 => h2 H3 ((e.trans e2).trans e3) _ fun H4 e4 => ⟨S m, rfl, by rw [S_len]; exact sz_of hm, by
    have z := beq_iff_eq.mp (PyProof.Rows.slice_closes (x := S m) (i := a) (j := b) ⟨ha, hab, hb⟩)
    have z2 : Txt.slice (S m) (some a) (some b) = S ((m.drop a.toNat).take (b - a).toNat) := z.trans (TL.ext_tl rfl)
    rw [z2]
    exact q H4 ((e2.trans e3).trans e4)⟩
/-! ## assignments -/
theorem go_par3 {tr : TA} {v w z : V} (h : EvA tr σ H [v, w, z]) (k : Go H (tz D (((σ.set i (some v)).set j (some w)).set l (some z)))) : Go H (tSeq (tPar3 i j l tr) tz D σ) := fun H1 e => h H1 e _ fun H2 e2 => ⟨v, w, z, rfl, k H2 (e.trans e2)⟩
theorem go_par3LL {v : V} (h1 : EvL ta σ H xs) (h2 : EvL tb σ H ys) (h3 : Ev tc σ H v) (k : ∀ p q, H p = none → H q = none → p ≠ q → Go (upd (upd H p (.lst xs)) q (.lst ys)) (tz D (((σ.set i (some (.ref p))).set j (some (.ref q))).set l (some v)))) :
    Go H (tSeq (tPar3 i j l (tCons ta (tCons tb (tCons tc tNil)))) tz D σ) := fun H1 e => h1 H1 e _ fun p H2 hp e2 hp2 => h2 H2 (e.trans e2) _ fun q H3 hq e3 hq3 => h3 H3 ((e.trans e2).trans e3) _ fun H4 e4 => ⟨.ref p, .ref q, v, rfl,
      k p q (fresh_back e hp) (fresh_back (e.trans e2) hq) (ne_of_none hp2 hq) H4 (ex_upd (ex_upd (((e.trans e2).trans e3).trans e4) (e4 _ _ (e3 p _ hp2))) (e4 _ _ hq3))⟩
/-- a list of two new lists -/
theorem go_asgLL (h1 : EvL ta σ H xs) (h2 : EvL tb σ H ys) (k : ∀ p q l, H p = none → H q = none → H l = none → p ≠ q → p ≠ l → q ≠ l → Go (upd (upd (upd H p (.lst xs)) q (.lst ys)) l (.lst [.ref p, .ref q])) (tz D (σ.set i (some (.ref l))))) :
    Go H (tSeq (tAsg (tLst (tCons ta (tCons tb tNil))) (gName i)) tz D σ) := fun H1 e => h1 H1 e _ fun p H2 hp e2 hp2 => h2 H2 (e.trans e2) _ fun q H3 hq e3 hq3 => ⟨sz_of (by simp), fun l hl => by
      have hp3 := e3 p _ hp2
      exact k p q l (fresh_back e hp) (fresh_back (e.trans e2) hq) (fresh_back ((e.trans e2).trans e3) hl) (ne_of_none hp2 hq) (ne_of_none hp3 hl) (ne_of_none hq3 hl) _ (ex_upd2 (ex_upd (ex_upd ((e.trans e2).trans e3) hp3) hq3))⟩
theorem go_clear {l : Addr} (hl : H l = some (.lst xs)) (ha : Ev ta σ H (.ref l)) (k : Go (upd H l (.lst [])) (tz D σ)) : Go H (tSeq (tDrop (tBM0 K "list" rClear ta)) tz D σ) := fun H0 e0 => ha H0 e0 _ fun H1 e1 =>
  ⟨Or.inl ⟨rfl, xs, sq_of (e1 l _ (e0 l _ hl))⟩, l, xs, rfl, rfl, e1 l _ (e0 l _ hl), k _ (ex_upd2 (e0.trans e1))⟩
end
end Od

namespace Od
open PySem PySem.Spec PyProof.Rows L2 SX Evl
/-! ## enumerate(tuple) -/
abbrev tupIt (l : Addr) : Obj := { cls := .type "tuple_iterator", data := .fields #[.ref l, .int 0 0] }
abbrev enumOf (it : Addr) : Obj := { cls := .type "enumerate", data := .fields #[.none, .bool false, .ref it, rawInt 0, .none, .none] }
theorem enum_new_tup (l : Addr) (items : Array Value) (n : Nat) (dct : Option Addr) (sl : Array (Option Value)) :
    Meets (Builtin.«enumerate.__new__» ⟨[.type "enumerate", .ref l], []⟩) (fun _ R s => s.heap.get? l = some { cls := .type "tuple", dict := dct, data := .seq items n, slots := sl } ∧
      R (.ok (.ret (.ref (s.heap.push (tupIt l)).objs.size))) { s with heap := (s.heap.push (tupIt l)).push (enumOf s.heap.objs.size) }) :=
  .of_wp fun prog w A R s hh => by
    obtain ⟨hp, g, d, tk, os⟩ := s
    obtain ⟨hl, h⟩ := hh
    have hT : Heap.IsTuple hp l items := ⟨_, hl, rfl, n, rfl⟩
    have sub0 := sub_enumerate
    wp_walk
    refine wpAny_stack_any fun st => wpAny_pure ?_
    split
    · rename_i c _ _ _ _ _
      cases (c == Value.type "enumerate")
      · wp_walk using wpAny_loadPart' hl, wpAny_pyIter_tuple hT
        exact ⟨_, rfl, h⟩
      · wp_walk using wpAny_loadPart' hl, wpAny_pyIter_tuple hT
        exact ⟨_, rfl, h⟩
    · wp_walk using wpAny_loadPart' hl, wpAny_pyIter_tuple hT
      exact ⟨_, rfl, h⟩
section
variable {prog : Program} {w : World} {A : Around} {E : Value → Shared → Prop} {s : Shared}
theorem call_enum_tup {l : Addr} {items : Array Value} {Q : Value → Shared → Prop} (hT : s.heap.IsTuple l items)
    (h : ∀ h', IsEnum h' (s.heap.objs.size + 1) s.heap.objs.size 0 .none → h'.IsTupleIter s.heap.objs.size l 0 → h'.objs.size = s.heap.objs.size + 2 → (∀ b o, s.heap.get? b = some o → h'.get? b = some o) → Q (.ref (s.heap.objs.size + 1)) { s with heap := h' }) :
    wpAny (model prog w) A (call (.type "enumerate") [.ref l]) Q E s := by
  obtain ⟨⟨c, dct, dt, sl⟩, hl, hc, n, hd⟩ := hT
  simp only at hc hd
  subst hc hd
  refine callType_new F.called_enumerate (by decide) (F.typeCall_enumerate_1 _) (F.newCall_enumerate_1 _) (fun obj => F.args_object_init_2 obj _) F.entry_enumerate_new (enum_new_tup l items n dct sl) ⟨hl, ?_⟩
  have z1 : (s.heap.push (tupIt l)).objs.size = s.heap.objs.size + 1 := Heap.size_push ..
  show _ ∧ _
  rw [z1]
  have at1 : ((s.heap.push (tupIt l)).push (enumOf s.heap.objs.size)).get? (s.heap.objs.size + 1) = some (enumOf s.heap.objs.size) := by
    have q := Heap.get?_push_size (s.heap.push (tupIt l)) (o := enumOf s.heap.objs.size) rfl
    rwa [z1] at q
  exact ⟨⟨_, at1, rfl⟩, h _ at1 ⟨_, Heap.get?_push_of_some _ (Heap.get?_push_size _ rfl), rfl, rfl⟩ (by rw [Heap.size_push, z1]) fun b o x => Heap.get?_push_of_some _ (Heap.get?_push_of_some _ x)⟩
end
/-- the items of a tuple, each in a new pair -/
def ItT (K : PySem.W.Frag) (a : Addr) (xs : List V) : It :=
  ⟨fun i H => SqT K H a xs ∧ i < xs.length, fun i H v H' => ∃ T x, v = .ref T ∧ H T = none ∧ H' = upd H T (.tup [.int (i : Nat), x]) ∧ xs[i]? = some x, fun i H => SqT K H a xs ∧ i = xs.length⟩
theorem turn_enumT {P : Program} {w : World} {K : PySem.W.Frag} {elts : List Expr} {kk : Nat} {tpos : Pos} (a e it : Addr) (xs : List V) :
    Turn P w K (.Tuple elts kk tpos) (ItT K a xs) [e, it] e (fun i h => (∃ old, IsEnum h e it ((i : Nat) : Int) old) ∧ h.IsTupleIter it a i ∧ e ≠ it ∧ a ≠ it ∧ a ≠ e) where
  mem := by simp
  obj := fun i h st b hb => by
    obtain ⟨⟨old, he⟩, ⟨o, ho, hc, hd⟩, _⟩ := st
    have e' : b = e ∨ b = it := by simpa using hb
    rcases e' with z | z
    · rw [z]; exact ⟨_, he, fun v q => nomatch q⟩
    · rw [z]; exact ⟨o, ho, fun v q => by rw [hd] at q; cases q⟩
  keep := fun i h h' st k => let ⟨⟨old, he⟩, hi, hne⟩ := st; ⟨⟨old, k e (by simp) _ he⟩, hi.at fun o q => k it (by simp) o q, hne⟩
  item := by
    intro X hP hw hK hc i pins s σ H E I hf st hg
    subst hP hw hK
    obtain ⟨⟨old, he⟩, hit, hne, hai, hae⟩ := st
    obtain ⟨hq, hi⟩ := hg
    obtain ⟨its, rv, pl, hz⟩ := I.tuple hq
    have hlen := rv.length
    have lt_e : e < s.heap.objs.size := Heap.lt_size he
    have lt_i : it < s.heap.objs.size := by obtain ⟨_, q, _⟩ := hit; exact Heap.lt_size q
    have D := Draws.tuple (prog := X.prog) (w := X.w) (A := X.A.in1) (I.ok.hd hc) it a hai its.toArray
    refine wpAny_pyNext_enum_itemD D he ⟨hit, pl⟩ (by rw [List.size_toArray]; omega) hne (by simp; exact ⟨hne, Ne.symm hae⟩) fun y h' tk hP ho hit' hT hsz hk => ?_
    obtain ⟨x, hx⟩ : ∃ x, xs[i]? = some x := ⟨xs[i], List.getElem?_eq_getElem hi⟩
    obtain ⟨u, hu, ru⟩ := rv.get hx
    have eu : y = u := by
      have z : its[i]? = some y := by simpa using hP
      rw [z] at hu
      exact Option.some.inj hu
    subst eu
    refine ⟨_, rfl, wpAny_letOwnedTupleGo_enum (s := { s with heap := h', toks := tk + 1 }) ho fun h'' he' sb => ?_⟩
    have at2 : h''.get? s.heap.objs.size = some { cls := .type "tuple", data := .seq #[.int i tk, y] } := (sb.2 _ (Nat.ne_of_gt lt_e)).trans hT
    have new : ObjOk X.prog X.w (upd H s.heap.objs.size (.tup [.int (i : Nat), x])) h'' s.heap.objs.size (.tup [.int (i : Nat), x]) :=
      ⟨by show 2 ≤ sizeLine; decide, [.int i tk, y], .cons ⟨_, rfl⟩ (.cons ru .nil), ⟨_, at2, rfl, _, rfl⟩⟩
    have I1 : Inv X pins σ (upd H s.heap.objs.size (.tup [.int (i : Nat), x])) { s with heap := h'', toks := tk + 1 } :=
      I.turnedNew (ch := [e, it]) (fun b ob hb q => (sb.2 b (fun z => hb (by simp [z]))).trans (hk b ob (fun z => hb (by simp [z])) (fun z => hb (by simp [z])) q)) hf (Nat.le_refl _) new
    refine ⟨.ref s.heap.objs.size, _, I1, rfl, ⟨_, x, rfl, I.hok.fresh (Nat.le_refl _), rfl, hx⟩, ⟨⟨y, ?_⟩, ?_, hne, hai, hae⟩, fun b hb => ?_⟩
    · have e1 : ((i + 1 : Nat) : Int) = (i : Int) + 1 := by omega
      rw [e1]; exact he'
    · obtain ⟨o, ho2, r⟩ := hit'.1
      exact ⟨o, (sb.2 it (Ne.symm hne)).trans ho2, r⟩
    · have hb' : b < s.heap.objs.size := by
        have e' : b = e ∨ b = it := by simpa using hb
        rcases e' with z | z
        · rw [z]; exact lt_e
        · rw [z]; exact lt_i
      rw [upd_ne (Nat.ne_of_lt hb')]
      exact (hf b hb).1
  done := by
    intro X hP hw hK hc i pins s σ H E I hf st hg
    subst hP hw hK
    obtain ⟨⟨old, he⟩, hit, hne, hai, hae⟩ := st
    obtain ⟨hq, hi⟩ := hg
    obtain ⟨its, rv, pl, hz⟩ := I.tuple hq
    have hlen := rv.length
    obtain ⟨f0, f1, f2, f3, f4, f5⟩ := hf it (by simp)
    have D := Draws.tuple (prog := X.prog) (w := X.w) (A := X.A.in1) (I.ok.hd hc) it a hai its.toArray
    have ei : i = its.toArray.size := by rw [List.size_toArray]; omega
    rw [ei] at hit
    exact wpAny_pyNext_enum_endD D he ⟨hit, pl⟩ fun h' eb => ⟨rfl, I.turned (t' := s.toks) (fun b o hb q => eb b o hb q) f0 f1 f3 f4 f5⟩
  self := fun A i s Q E st h => let ⟨⟨_, he⟩, _⟩ := st; wpAny_pyIter_enum he h
section
variable {X : Cx}
def iEnumT (K : PySem.W.Frag) (ta : TA) : TI := fun σ H R => ta σ H fun vs H1 => ∃ a xs, vs = [.ref a] ∧ SqT K H1 a xs ∧ R (ItT K a xs) H1
theorem pi_enumT {e : Expr} {ta : TA} {p pos tpos : Pos} {elts : List Expr} {kk : Nat} (hg : Gl X "enumerate") (hm : X.mg "enumerate" = none) (ha : PA X [e] ta) (hs : starEach [e] X.env = [(false, eval e X.env)] := by rfl) :
    PI X (.Tuple elts kk tpos) (.Call (.Name "enumerate" p) [e] [] pos) (iEnumT X.K ta) := by
  refine ⟨fun pins s σ H R I h => ?_⟩
  refine Call_ (ld_blt I hg hm boot_enumerate (PyProof.Rows.callWith_type1 (thn (ha.run pos pins s σ H _ I h) fun us s1 ⟨vs, H1, I1, r1, q1⟩ => ?_) hs rfl))
  obtain ⟨a, xs, ex, hq, q⟩ := q1
  subst ex
  cases r1 with
  | cons r rr =>
    cases rr
    cases r
    obtain ⟨its, rv, pl, hz⟩ := I1.tuple hq
    have lt_a : a < s1.heap.objs.size := by obtain ⟨_, z, _⟩ := pl; exact Heap.lt_size z
    refine call_enum_tup pl fun h' he hit hsz hk => wpAny_pyIter_enum he ?_
    have I2 : Inv X pins σ H1 { s1 with heap := h' } := I1.kept (t' := s1.toks) hk
    refine ⟨s1.heap.objs.size + 1, [s1.heap.objs.size + 1, s1.heap.objs.size], _, _, H1, rfl, I2, turn_enumT (P := X.prog) (w := X.w) (K := X.K) (elts := elts) (kk := kk) (tpos := tpos) a (s1.heap.objs.size + 1) s1.heap.objs.size xs, ⟨⟨.none, he⟩, hit, Nat.succ_ne_self _, Nat.ne_of_lt lt_a, Nat.ne_of_lt (Nat.lt_succ_of_lt lt_a)⟩, fun b hb => ?_, q⟩
    have e' : b = s1.heap.objs.size + 1 ∨ b = s1.heap.objs.size := by simpa using hb
    have hle : s1.heap.objs.size ≤ b := by
      rcases e' with z | z
      · rw [z]; exact Nat.le_succ _
      · rw [z]; exact Nat.le_refl _
    exact I1.fpOk hle (I1.hok.fresh hle)
end
section
variable {K : PySem.W.Frag} {σ : L2.St} {H : Hp} {D : Ends} {tu tz : TS} {xs : List V}
theorem walk_enumT {a : Addr} : Walk (ItT K a xs) xs.length (fun H => SqT K H a xs) (YPair (fun i => some (.int (i : Nat))) (fun i => xs[i]?)) :=
  ⟨fun i H hi hq => ⟨hq, hi⟩, fun H hq => ⟨hq, rfl⟩, fun i H x H' hi hq ⟨T, y, e1, e2, e3, e4⟩ => ⟨T, .int (i : Nat), y, e1, e2, e3, rfl, e4⟩⟩
/-- for i, x in enumerate(the tuple just written) -/
theorem go_forET {te : TE} {j1 j2 : Nat} (P : Addr → Nat → L2.St → Hp → Prop) (h : EvU te σ H xs) (h0 : ∀ p, H p = none → P p 0 σ (upd H p (.tup xs))) (hl : ∀ p i σ' Hk, P p i σ' Hk → Hk p = some (.tup xs))
    (hs : ∀ p i x σ' Hk, xs[i]? = some x → P p i σ' Hk → Go Hk (tu { D with nx := Up (P p (i + 1)), ct := Up (P p (i + 1)), bk := tz D } ((σ'.set j1 (some (.int (i : Nat)))).set j2 (some x)))) (hd : ∀ p σ' Hk, P p xs.length σ' Hk → Go Hk (tz D σ')) :
    Go H (tSeq (tFor (iEnumT K (tCons te tNil)) (gTup K 2 (gCons (gName j1) (gCons (gName j2) gNil))) tu) tz D σ) := fun H0 e0 => h H0 e0 _ fun p H1 hp e hp1 => ⟨p, xs, rfl, st_of hp1,
      for_it (D := { D with nx := tz D }) walk_enumT (fun i => Up (P p i)) ⟨_, h0 p (fresh_back e0 hp), ex_upd (e0.trans e) hp1⟩ (fun i σ' H' _ ⟨Hk, q, ek⟩ => ex_t ek (st_of (hl p i σ' Hk q))) (fun i x σ' H' H'' hi ⟨Hk, q, ek⟩ yy => by
        obtain ⟨T, u, v, ev, hT, eH, e1, e2⟩ := yy
        have e1 := Option.some.inj e1
        subst ev eH e1
        exact ⟨T, _, rfl, st_of upd_same, rfl, _, _, rfl, _, _, rfl, rfl, hs p i _ σ' Hk e2 q _ (ek.trans (Ex.new hT))⟩) (fun σ' H' ⟨Hk, q, ek⟩ => hd p σ' Hk q H' ek)⟩
end
end Od

namespace Od
open PySem PySem.Spec PyProof.Rows L2 SX Evl
/-! ## defs that may raise: the exception's context is None -/
abbrev CXn (P : Program) (w : World) : CXT := L2N.CX P w
def S1x (R : V → Hp → VK → XK → Prop) : Sp := fun vs H Q E => ∃ a, vs = [a] ∧ R a H Q E
def S2x (R : V → V → Hp → VK → XK → Prop) : Sp := fun vs H Q E => ∃ a b, vs = [a, b] ∧ R a b H Q E
def S3x (R : V → V → V → Hp → VK → XK → Prop) : Sp := fun vs H Q E => ∃ a b c, vs = [a, b, c] ∧ R a b c H Q E
def S4x (R : V → V → V → V → Hp → VK → XK → Prop) : Sp := fun vs H Q E => ∃ a b c d, vs = [a, b, c, d] ∧ R a b c d H Q E
def S5x (R : V → V → V → V → V → Hp → VK → XK → Prop) : Sp := fun vs H Q E => ∃ a b c d e, vs = [a, b, c, d, e] ∧ R a b c d e H Q E
theorem lenx1 {R : V → Hp → VK → XK → Prop} (vs : List V) (H : Hp) (Q : VK) (E : XK) (h : S1x R vs H Q E) : vs.length = 1 := by
  obtain ⟨a, rfl, _⟩ := h
  rfl
theorem lenx2 {R : V → V → Hp → VK → XK → Prop} (vs : List V) (H : Hp) (Q : VK) (E : XK) (h : S2x R vs H Q E) : vs.length = 2 := by
  obtain ⟨a, b, rfl, _⟩ := h
  rfl
theorem lenx3 {R : V → V → V → Hp → VK → XK → Prop} (vs : List V) (H : Hp) (Q : VK) (E : XK) (h : S3x R vs H Q E) : vs.length = 3 := by
  obtain ⟨a, b, c, rfl, _⟩ := h
  rfl
theorem lenx4 {R : V → V → V → V → Hp → VK → XK → Prop} (vs : List V) (H : Hp) (Q : VK) (E : XK) (h : S4x R vs H Q E) : vs.length = 4 := by
  obtain ⟨a, b, c, d, rfl, _⟩ := h
  rfl
theorem lenx5 {R : V → V → V → V → V → Hp → VK → XK → Prop} (vs : List V) (H : Hp) (Q : VK) (E : XK) (h : S5x R vs H Q E) : vs.length = 5 := by
  obtain ⟨a, b, c, d, e, rfl, _⟩ := h
  rfl
/-- ends in a value, or raises a class -/
inductive Res where
  | val (z : V) | exc (C : Addr)
def ends (r : Res) (H : Hp) (Q : VK) (E : XK) : Prop := match r with
  | .val z => Go H (Q z)
  | .exc C => Go H (E (.ref C) none)
theorem ends.mono {r : Res} {H H1 : Hp} {Q : VK} {E : XK} (h : ends r H Q E) (e : Ex H H1) : ends r H1 Q E := by
  cases r with
  | val z => exact Go.mono (p := Q z) h e
  | exc C => exact Go.mono (p := E (.ref C) none) h e
/-- so it ends, called -/
def SpE (sp : Sp) (vs : List V) (H : Hp) (r : Res) : Prop := ∀ H1, Ex H H1 → ∀ Q E, ends r H1 Q E → sp vs H1 Q E
theorem SpE.mono {sp : Sp} {vs : List V} {H H1 : Hp} {r : Res} (h : SpE sp vs H r) (e : Ex H H1) : SpE sp vs H1 r := fun H2 e2 => h H2 (e.trans e2)
theorem calx_mk {P : Program} {w : World} {K : PySem.W.Frag} {mg : Str → Option Value} {base : Heap} {x : Str} {st : Stmt} {f : Addr} {N ps : List Str} {k : Nat} {sp : Sp} (F : ∃ fd, FunD K x x (defArgs st) (defBody st) (defScope st) [] [] f fd) (g : mg x = some (.ref f)) (S : FnScope N ps (defScope st))
    (b : ∀ (kV doc pm : Value) (an : Option Addr) (cdv ct : Value) (us : List Value), us.length = ps.length → bindArgs (PySem.W.fnOf x x (defArgs st) (defBody st) (defScope st) .none kV doc pm an cdv ct) ⟨us, []⟩ = pure (ps.zip us))
    (len : ∀ vs H Q E, sp vs H Q E → vs.length = ps.length)
    (body : ∀ (cdv : Value) (A : Around) (outer : List Env) (s : Shared) (H : Hp) (vs : List V) (Q : VK) (E : XK), Room k (A.deeper (envOfC x (defScope st) s.heap.objs.size f cdv)) → sp vs H Q E →
      ∃ t, PSs (cxOf (CXn P w) P w K mg base N x (defScope st) f cdv A outer s H E) (defBody st) t ∧ Go H (t { nx := fun _ H' => Q .non H', rt := Q } (start N vs))) : Cal (CXn P w) P w K mg base (k + 1) x sp := by
  obtain ⟨fd, F⟩ := F
  refine ⟨f, fd, ps, F.ok S len (fun cdv A outer s H vs Q E hr hsp => ?_), g, F.kp, F.bindsN b⟩
  obtain ⟨t, h, q⟩ := body cdv A outer s H vs Q E hr hsp
  exact ⟨t, h, q.here⟩
section
variable {X : Cx} {k j : Nat} {C : Addr} {x m : Str} {sp : Sp} {p pos apos : Pos} {e o : Expr} {es : List Expr} {ta : TE} {t : TA}
theorem pe_kx {W : WX} (c : Cal (CXn X.prog X.w) X.prog X.w X.K X.mg X.base k x sp) (hr : Room j X.A) (hk : k ≤ j) (hg : Gl X x) (tk : L2N.Takes X W) (ha : PA X (e :: es) t)
    (hdb : (x == ("__debug__" : Str)) = false := by decide) (he : starEach (e :: es) X.env = (false, eval e X.env) :: starEach es X.env := by rfl) (hpl : (backTo pos (starEach es X.env)).any (·.1) = false := by rfl) :
    PE X (.Call (.Name x p) (e :: es) [] pos) (tCallS sp (WE W) t) := by
  obtain ⟨f, fd, ps, F, hm, kp, b⟩ := c.ex
  exact pe_callS F (hr.mono hk) hg hm kp b (fun σ => L2N.passAt tk σ) ha hdb he hpl
end
section
variable {K : PySem.W.Frag} {σ : L2.St} {H H' : Hp} {ta : TA} {vs : List V} {sp : Sp} {E : L2.St → XK} {D : Ends} {tz : TS} {i : Nat} {z : V}
/-- a call that does not raise here -/
theorem ev_callX (h : EvA ta σ H vs) (hs : SpE sp vs H (.val z)) : Ev (tCallS sp E ta) σ H z := fun H1 e Q q => h H1 e _ fun H2 e2 => hs H2 (e.trans e2) Q (E σ) fun H3 e3 => q H3 (e2.trans e3)
theorem go_retX {r : Res} (h : EvA ta σ H vs) (hs : SpE sp vs H r) (k : ends r H D.rt (E σ)) : Go H (tSeq (tRet (tCallS sp E ta)) tz D σ) := fun H1 e => h H1 e _ fun H2 e2 => hs H2 (e.trans e2) _ _ (k.mono (e.trans e2))
theorem go_dropX {r : Res} (h : EvA ta σ H vs) (hs : SpE sp vs H r) (k : ends r H (fun _ H2 => tz D σ H2) (E σ)) : Go H (tSeq (tDrop (tCallS sp E ta)) tz D σ) := fun H1 e => h H1 e _ fun H2 e2 => hs H2 (e.trans e2) _ _ (k.mono (e.trans e2))
theorem go_asgX {r : Res} (h : EvA ta σ H vs) (hs : SpE sp vs H r) (k : ends r H (fun v H2 => tz D (σ.set i (some v)) H2) (E σ)) : Go H (tSeq (tAsg (tCallS sp E ta) (gName i)) tz D σ) := fun H1 e => h H1 e _ fun H2 e2 => hs H2 (e.trans e2) _ _ (k.mono (e.trans e2))
theorem go_raise {W : WX} {C : Addr} (k : Go H (fun H1 => W (.ref C) none σ H1)) : Go H (tSeq (fun (_ : Ends) (σ : L2.St) (H : Hp) => (fun (_ : L2.St) (H : Hp) (Q : XK) => Q (.ref C) none H) σ H fun cls d H' => W cls d σ H') tz D σ) := k
end
/-! ## within an except suite -/
theorem hot_of {X : Cx} {a : Addr} {oe : Obj} {pn : List (Addr × Obj)} {cls : Value} {d : Option Addr} (hz : L2N.Zn cls d oe) (hf : ∃ vs, oe.data = .fields vs) : L2H.HotC (X.suite a ((a, oe) :: pn)) := by
  obtain ⟨vs, hv⟩ := hf
  exact ⟨(a, oe), ⟨rfl, vs, hv, hz.2.2 vs hv⟩, List.mem_cons_self⟩
/-- isinstance(e, c), e the exception that the suite holds, of whatever class -/
def rIsX (K : PySem.W.Frag) (a : Addr) (cls : Value) (d : Option Addr) : List V → Hp → VK → Prop := fun xs H Q => ∃ D, cls = .ref D ∧ d = none ∧ ExcC K D ∧ rIsE K D a xs H Q
theorem call_isX {X : Cx} {a : Addr} {oe : Obj} {pn : List (Addr × Obj)} {cls : Value} {d : Option Addr} (K : PySem.W.Frag) (hz : L2N.Zn cls d oe) (hf : ∃ vs, oe.data = .fields vs) (hK : X.K = K := by rfl) : CallR (X.suite a ((a, oe) :: pn)) (.builtin "isinstance") (rIsX K a cls d) := by
  subst hK
  intro pins s σ H xs us Q I r h
  obtain ⟨D, rfl, rfl, C, q⟩ := h
  exact call_isE C hz.zc hf pins s σ H xs us Q I r q
theorem ev_isX {K : PySem.W.Frag} {σ : L2.St} {H : Hp} {ta tb : TE} {a D : Addr} {c : V} {uu : Value} {bb : Bool} (ha : Ev ta σ H (.ref a)) (hb : Ev tb σ H c) (hc : ClsV c uu) (C : ExcC K D) (hk : PySem.W.kitOne K (.ref D) uu = some bb) :
    Ev (tCB (rIsX K a (.ref D) none) (tCons ta (tCons tb tNil))) σ H (.bl bb) := fun H1 e Q q =>
  ha H1 e _ fun H2 e2 => hb H2 (e.trans e2) _ fun H3 e3 => ⟨D, rfl, rfl, C, c, uu, bb, rfl, fun u r => hc.eq r, hk, q H3 (e2.trans e3)⟩
end Od

namespace Od
open PySem PySem.Spec PyProof.Rows L2 SX Evl HotX
/-! ## any(list of bools) while an exception is handled -/
/-- the handled exception's object, its context None -/
def HotOb (x1 : Addr) (h : Heap) : Prop := ∃ (o : Obj) (vs : Array Value), h.get? x1 = some o ∧ o.data = .fields vs ∧ vs[2]? = some .none
section
variable {prog : Program} {w : World} {A : Around} {E : Value → Shared → Prop} {s : Shared}
theorem list_end_hot {it l x1 : Addr} {i : Nat} {items : Array Value} {Q : Option Value → Shared → Prop} (quiet : A.handled = some (.ref x1)) (hot : HotOb x1 s.heap) (apart : x1 ≠ it) (hit : s.heap.IsListIter it l i) (hl : s.heap.IsList l items) (none1 : items[i]? = none)
    (go : ∀ h', (∀ b o, b ≠ it → s.heap.get? b = some o → h'.get? b = some o) → Q none { s with heap := h' }) : wpAny (model prog w) A (pyNext (.ref it)) Q E s := by
  obtain ⟨o, ho, hc, hd⟩ := id hit
  obtain ⟨ol, hol, _, nl, hdl⟩ := hl
  obtain ⟨o1, vs1, h1, d1, c1⟩ := hot
  have up0 : ∀ b ob, b ≠ it → s.heap.get? b = some ob → ∀ f, (s.heap.update it f).get? b = some ob := fun b ob hb e f => by
    rw [Heap.get?_update_other _ _ (Ne.symm hb)]
    exact e
  unfold pyNext
  refine wpAny_bind (wpAny_attempt (wpAny_callSpecial?_slot (name := Str.ofString "__next__") hit.typeIs slot_listiter_next (wpAny_call_entry slot_listiter_next hit.typeIs entry_listiter_next (show wpAny _ _ (field (.ref it) 0 >>= _) _ _ s from ?_) (args_listiter_next _))))
  refine wpAny_bind (wpAny_field ho hd (x := .ref l) rfl (show wpAny _ _ (if (Value.ref l == Value.none) = true then _ else _) _ _ s from ?_))
  rw [if_neg (by exact Bool.false_ne_true)]
  refine (show wpAny _ _ (field (.ref it) 1 >>= _) _ _ s from wpAny_bind (wpAny_field ho hd (x := .int i 0) rfl ?_))
  refine (show wpAny _ _ (seqItems? (.ref l) >>= _) _ _ s from wpAny_bind (wpAny_seqItems hol hdl ?_))
  simp only [Int.toNat_natCast, none1]
  refine wpAny_bind (wpAny_rule (wpAny_bind (wpAny_setField ho hd (by simp) (show wpAny _ _ (newExc (.type "StopIteration") [] >>= _) _ _ _ from wpAny_bind ?_))))
  simp only [newExc, newTuple]
  refine wpAny_bind (wpAny_newObj_type ?_ (by size_fits))
  refine wpAny_bind (m := firstArgMember _ _) (wpAny_of_eq (a := Value.none) (by first | rfl | (simp only [firstArgMember]; rfl)) (wpAny_newObj_type ?_ (by size_fits)))
  have k1 := up0 _ _ apart h1
  refine raiseNew_hot ⟨quiet, o1, vs1, Heap.get?_push_of_some _ (Heap.get?_push_of_some _ (k1 _)), d1, c1⟩ (Nat.ne_of_lt (Heap.lt_size (Heap.get?_push_of_some _ (k1 _)))) (Heap.get?_push_size _ rfl) rfl (by first | (simp; done) | (simp; omega) | (simp only [Array.size_append]; simp; omega)) ?_
  refine wpAny_bind (wpAny_isInstance (T := "StopIteration") (b := true) ⟨_, Heap.get?_update_self _ (Heap.get?_push_size _ rfl) rfl, rfl⟩ isSubtype_stop ?_)
  refine wpAny_pure (go _ fun b ob hb e => ?_)
  have k2 := up0 _ _ hb e
  rw [Heap.get?_update_other _ _ (Nat.ne_of_gt (Heap.lt_size (Heap.get?_push_of_some _ (k2 _))))]
  exact Heap.get?_push_of_some _ (Heap.get?_push_of_some _ (k2 _))
theorem walks_hot (x1 : Addr) (quiet : A.handled = some (.ref x1)) (I ax : Addr) (hne : ax ≠ I) (apart : x1 ≠ I) (items : Array Value) :
    Walks prog w A I [I, ax, x1] [I] items.size (fun i v => items[i]? = some v) (fun i h => h.IsListIter I ax i ∧ h.IsList ax items ∧ HotOb x1 h) where
  sub := fun b hb => by simp at hb; simp [hb]
  frame := fun _ _ _ st hk => ⟨st.1.at fun o e => hk I (by simp) o e, st.2.1.at fun o e => hk ax (by simp) o e, by
    obtain ⟨o, vs, a, b⟩ := st.2.2
    exact ⟨o, vs, hk x1 (by simp) o a, b⟩⟩
  item := fun i s Q E hi st hQ => by
    refine wpAny_pyNext_list_item st.1 st.2.1 (x := items[i]) (by simp [hi]) fun h' hit' hs' => ?_
    obtain ⟨o, vs, a, b⟩ := st.2.2
    exact hQ _ h' s.toks (by simp [hi]) ⟨hit', st.2.1.extBut hs'.extBut hne, o, vs, hs'.extBut x1 o apart a, b⟩ fun b o hb e => hs'.extBut b o (fun h => hb (by simp [h])) e
  done := fun s Q E st hQ => list_end_hot quiet st.2.2 apart st.1 st.2.1 (by simp) fun h' he' => hQ h' s.toks fun b o hb e => he' b o (fun h => hb (by simp [h])) e
  self := fun _ _ _ _ st hQ => wpAny_pyIter_listiter st.1 hQ
end
theorem cr_anyH {X : Cx} (K : PySem.W.Frag) (hot : L2H.HotC X) (hK : X.K = K := by rfl) : CallR X (.builtin "any") (rAny K) := by
  subst hK
  intro pins s σ H vs us Q I r h
  obtain ⟨a, bs, rfl, hs, q⟩ := h
  obtain ⟨its, rv, hl, _⟩ := I.list hs
  obtain ⟨x1, quiet, o1, v1, at1, f1, c1⟩ := hot.at I
  rw [Vals.ref1 r]
  have hb := rv.bls
  have lt1 : x1 < s.heap.objs.size := Heap.lt_size at1
  refine call_any_walk (iter_any hl.isList fun s₂ e2 st hne => ?_)
  subst e2
  refine ⟨_, _, _, _, _, _, _, rfl, walks_hot (A := X.A.in1) x1 quiet _ a hne (Nat.ne_of_lt lt1) its.toArray, ⟨st.1, st.2, o1, v1, Heap.get?_push_of_some _ at1, f1, c1⟩, truth_bools hb, fun h' tk hk => ?_⟩
  refine ⟨.bl _, H, I.kept fun b o eo => hk b o (fun hmem => ?_) (Heap.get?_push_of_some _ eo), ?_, q⟩
  · exact absurd (List.mem_singleton.mp hmem ▸ Heap.lt_size eo) (Nat.lt_irrefl _)
  · show Value.bool _ = Value.bool _
    rw [← L2.any_range, hb, List.size_toArray, List.length_map]
theorem takesN0 {X : Cx} : L2N.Takes X (fun _ _ _ _ => False) := fun _ _ x => by
  obtain ⟨_, _, _, _, _, _, _, _, _, _, _, _, _, _, _, _, z⟩ := x
  exact z.elim
end Od

namespace Od
open PySem PySem.Spec PyProof.Rows L2 SX Evl
/-! ## a local name that holds a def which may raise -/
def tCallF (i : Nat) (F : Addr → Sp → Prop) (W : WX) (t : TA) : TE := fun σ H Q => ∃ f sp, σ[i]? = some (some (.ref f)) ∧ F f sp ∧ t σ H fun vs H1 => sp vs H1 Q (WE W σ)
structure HeldX (P : Program) (w : World) (K : PySem.W.Frag) (mg : Str → Option Value) (base : Heap) (k : Nat) (f : Addr) (sp : Sp) : Prop where
  ex : ∃ (fd : FuncData) (ps : List Str), FnOk P w K mg base (CXn P w) k f fd ps sp ∧ PySem.W.keepIn K (.ref f) = true ∧ Binds K fd ps []
theorem held_of {P : Program} {w : World} {K : PySem.W.Frag} {mg : Str → Option Value} {base : Heap} {j k : Nat} {x : Str} {f : Addr} {sp : Sp} (c : Cal (CXn P w) P w K mg base j x sp) (g : mg x = some (.ref f)) (h : j ≤ k) : HeldX P w K mg base k f sp := by
  obtain ⟨f', fd, ps, F, hm, kp, b⟩ := c.ex
  rw [g] at hm
  cases hm
  exact ⟨fd, ps, F.mono h, kp, b⟩
section
variable {X : Cx} {k i : Nat} {x : Str} {p pos : Pos} {e : Expr} {es : List Expr} {t : TA}
theorem pe_callF {F : Addr → Sp → Prop} {W : WX} (A : ∀ f sp, F f sp → HeldX X.prog X.w X.K X.mg X.base k f sp) (hr : Room k X.A) (hN : X.N[i]? = some x) (hv : Vis X.env.scope x) (tk : L2N.Takes X W) (ha : PA X (e :: es) t)
    (hdb : (x == ("__debug__" : Str)) = false := by decide) (hcd : (x == ("__classdict__" : Str)) = false := by decide)
    (he : starEach (e :: es) X.env = (false, eval e X.env) :: starEach es X.env := by rfl) (hpl : (backTo pos (starEach es X.env)).any (·.1) = false := by rfl) : PE X (.Call (.Name x p) (e :: es) [] pos) (tCallF i F W t) := by
  refine ⟨fun pins s σ H Q I h => ?_⟩
  obtain ⟨f, sp, hs, hF, ht⟩ := h
  obtain ⟨fd, ps, G, hk, hb⟩ := (A f sp hF).ex
  refine wpAny_Call_Name_kw (thn ((pe_var (pos := p) hN hv hdb hcd).run pins s σ H (fun v H1 => v = .ref f ∧ H1 = H) I ⟨.ref f, hs, rfl, rfl⟩) fun u s1 ⟨v, H1, I1, r1, e1, e2⟩ => ?_)
  subst e1 e2
  cases r1
  exact PySem.W.callWith_K (h₀ := X.base) I.ok.mod.kin hk (thn (ha.run pos pins s1 σ _ _ I1 ht) fun us s2 ⟨vs, H2, I2, r, q⟩ => ⟨I2.kIn, run_fnS G hr hb (L2N.passAt tk σ) I2 r q⟩) he hpl
end
theorem go_dropF {i : Nat} {F : Addr → Sp → Prop} {W : WX} {ta : TA} {vs : List V} {σ : L2.St} {H : Hp} {D : Ends} {tz : TS} {f : Addr} {sp : Sp} {r : Res} (hs : σ[i]? = some (some (.ref f))) (hF : F f sp) (h : EvA ta σ H vs) (hx : SpE sp vs H r) (k : ends r H (fun _ H2 => tz D σ H2) (WE W σ)) :
    Go H (tSeq (tDrop (tCallF i F W ta)) tz D σ) := fun H1 e => ⟨f, sp, hs, hF, h H1 e _ fun H2 e2 => hx H2 (e.trans e2) _ _ (k.mono (e.trans e2))⟩
/-! ## a def called within a suite, which looks at the exception -/
section
variable {CX : CXT} {P : Program} {w : World} {K : PySem.W.Frag} {mg : Str → Option Value} {base : Heap}
theorem run_suite {k : Nat} {f : Addr} {name qual : Str} {params : Arguments} {body : List Stmt} {scope : Scope} {dV kV doc pm cdv ct oc : Value} {an od : Option Addr} {osl : Array (Option Value)} {N ps : List Str} {A : Around} {outer : List Env} {s : Shared} {H : Hp} {args : Args} {us : List Value} {vs : List V} {Q : VK} {E : XK} {p : Addr × Obj}
    (lk : K.lookup f = some ⟨oc, od, .func (PySem.W.fnOf name qual params body scope dV kV doc pm an cdv ct), osl⟩) (hcd : PySem.W.codeIn K cdv qual = true) (S : FnScope N ps scope) (hl : vs.length = ps.length) (hr : L2H.RoomH (k + 1) A) (hpin : L2H.PinOk outer H s p) (e0 : Env0 P w K mg base A outer s H)
    (hb : BindsTo s (PySem.W.fnOf name qual params body scope dV kV doc pm an cdv ct) args (ps.zip us)) (r : Vals vs us) (walk : ∃ t, PSs (L2H.cxH CX P w K mg base N qual scope f cdv A outer s H E p) body t ∧ t { nx := fun _ H' => Q .non H', rt := Q } (L2.start N vs) H) :
    codeAny (model P w) A (.call (.ref f) args) (CR CX outer P w H s Q E) s := by
  have inK : K.In s.heap := e0.mod.kin.keeps fun b o e => (e0.bs b o e).1
  have nolim : s.heap.NoLimit := e0.mod.nolimit.keeps fun b o e => (e0.bs b o e).1
  have kinds : ∀ y ∈ ps.zip us, scope.names.lookup y.1 = some .local ∨ (scope.names.lookup y.1 = some .cell ∧ ((cellsFrom (s.heap.objs.size + 1) scope.names []).lookup y.1).isSome = true) := by
    rintro ⟨n, v⟩ hy
    rcases S.par n (List.of_mem_zip hy).1 with q | q
    · exact Or.inl q
    · exact Or.inr ⟨q, PySem.W.cellsFrom_some _ _ _ (Or.inl q)⟩
  refine codeAny_call_function hr.depth (inK _ _ lk) rfl S.co S.gen rfl (PySem.W.codeRec_of inK hcd) (hb _ _ _ _ (wpAny_newFunctionEnv_cells S.kind kinds fun env he s1 x => ?_))
  subst he
  refine ⟨nolim.keeps x.toInCall.keep, codeAny_func ?_⟩
  obtain ⟨t, ht, hq⟩ := walk
  have I0 : Inv (L2H.cxH CX P w K mg base N qual scope f cdv A outer s H E p) [] (L2.start N vs) H s1 := L2H.inv_startH S hpin e0 hl r x
  refine wpAny_mono (ht.run [] s1 (L2.start N vs) H _ I0 hq) (fun fl s2 hs => ?_) fun e s2 hs => hs
  match fl, hs with
  | .ret u, ⟨v, σ2, H2, J, rv, q⟩ => exact ⟨v, H2, J.os, J.bare, J.base, J.hok, rv, q⟩
  | .next, ⟨σ2, H2, J, q⟩ => exact ⟨V.non, H2, J.os, J.bare, J.base, J.hok, rfl, q⟩
  | .brk, ⟨_, _, _, q⟩ => exact False.elim q
  | .cont, ⟨_, _, _, q⟩ => exact False.elim q
end
/-- isinstance(e, c) in such a def -/
def rIsP (K : PySem.W.Frag) (p : Addr × Obj) : List V → Hp → VK → Prop := fun xs H Q => ∃ (D : Addr) (c : V) (cv : Value) (b : Bool), Zc (.ref D) none p.2 ∧ (∃ vs, p.2.data = .fields vs) ∧ ExcC K D ∧ xs = [.ref p.1, c] ∧ (∀ u, RelV c u → u = cv) ∧ PySem.W.kitOne K (.ref D) cv = some b ∧ Q (.bl b) H
theorem call_isP {X : Cx} {p : Addr × Obj} (K : PySem.W.Frag) (hp : p ∈ X.pn) (hK : X.K = K := by rfl) : CallR X (.builtin "isinstance") (rIsP K p) := by
  subst hK
  intro pins s σ H xs us Q I r h
  obtain ⟨D, c, cv, b, hz, hf, C, rfl, hcv, e, q⟩ := h
  cases r with
  | cons rx rr =>
    cases rr with
    | cons rt rr =>
      cases rr
      cases rx
      have ec := hcv _ rt
      subst ec
      have get1 := (I.pin p (List.mem_append_left _ hp)).1
      obtain ⟨vs, hv⟩ := hf
      have J : PySem.W.InstAt s.heap p.1 p.2 D none := by
        obtain ⟨a, oc, od, oda, osl⟩ := p
        obtain ⟨h1, h2⟩ := hz
        dsimp only at h1 h2 hv
        subst h1 h2 hv
        exact ⟨get1, rfl, rfl, trivial⟩
      exact PySem.W.kia_one (PySem.W.handS_kitx_exc C.hg C.hk C.hs C.hd C.ha C.hn C.ht C.hm) I.kIn J e (fun z => nomatch z) fun tk => ⟨.bl b, H, I.kept (t' := tk) fun _ _ z => z, rfl, q⟩
theorem ev_isP {K : PySem.W.Frag} {σ : L2.St} {H : Hp} {ta tb : TE} {p : Addr × Obj} {D : Addr} {c : V} {uu : Value} {bb : Bool} (hz : Zc (.ref D) none p.2) (hf : ∃ vs, p.2.data = .fields vs) (C : ExcC K D) (ha : Ev ta σ H (.ref p.1)) (hb : Ev tb σ H c) (hc : ClsV c uu) (hk : PySem.W.kitOne K (.ref D) uu = some bb) :
    Ev (tCB (rIsP K p) (tCons ta (tCons tb tNil))) σ H (.bl bb) := fun H1 e Q q =>
  ha H1 e _ fun H2 e2 => hb H2 (e.trans e2) _ fun H3 e3 => ⟨D, c, uu, bb, hz, hf, C, rfl, fun u r => hc.eq r, hk, q H3 (e2.trans e3)⟩
end Od

namespace Od
open PySem PySem.Spec PyProof.Rows L2 SX Evl
/-! ## == of lists of bools -/
def dB (bs : List Bool) : PyData := .list (bs.map PyData.bool)
theorem lay_bools : ∀ bs : List Bool, PyData.canLayAll0 (bs.map PyData.bool) = true
  | [] => by simp [PyData.canLayAll0]
  | n :: r => by
    rw [List.map_cons]
    unfold PyData.canLayAll0
    rw [lay_bools r]
    simp [PyData.canLay0]
theorem depth_bools : ∀ bs : List Bool, PyData.depthAll (bs.map PyData.bool) = 0
  | [] => by simp [PyData.depthAll]
  | n :: r => by
    rw [List.map_cons]
    simp [PyData.depthAll, depth_bools r, PyData.depth]
theorem shaped_bools (bs : List Bool) : SeqAt.shaped (dB bs) = true := by
  unfold SeqAt.shaped dB
  rw [Bool.and_eq_true]
  refine ⟨?_, ?_⟩
  · unfold PyData.canLay0
    exact lay_bools bs
  · simp [PyData.depth, depth_bools bs]
theorem eqv_boolsR : ∀ bs : List Bool, PyData.eqvAll (bs.map PyData.bool) (bs.map PyData.bool) = true
  | [] => by simp [PyData.eqvAll]
  | b :: r => by
    rw [List.map_cons]
    unfold PyData.eqvAll
    rw [eqv_boolsR r]
    unfold PyData.eqv
    cases b <;> rfl
theorem eqv_bools (bs : List Bool) : PyData.eqv (dB bs) (dB bs) = true := by
  unfold dB PyData.eqv
  exact eqv_boolsR bs
theorem dpAll_bools {K : PySem.W.Frag} {H : Hp} : ∀ bs : List Bool, DpAll K H (bs.map V.bl) (bs.map PyData.bool)
  | [] => .nil
  | n :: r => .cons (.bl n) (dpAll_bools r)
theorem dp_bools {K : PySem.W.Frag} {H : Hp} {p : Addr} {bs : List Bool} (h : SqL K H p (bs.map V.bl)) : Dp K H (.ref p) (dB bs) := .lst h (dpAll_bools bs)
section
variable {K : PySem.W.Frag} {σ : L2.St} {H H' : Hp} {ta tb tc te tl : TE} {D : Ends} {tu tz : TS} {tr : TA} {i j n m : Nat} {v : V} {p q : Addr} {xs : List V} {R R1 R2 : V → Hp → Prop}
theorem ev_eqBs {bs : List Bool} (ha : EvL ta σ H (bs.map V.bl)) (hb : Ev tb σ H (.ref q)) (hy : SqL K H q (bs.map V.bl)) : Ev (tOp (rEqD K) ta tb) σ H (.bl true) := ev_opL1 ha (fun H1 e => hb.mono e) fun p H1 hp e => rv_val fun H2 e2 Q k => ⟨dB bs, dB bs, dp_bools (ex_l e2 (sq_of hp)), dp_bools (ex_l (e.trans e2) hy), shaped_bools bs, shaped_bools bs, by rw [eqv_bools]; exact k⟩
theorem ev_neBs {bs : List Bool} (ha : EvL ta σ H (bs.map V.bl)) (hb : Ev tb σ H (.ref q)) (hy : SqL K H q (bs.map V.bl)) : Ev (tOp (rNeD K) ta tb) σ H (.bl false) := ev_opL1 ha (fun H1 e => hb.mono e) fun p H1 hp e => rv_val fun H2 e2 Q k => ⟨dB bs, dB bs, dp_bools (ex_l e2 (sq_of hp)), dp_bools (ex_l (e.trans e2) hy), shaped_bools bs, shaped_bools bs, by rw [eqv_bools]; exact k⟩
/-! ## evaluates to something of which R holds from then on -/
def Mono (R : V → Hp → Prop) : Prop := ∀ v H H1, Ex H H1 → R v H → R v H1
theorem EvR.weak {R2 : V → Hp → Prop} (h : EvR te σ H R) (w : ∀ v H2, Ex H H2 → R v H2 → R2 v H2) : EvR te σ H R2 := fun H1 e Q q => h H1 e Q fun v H2 e2 r => q v H2 e2 (w v H2 (e.trans e2) r)
theorem er_ev (h : Ev te σ H v) (r : ∀ H1, Ex H H1 → R v H1) : EvR te σ H R := fun H1 e Q q => h H1 e _ fun H2 e2 => q v H2 e2 (r H2 (e.trans e2))
theorem er_lst (h : EvL te σ H xs) (r : ∀ p H1, Ex H H1 → H1 p = some (.lst xs) → R (.ref p) H1) : EvR te σ H R := fun H1 e Q q => h H1 e _ fun p H2 hp e2 h2 => q (.ref p) H2 e2 (r p H2 (e.trans e2) h2)
def EvAU (tr : TA) (σ : L2.St) (H : Hp) (n : Nat) (R : V → Hp → Prop) : Prop := ∀ H1, Ex H H1 → ∀ Q : List V → Hp → Prop, (∀ vs H2, Ex H1 H2 → vs.length = n → (∀ x ∈ vs, R x H2) → Q vs H2) → tr σ H1 Q
theorem eau_nil : EvAU tNil σ H 0 R := fun H1 e Q q => q [] H1 (Ex.refl H1) rfl fun x hx => by cases hx
theorem eau_cons (mo : Mono R) (h : EvR ta σ H R) (hr : EvAU tr σ H n R) : EvAU (tCons ta tr) σ H (n + 1) R := fun H1 e Q q =>
  h H1 e _ fun v H2 e2 r => hr H2 (e.trans e2) _ fun vs H3 e3 hl ha => q (v :: vs) H3 (e2.trans e3) (by rw [List.length_cons, hl]) fun x hx => by
    rcases List.mem_cons.mp hx with z | z
    · rw [z]; exact mo _ _ _ e3 r
    · exact ha x z
def ListR (R : V → Hp → Prop) (n : Nat) (v : V) (H : Hp) : Prop := ∃ p vs, v = .ref p ∧ H p = some (.lst vs) ∧ vs.length = n ∧ ∀ x ∈ vs, R x H
theorem listR_mono (mo : Mono R) : Mono (ListR R n) := fun v H H1 e ⟨p, vs, a, b, c, d⟩ => ⟨p, vs, a, e _ _ b, c, fun x hx => mo _ _ _ e (d x hx)⟩
theorem ListR.imp {R2 : V → Hp → Prop} (h : ListR R n v H) (w : ∀ x, R x H → R2 x H) : ListR R2 n v H := by
  obtain ⟨p, vs, a, b, c, d⟩ := h
  exact ⟨p, vs, a, b, c, fun x hx => w x (d x hx)⟩
theorem er_lstU (mo : Mono R) (h : EvAU tr σ H n R) (hn : n ≤ 100000) : EvR (tLst tr) σ H (ListR R n) := fun H1 e Q q =>
  h H1 e _ fun vs H2 e2 hl ha => ⟨sz_of (by omega), fun p hp => q (.ref p) _ (e2.trans (Ex.new hp)) ⟨p, vs, rfl, upd_same, hl, fun x hx => mo _ _ _ (Ex.new hp) (ha x hx)⟩⟩
theorem er_tup2 (m1 : Mono R1) (m2 : Mono R2) (h1 : EvR ta σ H R1) (h2 : EvR tb σ H R2) : EvR (tTup (tCons ta (tCons tb tNil))) σ H (fun v H2 => ∃ p x y, v = .ref p ∧ H2 p = some (.tup [x, y]) ∧ R1 x H2 ∧ R2 y H2) := fun H1 e Q q =>
  h1 H1 e _ fun x H2 e2 r1 => h2 H2 (e.trans e2) _ fun y H3 e3 r2 => ⟨sz_of (by simp), fun p hp => q (.ref p) _ ((e2.trans e3).trans (Ex.new hp)) ⟨p, x, y, rfl, upd_same, m1 _ _ _ (e3.trans (Ex.new hp)) r1, m2 _ _ _ (Ex.new hp) r2⟩⟩
theorem er_catU (mo : Mono R) (h1 : EvR ta σ H (ListR R n)) (h2 : EvR tb σ H (ListR R m)) (hn : n + m ≤ 100000) : EvR (tOp rCat ta tb) σ H (ListR R (n + m)) := fun H1 e Q q =>
  h1 H1 e _ fun x H2 e2 r1 => h2 H2 (e.trans e2) _ fun y H3 e3 r2 => by
    obtain ⟨a, xs, rfl, b1, c1, d1⟩ := listR_mono mo _ _ _ e3 r1
    obtain ⟨b, ys, rfl, b2, c2, d2⟩ := r2
    refine ⟨a, b, xs, ys, rfl, rfl, b1, b2, sz_of (by omega), fun l hl => q (.ref l) _ ((e2.trans e3).trans (Ex.new hl)) ⟨l, xs ++ ys, rfl, upd_same, by rw [List.length_append]; omega, fun x hx => ?_⟩⟩
    rcases List.mem_append.mp hx with z | z
    · exact mo _ _ _ (Ex.new hl) (d1 x z)
    · exact mo _ _ _ (Ex.new hl) (d2 x z)
theorem go_appR {l : Addr} (hl : H l = some (.lst xs)) (ha : Ev ta σ H (.ref l)) (h : EvR te σ H R) (hz : xs.length < 100000) (k : ∀ v H2, Ex H H2 → R v H2 → Go (upd H2 l (.lst (xs ++ [v]))) (tz D σ)) :
    Go H (tSeq (tDrop (tBM K "list" rAppend ta (tCons te tNil))) tz D σ) := fun H0 e0 => ha H0 e0 _ fun H1 e1 =>
  ⟨Or.inl ⟨rfl, xs, sq_of (e1 l _ (e0 l _ hl))⟩, h H1 (e0.trans e1) _ fun v H2 e2 r => ⟨l, xs, v, rfl, rfl, e2 l _ (e1 l _ (e0 l _ hl)), sz_lt hz, k v H2 ((e0.trans e1).trans e2) r _ (Ex.refl _)⟩⟩
/-- a for over such a list; the turns keep the slots' shape, the heap only grows -/
theorem go_forU2 (mo : Mono R) (h : EvR tl σ H (ListR R n)) (P : L2.St → Prop) (h0 : P σ)
    (hs : ∀ x σ' Hk, Ex H Hk → R x Hk → P σ' → ∀ H0, Ex H H0 → Ex H0 Hk → Go Hk (tu { D with nx := Up (fun s2 H2 => P s2 ∧ Ex H0 H2), ct := Up (fun s2 H2 => P s2 ∧ Ex H0 H2), bk := tz D } (σ'.set j (some x)))) (hd : ∀ σ' Hk, Ex H Hk → P σ' → Go Hk (tz D σ')) :
    Go H (tSeq (tFor (iList K tl) (gName j) tu) tz D σ) := fun H1 e1 => h H1 e1 _ fun v H2 e2 r => by
  obtain ⟨a, xs, rfl, b, c, d⟩ := r
  exact ⟨a, rfl, ⟨xs, sq_of b⟩, for_list (D := { D with nx := tz D }) (fun _ => Up (fun s2 H3 => P s2 ∧ Ex H2 H3)) ⟨H2, ⟨h0, Ex.refl H2⟩, Ex.refl H2⟩ (fun i σ' H3 _ ⟨Hk, ⟨_, e3⟩, e4⟩ => sq_of (e4 _ _ (e3 _ _ b)))
    (fun i x σ' H3 hi ⟨Hk, ⟨p3, e3⟩, e4⟩ => hs x σ' Hk ((e1.trans e2).trans e3) (mo _ _ _ e3 (d x (List.mem_of_getElem? hi))) p3 H2 (e1.trans e2) e3 H3 e4)
    (fun σ' H3 ⟨Hk, ⟨p3, e3⟩, e4⟩ => hd σ' Hk ((e1.trans e2).trans e3) p3 H3 e4)⟩
/-- a comprehension over such a list, each step a truth -/
theorem el_mapU {f : V → V} {vs : List Nat} {p : Addr} (h : Ev tl σ H (.ref p)) (hx : SqL K H p xs) (hz : xs.length ≤ 40000) (hw : ∀ x, wipe ((wipe σ vs).set j (some x)) vs = wipe σ vs) (he : ∀ x ∈ xs, Ev te ((wipe σ vs).set j (some x)) H (f x)) : EvL (tLc (iList K tl) (gName j) tYes te vs) σ H (xs.map f) := by
  have hx2 : SqL K H p (xs.map _root_.id) := by rw [List.map_id]; exact hx
  exact el_mapL xs _root_.id f .non h hx2 hz hw he
end
/-! ## str(int) -/
def rStrI2 : List V → Hp → VK → Prop := fun xs H Q => ∃ i : Int, xs = [.int i] ∧ i.natAbs.log2 < 1920 ∧ Q (.str (toString i)) H
theorem call_strI {X : Cx} : CallR X (.type "str") rStrI2 := call_str_int
theorem ev_strI {σ : L2.St} {H : Hp} {ta : TE} {i : Int} (h : Ev ta σ H (.int i)) (hi : i.natAbs.log2 < 1920) : Ev (tCB rStrI2 (tCons ta tNil)) σ H (.str (toString i)) := fun H1 e Q q => h H1 e _ fun H2 e2 => ⟨i, rfl, hi, q H2 e2⟩
/-! ## try, an exception that meets its clause -/
theorem go_tryAs {K : PySem.W.Frag} {H : Hp} {σ : L2.St} {D : Ends} {tz : TS} {tb : WX → TS} {ts : Addr → Value → Option Addr → TS} {c : Value} {i : Nat} {Wo : WX} (h : Go H (tb (wAs K c i ts Wo { D with nx := tz D }) { D with nx := tz D } σ)) : Go H (tSeq (fun D σ H => tb (wAs K c i ts Wo D) D σ H) tz D σ) := h
theorem w_meets {K : PySem.W.Frag} {H : Hp} {σ : L2.St} {D : Ends} {ts : Addr → Value → Option Addr → TS} {cls c : Value} {i : Nat} {Wo : WX} (he : PySem.W.exmOne K cls c = some true)
    (k : ∀ a H1, Ex H H1 → H1 a = none → Go H1 (ts a cls none { nx := fun σ' H' => D.nx (σ'.set i none) H', rt := D.rt, bk := fun σ' H' => D.bk (σ'.set i none) H', ct := fun σ' H' => D.ct (σ'.set i none) H' } (σ.set i (some (.ref a))))) : Go H (wAs K c i ts Wo D cls none σ) := fun H1 e =>
  ⟨true, he, fun _ a ha => (k a H1 e ha).here, fun h => by cases h⟩
end Od

namespace Od
open PySem PySem.Spec PyProof.Rows L2 SX Evl
/-! the text by places, as linked for this law: printed by gen.py -/
def topS (i : Nat) : Stmt := PySem.Challenge.pw_oddcoin_k06_refused.main.body.getD i (.Pass ⟨0, 0, 0, 0⟩)
abbrev s_wall : Stmt := topS 0
abbrev s_is_whole : Stmt := topS 11
abbrev s_check_marks : Stmt := topS 12
abbrev s_cases_of : Stmt := topS 13
abbrev s_cases : Stmt := topS 14
abbrev s_weighings_for : Stmt := topS 15
abbrev s_fewest : Stmt := topS 16
abbrev s_is_side : Stmt := topS 19
abbrev s_is_weighing : Stmt := topS 20
abbrev s_check_weighing : Stmt := topS 21
abbrev s_left_over : Stmt := topS 22
abbrev s_sides_of : Stmt := topS 23
abbrev s_behind_of : Stmt := topS 24
abbrev s_many_behind : Stmt := topS 25
abbrev s_behind : Stmt := topS 26
abbrev s_judged : Stmt := topS 27
abbrev s_weighed : Stmt := topS 28
abbrev s_Heavy_init : Stmt := inClass (topS 31) 0
abbrev s_Heavy_shows : Stmt := inClass (topS 31) 1
abbrev s_Light_init : Stmt := inClass (topS 32) 0
abbrev s_Light_shows : Stmt := inClass (topS 32) 1
abbrev s_Nothing_shows : Stmt := inClass (topS 33) 0
abbrev s_Open_init : Stmt := inClass (topS 34) 0
abbrev s_Open_shows : Stmt := inClass (topS 34) 1
abbrev s_power : Stmt := topS 36
abbrev s_of_either : Stmt := topS 37
abbrev s_of_tilted : Stmt := topS 38
abbrev s_told : Stmt := topS 39
abbrev s_greatest : Stmt := topS 42
abbrev s_written : Stmt := topS 43
abbrev s_law_cell_at : Stmt := topS 45
abbrev s_law_draw : Stmt := topS 46
abbrev s_law_marks : Stmt := topS 47
abbrev s_law_cases : Stmt := topS 48
abbrev s_law_weighing : Stmt := topS 49
abbrev s_law_behind : Stmt := topS 50
abbrev s_law_left : Stmt := topS 51
abbrev s_law_power : Stmt := topS 52
abbrev s_law_whole : Stmt := topS 53
abbrev s_law_kinds : Stmt := topS 54
abbrev s_law_with_marks : Stmt := topS 55
abbrev s_law_with_weighing : Stmt := topS 56
abbrev s_law_with_judged : Stmt := topS 57
abbrev s_law_with_weighed : Stmt := topS 58
abbrev s_law_with_written : Stmt := topS 59
abbrev s_law_with_outcome : Stmt := topS 60
abbrev s_law_with_coins : Stmt := topS 61
abbrev s_law_with_truth : Stmt := topS 62
abbrev s_law_told : Stmt := topS 63
abbrev s_law_all : Stmt := topS 64
abbrev s_law_weighings_right : Stmt := topS 65
abbrev s_law : Stmt := topS 66
theorem k_empty : ("" : Str) = S [] := by decide +kernel
theorem k__20_ : (" " : Str) = S [32] := by decide +kernel
theorem k__20__7c__20_ : (" | " : Str) = S [32, 124, 32] := by decide +kernel
theorem k__2d_ : ("-" : Str) = S [45] := by decide +kernel
theorem k_0 : ("0" : Str) = S [48] := by decide +kernel
theorem k_0_20__7c__20_999999999 : ("0 | 999999999" : Str) = S [48, 32, 124, 32, 57, 57, 57, 57, 57, 57, 57, 57, 57] := by decide +kernel
theorem k_1 : ("1" : Str) = S [49] := by decide +kernel
theorem k_3 : ("3" : Str) = S [51] := by decide +kernel
theorem k__3f_ : ("?" : Str) = S [63] := by decide +kernel
theorem k_E : ("E" : Str) = S [69] := by decide +kernel
theorem k_Left : ("Left" : Str) = S [76, 101, 102, 116] := by decide +kernel
theorem k_h886685c6e : ("coins of which all may be, and others" : Str) = S [99, 111, 105, 110, 115, 32, 111, 102, 32, 119, 104, 105, 99, 104, 32, 97, 108, 108, 32, 109, 97, 121, 32, 98, 101, 44, 32, 97, 110, 100, 32, 111, 116, 104, 101, 114, 115] := by decide +kernel
theorem k_e : ("e" : Str) = S [101] := by decide +kernel
theorem k_e_a_ : ("e\n" : Str) = S [101, 10] := by decide +kernel
theorem k_e_20_h : ("e h" : Str) = S [101, 32, 104] := by decide +kernel
theorem k_eeee : ("eeee" : Str) = S [101, 101, 101, 101] := by decide +kernel
theorem k_eeeg : ("eeeg" : Str) = S [101, 101, 101, 103] := by decide +kernel
theorem k_eg : ("eg" : Str) = S [101, 103] := by decide +kernel
theorem k_eh : ("eh" : Str) = S [101, 104] := by decide +kernel
theorem k_ehlg : ("ehlg" : Str) = S [101, 104, 108, 103] := by decide +kernel
theorem k_el : ("el" : Str) = S [101, 108] := by decide +kernel
theorem k_even : ("even" : Str) = S [101, 118, 101, 110] := by decide +kernel
theorem k_even_20_ : ("even " : Str) = S [101, 118, 101, 110, 32] := by decide +kernel
theorem k_g : ("g" : Str) = S [103] := by decide +kernel
theorem k_geh : ("geh" : Str) = S [103, 101, 104] := by decide +kernel
theorem k_gggl : ("gggl" : Str) = S [103, 103, 103, 108] := by decide +kernel
theorem k_h : ("h" : Str) = S [104] := by decide +kernel
theorem k_he : ("he" : Str) = S [104, 101] := by decide +kernel
theorem k_heavy : ("heavy" : Str) = S [104, 101, 97, 118, 121] := by decide +kernel
theorem k_hhhl : ("hhhl" : Str) = S [104, 104, 104, 108] := by decide +kernel
theorem k_hlg : ("hlg" : Str) = S [104, 108, 103] := by decide +kernel
theorem k_it_20_can_27_t_20_come : ("it can't come" : Str) = S [105, 116, 32, 99, 97, 110, 39, 116, 32, 99, 111, 109, 101] := by decide +kernel
theorem k_l : ("l" : Str) = S [108] := by decide +kernel
theorem k_left : ("left" : Str) = S [108, 101, 102, 116] := by decide +kernel
theorem k_no : ("no" : Str) = S [110, 111] := by decide +kernel
theorem k_no_20_marks : ("no marks" : Str) = S [110, 111, 32, 109, 97, 114, 107, 115] := by decide +kernel
theorem k_no_20_outcome : ("no outcome" : Str) = S [110, 111, 32, 111, 117, 116, 99, 111, 109, 101] := by decide +kernel
theorem k_no_20_such_20_coins : ("no such coins" : Str) = S [110, 111, 32, 115, 117, 99, 104, 32, 99, 111, 105, 110, 115] := by decide +kernel
theorem k_no_20_weighing : ("no weighing" : Str) = S [110, 111, 32, 119, 101, 105, 103, 104, 105, 110, 103] := by decide +kernel
theorem k_right : ("right" : Str) = S [114, 105, 103, 104, 116] := by decide +kernel
theorem k_x : ("x" : Str) = S [120] := by decide +kernel
theorem sc_wall : FnScope ["k"] ["k"] (defScope s_wall) := ⟨rfl, rfl, rfl, by decide +kernel, rfl, by decide +kernel, by decide +kernel⟩
theorem sc_is_whole : FnScope ["thing"] ["thing"] (defScope s_is_whole) := ⟨rfl, rfl, rfl, by decide +kernel, rfl, by decide +kernel, by decide +kernel⟩
theorem sc_check_marks : FnScope ["marks", "sign"] ["marks"] (defScope s_check_marks) := ⟨rfl, rfl, rfl, by decide +kernel, rfl, by decide +kernel, by decide +kernel⟩
theorem sc_cases_of : FnScope ["marks", "found"] ["marks"] (defScope s_cases_of) := ⟨rfl, rfl, rfl, by decide +kernel, rfl, by decide +kernel, by decide +kernel⟩
theorem sc_cases : FnScope ["marks"] ["marks"] (defScope s_cases) := ⟨rfl, rfl, rfl, by decide +kernel, rfl, by decide +kernel, by decide +kernel⟩
theorem sc_weighings_for : FnScope ["many", "found", "outcomes"] ["many"] (defScope s_weighings_for) := ⟨rfl, rfl, rfl, by decide +kernel, rfl, by decide +kernel, by decide +kernel⟩
theorem sc_fewest : FnScope ["marks"] ["marks"] (defScope s_fewest) := ⟨rfl, rfl, rfl, by decide +kernel, rfl, by decide +kernel, by decide +kernel⟩
theorem sc_is_side : FnScope ["thing", "coins", "coin", "last"] ["thing", "coins"] (defScope s_is_side) := ⟨rfl, rfl, rfl, by decide +kernel, rfl, by decide +kernel, by decide +kernel⟩
theorem sc_is_weighing : FnScope ["coins", "left", "right", "coin"] ["coins", "left", "right"] (defScope s_is_weighing) := ⟨rfl, rfl, rfl, by decide +kernel, rfl, by decide +kernel, by decide +kernel⟩
theorem sc_check_weighing : FnScope ["coins", "left", "right"] ["coins", "left", "right"] (defScope s_check_weighing) := ⟨rfl, rfl, rfl, by decide +kernel, rfl, by decide +kernel, by decide +kernel⟩
theorem sc_left_over : FnScope ["sign", "side", "outcome"] ["sign", "side", "outcome"] (defScope s_left_over) := ⟨rfl, rfl, rfl, by decide +kernel, rfl, by decide +kernel, by decide +kernel⟩
theorem sc_sides_of : FnScope ["coins", "left", "right", "outcome", "found", "down", "up", "coin"] ["coins", "left", "right", "outcome"] (defScope s_sides_of) := ⟨rfl, rfl, rfl, by decide +kernel, rfl, by decide +kernel, by decide +kernel⟩
theorem sc_behind_of : FnScope ["marks", "left", "right", "outcome", "sides", "coin", "sign"] ["marks", "left", "right", "outcome"] (defScope s_behind_of) := ⟨rfl, rfl, rfl, by decide +kernel, rfl, by decide +kernel, by decide +kernel⟩
theorem sc_many_behind : FnScope ["marks", "left", "right", "outcome", "found", "many"] ["marks", "left", "right", "outcome"] (defScope s_many_behind) := ⟨rfl, rfl, rfl, by decide +kernel, rfl, by decide +kernel, by decide +kernel⟩
theorem sc_behind : FnScope ["marks", "left", "right", "outcome"] ["marks", "left", "right", "outcome"] (defScope s_behind) := ⟨rfl, rfl, rfl, by decide +kernel, rfl, by decide +kernel, by decide +kernel⟩
theorem sc_judged : FnScope ["marks", "left", "right", "outcome"] ["marks", "left", "right"] (defScope s_judged) := ⟨rfl, rfl, rfl, by decide +kernel, rfl, by decide +kernel, by decide +kernel⟩
theorem sc_weighed : FnScope ["coins", "odd", "heavy", "left", "right"] ["coins", "odd", "heavy", "left", "right"] (defScope s_weighed) := ⟨rfl, rfl, rfl, by decide +kernel, rfl, by decide +kernel, by decide +kernel⟩
theorem sc_Heavy_init : FnScope ["self", "coin"] ["self", "coin"] (defScope s_Heavy_init) := ⟨rfl, rfl, rfl, by decide +kernel, rfl, by decide +kernel, by decide +kernel⟩
theorem sc_Heavy_shows : FnScope ["self", "marks"] ["self", "marks"] (defScope s_Heavy_shows) := ⟨rfl, rfl, rfl, by decide +kernel, rfl, by decide +kernel, by decide +kernel⟩
theorem sc_Light_init : FnScope ["self", "coin"] ["self", "coin"] (defScope s_Light_init) := ⟨rfl, rfl, rfl, by decide +kernel, rfl, by decide +kernel, by decide +kernel⟩
theorem sc_Light_shows : FnScope ["self", "marks"] ["self", "marks"] (defScope s_Light_shows) := ⟨rfl, rfl, rfl, by decide +kernel, rfl, by decide +kernel, by decide +kernel⟩
theorem sc_Nothing_shows : FnScope ["self", "marks"] ["self", "marks"] (defScope s_Nothing_shows) := ⟨rfl, rfl, rfl, by decide +kernel, rfl, by decide +kernel, by decide +kernel⟩
theorem sc_Open_init : FnScope ["self", "left", "right", "many"] ["self", "left", "right", "many"] (defScope s_Open_init) := ⟨rfl, rfl, rfl, by decide +kernel, rfl, by decide +kernel, by decide +kernel⟩
theorem sc_Open_shows : FnScope ["self", "marks"] ["self", "marks"] (defScope s_Open_shows) := ⟨rfl, rfl, rfl, by decide +kernel, rfl, by decide +kernel, by decide +kernel⟩
theorem sc_power : FnScope ["many", "found", "turn"] ["many"] (defScope s_power) := ⟨rfl, rfl, rfl, by decide +kernel, rfl, by decide +kernel, by decide +kernel⟩
theorem sc_of_either : FnScope ["coins", "beside", "outcomes", "many", "half", "left", "right"] ["coins", "beside", "outcomes"] (defScope s_of_either) := ⟨rfl, rfl, rfl, by decide +kernel, rfl, by decide +kernel, by decide +kernel⟩
theorem sc_of_tilted : FnScope ["heavy", "light", "beside", "outcomes", "due", "first", "second", "left", "right"] ["heavy", "light", "beside", "outcomes"] (defScope s_of_tilted) := ⟨rfl, rfl, rfl, by decide +kernel, rfl, by decide +kernel, by decide +kernel⟩
theorem sc_told : FnScope ["marks", "whole", "heavy", "coin", "sign", "light", "many", "either", "left", "right"] ["marks"] (defScope s_told) := ⟨rfl, rfl, rfl, by decide +kernel, rfl, by decide +kernel, by decide +kernel⟩
theorem sc_greatest : FnScope ["left", "right", "coin"] ["left", "right"] (defScope s_greatest) := ⟨rfl, rfl, rfl, by decide +kernel, rfl, by decide +kernel, by decide +kernel⟩
theorem sc_written : FnScope ["left", "right", "most", "coin"] ["left", "right"] (defScope s_written) := ⟨rfl, rfl, rfl, by decide +kernel, rfl, by decide +kernel, by decide +kernel⟩
theorem sc_law_cell_at : FnScope ["_law_script", "_law_k"] ["_law_script", "_law_k"] (defScope s_law_cell_at) := ⟨rfl, rfl, rfl, by decide +kernel, rfl, by decide +kernel, by decide +kernel⟩
theorem sc_law_draw : FnScope ["_law_cell", "_law_k", "_law_many", "_law_primes"] ["_law_cell", "_law_k", "_law_many"] (defScope s_law_draw) := ⟨rfl, rfl, rfl, by decide +kernel, rfl, by decide +kernel, by decide +kernel⟩
theorem sc_law_marks : FnScope ["_law_script", "_law_kind", "_law_signs", "_law_k"] ["_law_script"] (defScope s_law_marks) := ⟨rfl, rfl, rfl, by decide +kernel, rfl, by decide +kernel, by decide +kernel⟩
theorem sc_law_cases : FnScope ["_law_marks_here", "_law_many"] ["_law_marks_here"] (defScope s_law_cases) := ⟨rfl, rfl, rfl, by decide +kernel, rfl, by decide +kernel, by decide +kernel⟩
theorem sc_law_weighing : FnScope ["_law_coins", "_law_left_here", "_law_right", "_law_side", "_law_coin"] ["_law_coins", "_law_left_here", "_law_right"] (defScope s_law_weighing) := ⟨rfl, rfl, rfl, by decide +kernel, rfl, by decide +kernel, by decide +kernel⟩
theorem sc_law_behind : FnScope ["_law_marks_here", "_law_left_here", "_law_right", "_law_outcome", "_law_found", "_law_coin", "_law_sign", "_law_side"] ["_law_marks_here", "_law_left_here", "_law_right", "_law_outcome"] (defScope s_law_behind) := ⟨rfl, rfl, rfl, by decide +kernel, rfl, by decide +kernel, by decide +kernel⟩
theorem sc_law_left : FnScope ["_law_marks_here", "_law_left_here", "_law_right", "_law_found", "_law_outcome", "_law_after", "_law_many"] ["_law_marks_here", "_law_left_here", "_law_right"] (defScope s_law_left) := ⟨rfl, rfl, rfl, by decide +kernel, rfl, by decide +kernel, by decide +kernel⟩
theorem sc_law_power : FnScope ["_law_many", "_law_found", "_law_turn"] ["_law_many"] (defScope s_law_power) := ⟨rfl, rfl, rfl, by decide +kernel, rfl, by decide +kernel, by decide +kernel⟩
theorem sc_law_whole : FnScope ["_law_number"] ["_law_number"] (defScope s_law_whole) := ⟨rfl, rfl, rfl, by decide +kernel, rfl, by decide +kernel, by decide +kernel⟩
theorem sc_law_kinds : FnScope ["_law_error", "_law_found"] ["_law_error"] (defScope s_law_kinds) := ⟨rfl, rfl, rfl, by decide +kernel, rfl, by decide +kernel, by decide +kernel⟩
theorem sc_law_with_marks : FnScope ["_law_door", "_law_marks_here"] ["_law_door", "_law_marks_here"] (defScope s_law_with_marks) := ⟨rfl, rfl, rfl, by decide +kernel, rfl, by decide +kernel, by decide +kernel⟩
theorem sc_law_with_weighing : FnScope ["_law_marks_here", "_law_pair"] ["_law_marks_here", "_law_pair"] (defScope s_law_with_weighing) := ⟨rfl, rfl, rfl, by decide +kernel, rfl, by decide +kernel, by decide +kernel⟩
theorem sc_law_with_judged : FnScope ["_law_marks_here", "_law_pair"] ["_law_marks_here", "_law_pair"] (defScope s_law_with_judged) := ⟨rfl, rfl, rfl, by decide +kernel, rfl, by decide +kernel, by decide +kernel⟩
theorem sc_law_with_weighed : FnScope ["_law_coins", "_law_pair"] ["_law_coins", "_law_pair"] (defScope s_law_with_weighed) := ⟨rfl, rfl, rfl, by decide +kernel, rfl, by decide +kernel, by decide +kernel⟩
theorem sc_law_with_written : FnScope ["_law_nothing", "_law_pair"] ["_law_nothing", "_law_pair"] (defScope s_law_with_written) := ⟨rfl, rfl, rfl, by decide +kernel, rfl, by decide +kernel, by decide +kernel⟩
theorem sc_law_with_outcome : FnScope ["_law_marks_here", "_law_outcome"] ["_law_marks_here", "_law_outcome"] (defScope s_law_with_outcome) := ⟨rfl, rfl, rfl, by decide +kernel, rfl, by decide +kernel, by decide +kernel⟩
theorem sc_law_with_coins : FnScope ["_law_coins", "_law_odd"] ["_law_coins", "_law_odd"] (defScope s_law_with_coins) := ⟨rfl, rfl, rfl, by decide +kernel, rfl, by decide +kernel, by decide +kernel⟩
theorem sc_law_with_truth : FnScope ["_law_coins", "_law_heavy"] ["_law_coins", "_law_heavy"] (defScope s_law_with_truth) := ⟨rfl, rfl, rfl, by decide +kernel, rfl, by decide +kernel, by decide +kernel⟩
theorem sc_law_told : FnScope ["_law_ask", "_law_one", "_law_other", "_law_error"] ["_law_ask", "_law_one", "_law_other"] (defScope s_law_told) := ⟨rfl, rfl, rfl, by decide +kernel, rfl, by decide +kernel, by decide +kernel⟩
theorem sc_law_all : FnScope ["_law_ask", "_law_one", "_law_things", "_law_due", "_law_thing"] ["_law_ask", "_law_one", "_law_things", "_law_due"] (defScope s_law_all) := ⟨rfl, rfl, rfl, by decide +kernel, rfl, by decide +kernel, by decide +kernel⟩
theorem sc_law_weighings_right : FnScope ["_law_marks_here", "_law_coins", "_law_due", "_law_far", "_law_pairs", "_law_low", "_law_more", "_law_pair"] ["_law_marks_here", "_law_coins", "_law_due", "_law_far"] (defScope s_law_weighings_right) := ⟨rfl, rfl, rfl, by decide +kernel, rfl, by decide +kernel, by decide +kernel⟩
theorem sc_law : FnScope ["_law_script", "_law_far", "_law_due", "_law_k", "_law_marks_here", "_law_coins", "_law_at", "_law_bad", "_law_door", "_law_thing"] ["_law_script"] (defScope s_law) := ⟨rfl, rfl, rfl, by decide +kernel, rfl, by decide +kernel, by decide +kernel⟩
/-! what the top leaves: asked of the heap by one run -/
def d_wall : He.DefD := ⟨("_wall", none), "_wall", "_wall", defArgs s_wall, defBody s_wall, defScope s_wall, [], []⟩
def d_is_whole : He.DefD := ⟨("is_whole", none), "is_whole", "is_whole", defArgs s_is_whole, defBody s_is_whole, defScope s_is_whole, [], []⟩
def d_check_marks : He.DefD := ⟨("check_marks", none), "check_marks", "check_marks", defArgs s_check_marks, defBody s_check_marks, defScope s_check_marks, [], []⟩
def d_cases_of : He.DefD := ⟨("cases_of", none), "cases_of", "cases_of", defArgs s_cases_of, defBody s_cases_of, defScope s_cases_of, [], []⟩
def d_cases : He.DefD := ⟨("cases", none), "cases", "cases", defArgs s_cases, defBody s_cases, defScope s_cases, [], []⟩
def d_weighings_for : He.DefD := ⟨("weighings_for", none), "weighings_for", "weighings_for", defArgs s_weighings_for, defBody s_weighings_for, defScope s_weighings_for, [], []⟩
def d_fewest : He.DefD := ⟨("fewest", none), "fewest", "fewest", defArgs s_fewest, defBody s_fewest, defScope s_fewest, [], []⟩
def d_is_side : He.DefD := ⟨("is_side", none), "is_side", "is_side", defArgs s_is_side, defBody s_is_side, defScope s_is_side, [], []⟩
def d_is_weighing : He.DefD := ⟨("is_weighing", none), "is_weighing", "is_weighing", defArgs s_is_weighing, defBody s_is_weighing, defScope s_is_weighing, [], []⟩
def d_check_weighing : He.DefD := ⟨("check_weighing", none), "check_weighing", "check_weighing", defArgs s_check_weighing, defBody s_check_weighing, defScope s_check_weighing, [], []⟩
def d_left_over : He.DefD := ⟨("left_over", none), "left_over", "left_over", defArgs s_left_over, defBody s_left_over, defScope s_left_over, [], []⟩
def d_sides_of : He.DefD := ⟨("sides_of", none), "sides_of", "sides_of", defArgs s_sides_of, defBody s_sides_of, defScope s_sides_of, [], []⟩
def d_behind_of : He.DefD := ⟨("behind_of", none), "behind_of", "behind_of", defArgs s_behind_of, defBody s_behind_of, defScope s_behind_of, [], []⟩
def d_many_behind : He.DefD := ⟨("many_behind", none), "many_behind", "many_behind", defArgs s_many_behind, defBody s_many_behind, defScope s_many_behind, [], []⟩
def d_behind : He.DefD := ⟨("behind", none), "behind", "behind", defArgs s_behind, defBody s_behind, defScope s_behind, [], []⟩
def d_judged : He.DefD := ⟨("judged", none), "judged", "judged", defArgs s_judged, defBody s_judged, defScope s_judged, [], []⟩
def d_weighed : He.DefD := ⟨("weighed", none), "weighed", "weighed", defArgs s_weighed, defBody s_weighed, defScope s_weighed, [], []⟩
def d_Heavy_init : He.DefD := ⟨("Heavy", some "__init__"), "__init__", "Heavy.__init__", defArgs s_Heavy_init, defBody s_Heavy_init, defScope s_Heavy_init, [], []⟩
def d_Heavy_shows : He.DefD := ⟨("Heavy", some "shows"), "shows", "Heavy.shows", defArgs s_Heavy_shows, defBody s_Heavy_shows, defScope s_Heavy_shows, [], []⟩
def d_Light_init : He.DefD := ⟨("Light", some "__init__"), "__init__", "Light.__init__", defArgs s_Light_init, defBody s_Light_init, defScope s_Light_init, [], []⟩
def d_Light_shows : He.DefD := ⟨("Light", some "shows"), "shows", "Light.shows", defArgs s_Light_shows, defBody s_Light_shows, defScope s_Light_shows, [], []⟩
def d_Nothing_shows : He.DefD := ⟨("Nothing", some "shows"), "shows", "Nothing.shows", defArgs s_Nothing_shows, defBody s_Nothing_shows, defScope s_Nothing_shows, [], []⟩
def d_Open_init : He.DefD := ⟨("Open", some "__init__"), "__init__", "Open.__init__", defArgs s_Open_init, defBody s_Open_init, defScope s_Open_init, [], []⟩
def d_Open_shows : He.DefD := ⟨("Open", some "shows"), "shows", "Open.shows", defArgs s_Open_shows, defBody s_Open_shows, defScope s_Open_shows, [], []⟩
def d_power : He.DefD := ⟨("power", none), "power", "power", defArgs s_power, defBody s_power, defScope s_power, [], []⟩
def d_of_either : He.DefD := ⟨("of_either", none), "of_either", "of_either", defArgs s_of_either, defBody s_of_either, defScope s_of_either, [], []⟩
def d_of_tilted : He.DefD := ⟨("of_tilted", none), "of_tilted", "of_tilted", defArgs s_of_tilted, defBody s_of_tilted, defScope s_of_tilted, [], []⟩
def d_told : He.DefD := ⟨("told", none), "told", "told", defArgs s_told, defBody s_told, defScope s_told, [], []⟩
def d_greatest : He.DefD := ⟨("greatest", none), "greatest", "greatest", defArgs s_greatest, defBody s_greatest, defScope s_greatest, [], []⟩
def d_written : He.DefD := ⟨("written", none), "written", "written", defArgs s_written, defBody s_written, defScope s_written, [], []⟩
def d_law_cell_at : He.DefD := ⟨("_law_cell_at", none), "_law_cell_at", "_law_cell_at", defArgs s_law_cell_at, defBody s_law_cell_at, defScope s_law_cell_at, [], []⟩
def d_law_draw : He.DefD := ⟨("_law_draw", none), "_law_draw", "_law_draw", defArgs s_law_draw, defBody s_law_draw, defScope s_law_draw, [], []⟩
def d_law_marks : He.DefD := ⟨("_law_marks", none), "_law_marks", "_law_marks", defArgs s_law_marks, defBody s_law_marks, defScope s_law_marks, [], []⟩
def d_law_cases : He.DefD := ⟨("_law_cases", none), "_law_cases", "_law_cases", defArgs s_law_cases, defBody s_law_cases, defScope s_law_cases, [], []⟩
def d_law_weighing : He.DefD := ⟨("_law_weighing", none), "_law_weighing", "_law_weighing", defArgs s_law_weighing, defBody s_law_weighing, defScope s_law_weighing, [], []⟩
def d_law_behind : He.DefD := ⟨("_law_behind", none), "_law_behind", "_law_behind", defArgs s_law_behind, defBody s_law_behind, defScope s_law_behind, [], []⟩
def d_law_left : He.DefD := ⟨("_law_left", none), "_law_left", "_law_left", defArgs s_law_left, defBody s_law_left, defScope s_law_left, [], []⟩
def d_law_power : He.DefD := ⟨("_law_power", none), "_law_power", "_law_power", defArgs s_law_power, defBody s_law_power, defScope s_law_power, [], []⟩
def d_law_whole : He.DefD := ⟨("_law_whole", none), "_law_whole", "_law_whole", defArgs s_law_whole, defBody s_law_whole, defScope s_law_whole, [], []⟩
def d_law_kinds : He.DefD := ⟨("_law_kinds", none), "_law_kinds", "_law_kinds", defArgs s_law_kinds, defBody s_law_kinds, defScope s_law_kinds, [], []⟩
def d_law_with_marks : He.DefD := ⟨("_law_with_marks", none), "_law_with_marks", "_law_with_marks", defArgs s_law_with_marks, defBody s_law_with_marks, defScope s_law_with_marks, [], []⟩
def d_law_with_weighing : He.DefD := ⟨("_law_with_weighing", none), "_law_with_weighing", "_law_with_weighing", defArgs s_law_with_weighing, defBody s_law_with_weighing, defScope s_law_with_weighing, [], []⟩
def d_law_with_judged : He.DefD := ⟨("_law_with_judged", none), "_law_with_judged", "_law_with_judged", defArgs s_law_with_judged, defBody s_law_with_judged, defScope s_law_with_judged, [], []⟩
def d_law_with_weighed : He.DefD := ⟨("_law_with_weighed", none), "_law_with_weighed", "_law_with_weighed", defArgs s_law_with_weighed, defBody s_law_with_weighed, defScope s_law_with_weighed, [], []⟩
def d_law_with_written : He.DefD := ⟨("_law_with_written", none), "_law_with_written", "_law_with_written", defArgs s_law_with_written, defBody s_law_with_written, defScope s_law_with_written, [], []⟩
def d_law_with_outcome : He.DefD := ⟨("_law_with_outcome", none), "_law_with_outcome", "_law_with_outcome", defArgs s_law_with_outcome, defBody s_law_with_outcome, defScope s_law_with_outcome, [], []⟩
def d_law_with_coins : He.DefD := ⟨("_law_with_coins", none), "_law_with_coins", "_law_with_coins", defArgs s_law_with_coins, defBody s_law_with_coins, defScope s_law_with_coins, [], []⟩
def d_law_with_truth : He.DefD := ⟨("_law_with_truth", none), "_law_with_truth", "_law_with_truth", defArgs s_law_with_truth, defBody s_law_with_truth, defScope s_law_with_truth, [], []⟩
def d_law_told : He.DefD := ⟨("_law_told", none), "_law_told", "_law_told", defArgs s_law_told, defBody s_law_told, defScope s_law_told, [], []⟩
def d_law_all : He.DefD := ⟨("_law_all", none), "_law_all", "_law_all", defArgs s_law_all, defBody s_law_all, defScope s_law_all, [], []⟩
def d_law_weighings_right : He.DefD := ⟨("_law_weighings_right", none), "_law_weighings_right", "_law_weighings_right", defArgs s_law_weighings_right, defBody s_law_weighings_right, defScope s_law_weighings_right, [], []⟩
def d_law : He.DefD := ⟨("law", none), "law", "law", defArgs s_law, defBody s_law, defScope s_law, [], []⟩
def fns : List He.DefD := [d_wall, d_is_whole, d_check_marks, d_cases_of, d_cases, d_weighings_for, d_fewest, d_is_side, d_is_weighing, d_check_weighing, d_left_over, d_sides_of, d_behind_of, d_many_behind, d_behind, d_judged, d_weighed, d_Heavy_init, d_Heavy_shows, d_Light_init, d_Light_shows, d_Nothing_shows, d_Open_init, d_Open_shows, d_power, d_of_either, d_of_tilted, d_told, d_greatest, d_written, d_law_cell_at, d_law_draw, d_law_marks, d_law_cases, d_law_weighing, d_law_behind, d_law_left, d_law_power, d_law_whole, d_law_kinds, d_law_with_marks, d_law_with_weighing, d_law_with_judged, d_law_with_weighed, d_law_with_written, d_law_with_outcome, d_law_with_coins, d_law_with_truth, d_law_told, d_law_all, d_law_weighings_right, d_law]
def fas : List He.Fa := [.glo "_wall",
  .glo "is_whole",
  .glo "check_marks",
  .glo "cases_of",
  .glo "cases",
  .glo "weighings_for",
  .glo "fewest",
  .glo "is_side",
  .glo "is_weighing",
  .glo "check_weighing",
  .glo "left_over",
  .glo "sides_of",
  .glo "behind_of",
  .glo "many_behind",
  .glo "behind",
  .glo "judged",
  .glo "weighed",
  .mkr "Heavy",
  .meth "Heavy" "shows",
  .mkr "Light",
  .meth "Light" "shows",
  .meth "Nothing" "shows",
  .mkr "Open",
  .meth "Open" "shows",
  .glo "power",
  .glo "of_either",
  .glo "of_tilted",
  .glo "told",
  .glo "greatest",
  .glo "written",
  .glo "_law_cell_at",
  .glo "_law_draw",
  .glo "_law_marks",
  .glo "_law_cases",
  .glo "_law_weighing",
  .glo "_law_behind",
  .glo "_law_left",
  .glo "_law_power",
  .glo "_law_whole",
  .glo "_law_kinds",
  .glo "_law_with_marks",
  .glo "_law_with_weighing",
  .glo "_law_with_judged",
  .glo "_law_with_weighed",
  .glo "_law_with_written",
  .glo "_law_with_outcome",
  .glo "_law_with_coins",
  .glo "_law_with_truth",
  .glo "_law_told",
  .glo "_law_all",
  .glo "_law_weighings_right",
  .glo "law",
  .free "ValueError",
  .free "all",
  .free "any",
  .free "bool",
  .free "enumerate",
  .free "int",
  .free "isinstance",
  .free "len",
  .free "list",
  .free "max",
  .free "min",
  .free "range",
  .free "set",
  .free "sorted",
  .free "str",
  .free "tuple",
  .str "SIGNS" "ehlg",
  .glo "OUTCOMES",
  .int "MOST" 1000000000,
  .glo "Answer",
  .cls "Answer",
  .glo "Heavy",
  .cls "Heavy",
  .noat "Heavy" "coin",
  .glo "Light",
  .cls "Light",
  .noat "Light" "coin",
  .glo "Nothing",
  .cls "Nothing",
  .glo "Open",
  .cls "Open",
  .noat "Open" "left",
  .noat "Open" "right",
  .noat "Open" "many",
  .glo "CoinError",
  .exc "CoinError",
  .glo "BadMarks",
  .exc "BadMarks",
  .glo "BadWeighing",
  .exc "BadWeighing",
  .glo "BadOutcome",
  .exc "BadOutcome",
  .glo "Never",
  .exc "Never",
  .glo "BadCoin",
  .exc "BadCoin",
  .glo "BadText",
  .exc "BadText"]
def exs (K : PySem.W.Frag) : List Bool := [He.lstB K "OUTCOMES" [.str "left", .str "right", .str "even"],
  insB K (He.ga K "Answer"),
  insB K (He.ga K "Heavy"),
  decide (PySem.W.kitOne K (.ref (He.ga K "Heavy")) (.ref (He.ga K "Answer")) = some true),
  decide (PySem.W.kitOne K (.ref (He.ga K "Heavy")) (.ref (He.ga K "Heavy")) = some true),
  decide (PySem.W.kitOne K (.ref (He.ga K "Heavy")) (.ref (He.ga K "Light")) = some false),
  decide (PySem.W.kitOne K (.ref (He.ga K "Heavy")) (.ref (He.ga K "Nothing")) = some false),
  decide (PySem.W.kitOne K (.ref (He.ga K "Heavy")) (.ref (He.ga K "Open")) = some false),
  insB K (He.ga K "Light"),
  decide (PySem.W.kitOne K (.ref (He.ga K "Light")) (.ref (He.ga K "Answer")) = some true),
  decide (PySem.W.kitOne K (.ref (He.ga K "Light")) (.ref (He.ga K "Heavy")) = some false),
  decide (PySem.W.kitOne K (.ref (He.ga K "Light")) (.ref (He.ga K "Light")) = some true),
  decide (PySem.W.kitOne K (.ref (He.ga K "Light")) (.ref (He.ga K "Nothing")) = some false),
  decide (PySem.W.kitOne K (.ref (He.ga K "Light")) (.ref (He.ga K "Open")) = some false),
  insB K (He.ga K "Nothing"),
  mk0B K (He.ga K "Nothing"),
  decide (PySem.W.kitOne K (.ref (He.ga K "Nothing")) (.ref (He.ga K "Answer")) = some true),
  decide (PySem.W.kitOne K (.ref (He.ga K "Nothing")) (.ref (He.ga K "Heavy")) = some false),
  decide (PySem.W.kitOne K (.ref (He.ga K "Nothing")) (.ref (He.ga K "Light")) = some false),
  decide (PySem.W.kitOne K (.ref (He.ga K "Nothing")) (.ref (He.ga K "Nothing")) = some true),
  decide (PySem.W.kitOne K (.ref (He.ga K "Nothing")) (.ref (He.ga K "Open")) = some false),
  insB K (He.ga K "Open"),
  decide (PySem.W.kitOne K (.ref (He.ga K "Open")) (.ref (He.ga K "Answer")) = some true),
  decide (PySem.W.kitOne K (.ref (He.ga K "Open")) (.ref (He.ga K "Heavy")) = some false),
  decide (PySem.W.kitOne K (.ref (He.ga K "Open")) (.ref (He.ga K "Light")) = some false),
  decide (PySem.W.kitOne K (.ref (He.ga K "Open")) (.ref (He.ga K "Nothing")) = some false),
  decide (PySem.W.kitOne K (.ref (He.ga K "Open")) (.ref (He.ga K "Open")) = some true),
  decide (PySem.W.exmOne K (.ref (He.ga K "BadMarks")) (.ref (He.ga K "CoinError")) = some true),
  decide (PySem.W.kitOne K (.ref (He.ga K "BadMarks")) (.ref (He.ga K "CoinError")) = some true),
  decide (PySem.W.kitOne K (.ref (He.ga K "BadMarks")) (.ref (He.ga K "BadMarks")) = some true),
  decide (PySem.W.exmOne K (.ref (He.ga K "BadMarks")) (.ref (He.ga K "BadWeighing")) = some false),
  decide (PySem.W.kitOne K (.ref (He.ga K "BadMarks")) (.ref (He.ga K "BadWeighing")) = some false),
  decide (PySem.W.kitOne K (.ref (He.ga K "BadMarks")) (.ref (He.ga K "BadOutcome")) = some false),
  decide (PySem.W.kitOne K (.ref (He.ga K "BadMarks")) (.ref (He.ga K "Never")) = some false),
  decide (PySem.W.kitOne K (.ref (He.ga K "BadMarks")) (.ref (He.ga K "BadCoin")) = some false),
  decide (PySem.W.kitOne K (.ref (He.ga K "BadMarks")) (.ref (He.ga K "BadText")) = some false),
  decide (PySem.W.kitOne K (.ref (He.ga K "BadMarks")) (.type "ValueError") = some true),
  excCB K (He.ga K "BadMarks"),
  decide (PySem.W.exmOne K (.ref (He.ga K "BadWeighing")) (.ref (He.ga K "CoinError")) = some true),
  decide (PySem.W.kitOne K (.ref (He.ga K "BadWeighing")) (.ref (He.ga K "CoinError")) = some true),
  decide (PySem.W.kitOne K (.ref (He.ga K "BadWeighing")) (.ref (He.ga K "BadMarks")) = some false),
  decide (PySem.W.exmOne K (.ref (He.ga K "BadWeighing")) (.ref (He.ga K "BadWeighing")) = some true),
  decide (PySem.W.kitOne K (.ref (He.ga K "BadWeighing")) (.ref (He.ga K "BadWeighing")) = some true),
  decide (PySem.W.kitOne K (.ref (He.ga K "BadWeighing")) (.ref (He.ga K "BadOutcome")) = some false),
  decide (PySem.W.kitOne K (.ref (He.ga K "BadWeighing")) (.ref (He.ga K "Never")) = some false),
  decide (PySem.W.kitOne K (.ref (He.ga K "BadWeighing")) (.ref (He.ga K "BadCoin")) = some false),
  decide (PySem.W.kitOne K (.ref (He.ga K "BadWeighing")) (.ref (He.ga K "BadText")) = some false),
  decide (PySem.W.kitOne K (.ref (He.ga K "BadWeighing")) (.type "ValueError") = some true),
  excCB K (He.ga K "BadWeighing"),
  decide (PySem.W.exmOne K (.ref (He.ga K "BadOutcome")) (.ref (He.ga K "CoinError")) = some true),
  decide (PySem.W.kitOne K (.ref (He.ga K "BadOutcome")) (.ref (He.ga K "CoinError")) = some true),
  decide (PySem.W.kitOne K (.ref (He.ga K "BadOutcome")) (.ref (He.ga K "BadMarks")) = some false),
  decide (PySem.W.exmOne K (.ref (He.ga K "BadOutcome")) (.ref (He.ga K "BadWeighing")) = some false),
  decide (PySem.W.kitOne K (.ref (He.ga K "BadOutcome")) (.ref (He.ga K "BadWeighing")) = some false),
  decide (PySem.W.kitOne K (.ref (He.ga K "BadOutcome")) (.ref (He.ga K "BadOutcome")) = some true),
  decide (PySem.W.kitOne K (.ref (He.ga K "BadOutcome")) (.ref (He.ga K "Never")) = some false),
  decide (PySem.W.kitOne K (.ref (He.ga K "BadOutcome")) (.ref (He.ga K "BadCoin")) = some false),
  decide (PySem.W.kitOne K (.ref (He.ga K "BadOutcome")) (.ref (He.ga K "BadText")) = some false),
  decide (PySem.W.kitOne K (.ref (He.ga K "BadOutcome")) (.type "ValueError") = some true),
  excCB K (He.ga K "BadOutcome"),
  decide (PySem.W.exmOne K (.ref (He.ga K "Never")) (.ref (He.ga K "CoinError")) = some true),
  decide (PySem.W.kitOne K (.ref (He.ga K "Never")) (.ref (He.ga K "CoinError")) = some true),
  decide (PySem.W.kitOne K (.ref (He.ga K "Never")) (.ref (He.ga K "BadMarks")) = some false),
  decide (PySem.W.exmOne K (.ref (He.ga K "Never")) (.ref (He.ga K "BadWeighing")) = some false),
  decide (PySem.W.kitOne K (.ref (He.ga K "Never")) (.ref (He.ga K "BadWeighing")) = some false),
  decide (PySem.W.kitOne K (.ref (He.ga K "Never")) (.ref (He.ga K "BadOutcome")) = some false),
  decide (PySem.W.kitOne K (.ref (He.ga K "Never")) (.ref (He.ga K "Never")) = some true),
  decide (PySem.W.kitOne K (.ref (He.ga K "Never")) (.ref (He.ga K "BadCoin")) = some false),
  decide (PySem.W.kitOne K (.ref (He.ga K "Never")) (.ref (He.ga K "BadText")) = some false),
  decide (PySem.W.kitOne K (.ref (He.ga K "Never")) (.type "ValueError") = some true),
  excCB K (He.ga K "Never"),
  decide (PySem.W.exmOne K (.ref (He.ga K "BadCoin")) (.ref (He.ga K "CoinError")) = some true),
  decide (PySem.W.kitOne K (.ref (He.ga K "BadCoin")) (.ref (He.ga K "CoinError")) = some true),
  decide (PySem.W.kitOne K (.ref (He.ga K "BadCoin")) (.ref (He.ga K "BadMarks")) = some false),
  decide (PySem.W.exmOne K (.ref (He.ga K "BadCoin")) (.ref (He.ga K "BadWeighing")) = some false),
  decide (PySem.W.kitOne K (.ref (He.ga K "BadCoin")) (.ref (He.ga K "BadWeighing")) = some false),
  decide (PySem.W.kitOne K (.ref (He.ga K "BadCoin")) (.ref (He.ga K "BadOutcome")) = some false),
  decide (PySem.W.kitOne K (.ref (He.ga K "BadCoin")) (.ref (He.ga K "Never")) = some false),
  decide (PySem.W.kitOne K (.ref (He.ga K "BadCoin")) (.ref (He.ga K "BadCoin")) = some true),
  decide (PySem.W.kitOne K (.ref (He.ga K "BadCoin")) (.ref (He.ga K "BadText")) = some false),
  decide (PySem.W.kitOne K (.ref (He.ga K "BadCoin")) (.type "ValueError") = some true),
  excCB K (He.ga K "BadCoin"),
  decide (PySem.W.exmOne K (.ref (He.ga K "BadText")) (.ref (He.ga K "CoinError")) = some true),
  decide (PySem.W.kitOne K (.ref (He.ga K "BadText")) (.ref (He.ga K "CoinError")) = some true),
  decide (PySem.W.kitOne K (.ref (He.ga K "BadText")) (.ref (He.ga K "BadMarks")) = some false),
  decide (PySem.W.exmOne K (.ref (He.ga K "BadText")) (.ref (He.ga K "BadWeighing")) = some false),
  decide (PySem.W.kitOne K (.ref (He.ga K "BadText")) (.ref (He.ga K "BadWeighing")) = some false),
  decide (PySem.W.kitOne K (.ref (He.ga K "BadText")) (.ref (He.ga K "BadOutcome")) = some false),
  decide (PySem.W.kitOne K (.ref (He.ga K "BadText")) (.ref (He.ga K "Never")) = some false),
  decide (PySem.W.kitOne K (.ref (He.ga K "BadText")) (.ref (He.ga K "BadCoin")) = some false),
  decide (PySem.W.kitOne K (.ref (He.ga K "BadText")) (.ref (He.ga K "BadText")) = some true),
  decide (PySem.W.kitOne K (.ref (He.ga K "BadText")) (.type "ValueError") = some true),
  excCB K (He.ga K "BadText")]
structure Txt (K : PySem.W.Frag) (mg : Str → Option Value) : Prop where
  f_wall : ∃ fd, FunD K "_wall" "_wall" (defArgs s_wall) (defBody s_wall) (defScope s_wall) [] [] (He.ga K "_wall") fd
  f_is_whole : ∃ fd, FunD K "is_whole" "is_whole" (defArgs s_is_whole) (defBody s_is_whole) (defScope s_is_whole) [] [] (He.ga K "is_whole") fd
  f_check_marks : ∃ fd, FunD K "check_marks" "check_marks" (defArgs s_check_marks) (defBody s_check_marks) (defScope s_check_marks) [] [] (He.ga K "check_marks") fd
  f_cases_of : ∃ fd, FunD K "cases_of" "cases_of" (defArgs s_cases_of) (defBody s_cases_of) (defScope s_cases_of) [] [] (He.ga K "cases_of") fd
  f_cases : ∃ fd, FunD K "cases" "cases" (defArgs s_cases) (defBody s_cases) (defScope s_cases) [] [] (He.ga K "cases") fd
  f_weighings_for : ∃ fd, FunD K "weighings_for" "weighings_for" (defArgs s_weighings_for) (defBody s_weighings_for) (defScope s_weighings_for) [] [] (He.ga K "weighings_for") fd
  f_fewest : ∃ fd, FunD K "fewest" "fewest" (defArgs s_fewest) (defBody s_fewest) (defScope s_fewest) [] [] (He.ga K "fewest") fd
  f_is_side : ∃ fd, FunD K "is_side" "is_side" (defArgs s_is_side) (defBody s_is_side) (defScope s_is_side) [] [] (He.ga K "is_side") fd
  f_is_weighing : ∃ fd, FunD K "is_weighing" "is_weighing" (defArgs s_is_weighing) (defBody s_is_weighing) (defScope s_is_weighing) [] [] (He.ga K "is_weighing") fd
  f_check_weighing : ∃ fd, FunD K "check_weighing" "check_weighing" (defArgs s_check_weighing) (defBody s_check_weighing) (defScope s_check_weighing) [] [] (He.ga K "check_weighing") fd
  f_left_over : ∃ fd, FunD K "left_over" "left_over" (defArgs s_left_over) (defBody s_left_over) (defScope s_left_over) [] [] (He.ga K "left_over") fd
  f_sides_of : ∃ fd, FunD K "sides_of" "sides_of" (defArgs s_sides_of) (defBody s_sides_of) (defScope s_sides_of) [] [] (He.ga K "sides_of") fd
  f_behind_of : ∃ fd, FunD K "behind_of" "behind_of" (defArgs s_behind_of) (defBody s_behind_of) (defScope s_behind_of) [] [] (He.ga K "behind_of") fd
  f_many_behind : ∃ fd, FunD K "many_behind" "many_behind" (defArgs s_many_behind) (defBody s_many_behind) (defScope s_many_behind) [] [] (He.ga K "many_behind") fd
  f_behind : ∃ fd, FunD K "behind" "behind" (defArgs s_behind) (defBody s_behind) (defScope s_behind) [] [] (He.ga K "behind") fd
  f_judged : ∃ fd, FunD K "judged" "judged" (defArgs s_judged) (defBody s_judged) (defScope s_judged) [] [] (He.ga K "judged") fd
  f_weighed : ∃ fd, FunD K "weighed" "weighed" (defArgs s_weighed) (defBody s_weighed) (defScope s_weighed) [] [] (He.ga K "weighed") fd
  f_Heavy_init : ∃ fd, FunD K "__init__" "Heavy.__init__" (defArgs s_Heavy_init) (defBody s_Heavy_init) (defScope s_Heavy_init) [] [] (He.ma K (He.ga K "Heavy") "__init__") fd
  f_Heavy_shows : ∃ fd, FunD K "shows" "Heavy.shows" (defArgs s_Heavy_shows) (defBody s_Heavy_shows) (defScope s_Heavy_shows) [] [] (He.ma K (He.ga K "Heavy") "shows") fd
  f_Light_init : ∃ fd, FunD K "__init__" "Light.__init__" (defArgs s_Light_init) (defBody s_Light_init) (defScope s_Light_init) [] [] (He.ma K (He.ga K "Light") "__init__") fd
  f_Light_shows : ∃ fd, FunD K "shows" "Light.shows" (defArgs s_Light_shows) (defBody s_Light_shows) (defScope s_Light_shows) [] [] (He.ma K (He.ga K "Light") "shows") fd
  f_Nothing_shows : ∃ fd, FunD K "shows" "Nothing.shows" (defArgs s_Nothing_shows) (defBody s_Nothing_shows) (defScope s_Nothing_shows) [] [] (He.ma K (He.ga K "Nothing") "shows") fd
  f_Open_init : ∃ fd, FunD K "__init__" "Open.__init__" (defArgs s_Open_init) (defBody s_Open_init) (defScope s_Open_init) [] [] (He.ma K (He.ga K "Open") "__init__") fd
  f_Open_shows : ∃ fd, FunD K "shows" "Open.shows" (defArgs s_Open_shows) (defBody s_Open_shows) (defScope s_Open_shows) [] [] (He.ma K (He.ga K "Open") "shows") fd
  f_power : ∃ fd, FunD K "power" "power" (defArgs s_power) (defBody s_power) (defScope s_power) [] [] (He.ga K "power") fd
  f_of_either : ∃ fd, FunD K "of_either" "of_either" (defArgs s_of_either) (defBody s_of_either) (defScope s_of_either) [] [] (He.ga K "of_either") fd
  f_of_tilted : ∃ fd, FunD K "of_tilted" "of_tilted" (defArgs s_of_tilted) (defBody s_of_tilted) (defScope s_of_tilted) [] [] (He.ga K "of_tilted") fd
  f_told : ∃ fd, FunD K "told" "told" (defArgs s_told) (defBody s_told) (defScope s_told) [] [] (He.ga K "told") fd
  f_greatest : ∃ fd, FunD K "greatest" "greatest" (defArgs s_greatest) (defBody s_greatest) (defScope s_greatest) [] [] (He.ga K "greatest") fd
  f_written : ∃ fd, FunD K "written" "written" (defArgs s_written) (defBody s_written) (defScope s_written) [] [] (He.ga K "written") fd
  f_law_cell_at : ∃ fd, FunD K "_law_cell_at" "_law_cell_at" (defArgs s_law_cell_at) (defBody s_law_cell_at) (defScope s_law_cell_at) [] [] (He.ga K "_law_cell_at") fd
  f_law_draw : ∃ fd, FunD K "_law_draw" "_law_draw" (defArgs s_law_draw) (defBody s_law_draw) (defScope s_law_draw) [] [] (He.ga K "_law_draw") fd
  f_law_marks : ∃ fd, FunD K "_law_marks" "_law_marks" (defArgs s_law_marks) (defBody s_law_marks) (defScope s_law_marks) [] [] (He.ga K "_law_marks") fd
  f_law_cases : ∃ fd, FunD K "_law_cases" "_law_cases" (defArgs s_law_cases) (defBody s_law_cases) (defScope s_law_cases) [] [] (He.ga K "_law_cases") fd
  f_law_weighing : ∃ fd, FunD K "_law_weighing" "_law_weighing" (defArgs s_law_weighing) (defBody s_law_weighing) (defScope s_law_weighing) [] [] (He.ga K "_law_weighing") fd
  f_law_behind : ∃ fd, FunD K "_law_behind" "_law_behind" (defArgs s_law_behind) (defBody s_law_behind) (defScope s_law_behind) [] [] (He.ga K "_law_behind") fd
  f_law_left : ∃ fd, FunD K "_law_left" "_law_left" (defArgs s_law_left) (defBody s_law_left) (defScope s_law_left) [] [] (He.ga K "_law_left") fd
  f_law_power : ∃ fd, FunD K "_law_power" "_law_power" (defArgs s_law_power) (defBody s_law_power) (defScope s_law_power) [] [] (He.ga K "_law_power") fd
  f_law_whole : ∃ fd, FunD K "_law_whole" "_law_whole" (defArgs s_law_whole) (defBody s_law_whole) (defScope s_law_whole) [] [] (He.ga K "_law_whole") fd
  f_law_kinds : ∃ fd, FunD K "_law_kinds" "_law_kinds" (defArgs s_law_kinds) (defBody s_law_kinds) (defScope s_law_kinds) [] [] (He.ga K "_law_kinds") fd
  f_law_with_marks : ∃ fd, FunD K "_law_with_marks" "_law_with_marks" (defArgs s_law_with_marks) (defBody s_law_with_marks) (defScope s_law_with_marks) [] [] (He.ga K "_law_with_marks") fd
  f_law_with_weighing : ∃ fd, FunD K "_law_with_weighing" "_law_with_weighing" (defArgs s_law_with_weighing) (defBody s_law_with_weighing) (defScope s_law_with_weighing) [] [] (He.ga K "_law_with_weighing") fd
  f_law_with_judged : ∃ fd, FunD K "_law_with_judged" "_law_with_judged" (defArgs s_law_with_judged) (defBody s_law_with_judged) (defScope s_law_with_judged) [] [] (He.ga K "_law_with_judged") fd
  f_law_with_weighed : ∃ fd, FunD K "_law_with_weighed" "_law_with_weighed" (defArgs s_law_with_weighed) (defBody s_law_with_weighed) (defScope s_law_with_weighed) [] [] (He.ga K "_law_with_weighed") fd
  f_law_with_written : ∃ fd, FunD K "_law_with_written" "_law_with_written" (defArgs s_law_with_written) (defBody s_law_with_written) (defScope s_law_with_written) [] [] (He.ga K "_law_with_written") fd
  f_law_with_outcome : ∃ fd, FunD K "_law_with_outcome" "_law_with_outcome" (defArgs s_law_with_outcome) (defBody s_law_with_outcome) (defScope s_law_with_outcome) [] [] (He.ga K "_law_with_outcome") fd
  f_law_with_coins : ∃ fd, FunD K "_law_with_coins" "_law_with_coins" (defArgs s_law_with_coins) (defBody s_law_with_coins) (defScope s_law_with_coins) [] [] (He.ga K "_law_with_coins") fd
  f_law_with_truth : ∃ fd, FunD K "_law_with_truth" "_law_with_truth" (defArgs s_law_with_truth) (defBody s_law_with_truth) (defScope s_law_with_truth) [] [] (He.ga K "_law_with_truth") fd
  f_law_told : ∃ fd, FunD K "_law_told" "_law_told" (defArgs s_law_told) (defBody s_law_told) (defScope s_law_told) [] [] (He.ga K "_law_told") fd
  f_law_all : ∃ fd, FunD K "_law_all" "_law_all" (defArgs s_law_all) (defBody s_law_all) (defScope s_law_all) [] [] (He.ga K "_law_all") fd
  f_law_weighings_right : ∃ fd, FunD K "_law_weighings_right" "_law_weighings_right" (defArgs s_law_weighings_right) (defBody s_law_weighings_right) (defScope s_law_weighings_right) [] [] (He.ga K "_law_weighings_right") fd
  f_law : ∃ fd, FunD K "law" "law" (defArgs s_law) (defBody s_law) (defScope s_law) [] [] (He.ga K "law") fd
  g_wall : mg "_wall" = some (.ref (He.ga K "_wall"))
  g_is_whole : mg "is_whole" = some (.ref (He.ga K "is_whole"))
  g_check_marks : mg "check_marks" = some (.ref (He.ga K "check_marks"))
  g_cases_of : mg "cases_of" = some (.ref (He.ga K "cases_of"))
  g_cases : mg "cases" = some (.ref (He.ga K "cases"))
  g_weighings_for : mg "weighings_for" = some (.ref (He.ga K "weighings_for"))
  g_fewest : mg "fewest" = some (.ref (He.ga K "fewest"))
  g_is_side : mg "is_side" = some (.ref (He.ga K "is_side"))
  g_is_weighing : mg "is_weighing" = some (.ref (He.ga K "is_weighing"))
  g_check_weighing : mg "check_weighing" = some (.ref (He.ga K "check_weighing"))
  g_left_over : mg "left_over" = some (.ref (He.ga K "left_over"))
  g_sides_of : mg "sides_of" = some (.ref (He.ga K "sides_of"))
  g_behind_of : mg "behind_of" = some (.ref (He.ga K "behind_of"))
  g_many_behind : mg "many_behind" = some (.ref (He.ga K "many_behind"))
  g_behind : mg "behind" = some (.ref (He.ga K "behind"))
  g_judged : mg "judged" = some (.ref (He.ga K "judged"))
  g_weighed : mg "weighed" = some (.ref (He.ga K "weighed"))
  k_Heavy : Mk K (He.ga K "Heavy") (He.ma K (He.ga K "Heavy") "__init__")
  m_Heavy_shows : Meth K (He.ga K "Heavy") "shows" (He.ma K (He.ga K "Heavy") "shows")
  k_Light : Mk K (He.ga K "Light") (He.ma K (He.ga K "Light") "__init__")
  m_Light_shows : Meth K (He.ga K "Light") "shows" (He.ma K (He.ga K "Light") "shows")
  m_Nothing_shows : Meth K (He.ga K "Nothing") "shows" (He.ma K (He.ga K "Nothing") "shows")
  k_Open : Mk K (He.ga K "Open") (He.ma K (He.ga K "Open") "__init__")
  m_Open_shows : Meth K (He.ga K "Open") "shows" (He.ma K (He.ga K "Open") "shows")
  g_power : mg "power" = some (.ref (He.ga K "power"))
  g_of_either : mg "of_either" = some (.ref (He.ga K "of_either"))
  g_of_tilted : mg "of_tilted" = some (.ref (He.ga K "of_tilted"))
  g_told : mg "told" = some (.ref (He.ga K "told"))
  g_greatest : mg "greatest" = some (.ref (He.ga K "greatest"))
  g_written : mg "written" = some (.ref (He.ga K "written"))
  g_law_cell_at : mg "_law_cell_at" = some (.ref (He.ga K "_law_cell_at"))
  g_law_draw : mg "_law_draw" = some (.ref (He.ga K "_law_draw"))
  g_law_marks : mg "_law_marks" = some (.ref (He.ga K "_law_marks"))
  g_law_cases : mg "_law_cases" = some (.ref (He.ga K "_law_cases"))
  g_law_weighing : mg "_law_weighing" = some (.ref (He.ga K "_law_weighing"))
  g_law_behind : mg "_law_behind" = some (.ref (He.ga K "_law_behind"))
  g_law_left : mg "_law_left" = some (.ref (He.ga K "_law_left"))
  g_law_power : mg "_law_power" = some (.ref (He.ga K "_law_power"))
  g_law_whole : mg "_law_whole" = some (.ref (He.ga K "_law_whole"))
  g_law_kinds : mg "_law_kinds" = some (.ref (He.ga K "_law_kinds"))
  g_law_with_marks : mg "_law_with_marks" = some (.ref (He.ga K "_law_with_marks"))
  g_law_with_weighing : mg "_law_with_weighing" = some (.ref (He.ga K "_law_with_weighing"))
  g_law_with_judged : mg "_law_with_judged" = some (.ref (He.ga K "_law_with_judged"))
  g_law_with_weighed : mg "_law_with_weighed" = some (.ref (He.ga K "_law_with_weighed"))
  g_law_with_written : mg "_law_with_written" = some (.ref (He.ga K "_law_with_written"))
  g_law_with_outcome : mg "_law_with_outcome" = some (.ref (He.ga K "_law_with_outcome"))
  g_law_with_coins : mg "_law_with_coins" = some (.ref (He.ga K "_law_with_coins"))
  g_law_with_truth : mg "_law_with_truth" = some (.ref (He.ga K "_law_with_truth"))
  g_law_told : mg "_law_told" = some (.ref (He.ga K "_law_told"))
  g_law_all : mg "_law_all" = some (.ref (He.ga K "_law_all"))
  g_law_weighings_right : mg "_law_weighings_right" = some (.ref (He.ga K "_law_weighings_right"))
  g_law : mg "law" = some (.ref (He.ga K "law"))
  n_ValueError : mg "ValueError" = none
  n_all : mg "all" = none
  n_any : mg "any" = none
  n_bool : mg "bool" = none
  n_enumerate : mg "enumerate" = none
  n_int : mg "int" = none
  n_isinstance : mg "isinstance" = none
  n_len : mg "len" = none
  n_list : mg "list" = none
  n_max : mg "max" = none
  n_min : mg "min" = none
  n_range : mg "range" = none
  n_set : mg "set" = none
  n_sorted : mg "sorted" = none
  n_str : mg "str" = none
  n_tuple : mg "tuple" = none
  c_SIGNS : ∃ t, mg "SIGNS" = some (.str "ehlg" t)
  g_OUTCOMES : mg "OUTCOMES" = some (.ref (He.ga K "OUTCOMES"))
  c_MOST : ∃ t, mg "MOST" = some (.int 1000000000 t)
  g_Answer : mg "Answer" = some (.ref (He.ga K "Answer"))
  cl_Answer : Cls K (He.ga K "Answer")
  g_Heavy : mg "Heavy" = some (.ref (He.ga K "Heavy"))
  cl_Heavy : Cls K (He.ga K "Heavy")
  na_Heavy_coin : NoAttr K (He.ga K "Heavy") "coin"
  g_Light : mg "Light" = some (.ref (He.ga K "Light"))
  cl_Light : Cls K (He.ga K "Light")
  na_Light_coin : NoAttr K (He.ga K "Light") "coin"
  g_Nothing : mg "Nothing" = some (.ref (He.ga K "Nothing"))
  cl_Nothing : Cls K (He.ga K "Nothing")
  g_Open : mg "Open" = some (.ref (He.ga K "Open"))
  cl_Open : Cls K (He.ga K "Open")
  na_Open_left : NoAttr K (He.ga K "Open") "left"
  na_Open_right : NoAttr K (He.ga K "Open") "right"
  na_Open_many : NoAttr K (He.ga K "Open") "many"
  g_CoinError : mg "CoinError" = some (.ref (He.ga K "CoinError"))
  x_CoinError : PySem.W.excIn K (He.ga K "CoinError") He.veBase "ValueError.__new__" = true ∧ PySem.W.keepIn K (.ref (He.ga K "CoinError")) = true ∧ PySem.W.subIn K (.ref (He.ga K "CoinError")) (.type "BaseException") = some true ∧ PySem.W.typeIn K (.ref (He.ga K "CoinError")) = some (.type "type")
  g_BadMarks : mg "BadMarks" = some (.ref (He.ga K "BadMarks"))
  x_BadMarks : PySem.W.excIn K (He.ga K "BadMarks") He.veBase "ValueError.__new__" = true ∧ PySem.W.keepIn K (.ref (He.ga K "BadMarks")) = true ∧ PySem.W.subIn K (.ref (He.ga K "BadMarks")) (.type "BaseException") = some true ∧ PySem.W.typeIn K (.ref (He.ga K "BadMarks")) = some (.type "type")
  g_BadWeighing : mg "BadWeighing" = some (.ref (He.ga K "BadWeighing"))
  x_BadWeighing : PySem.W.excIn K (He.ga K "BadWeighing") He.veBase "ValueError.__new__" = true ∧ PySem.W.keepIn K (.ref (He.ga K "BadWeighing")) = true ∧ PySem.W.subIn K (.ref (He.ga K "BadWeighing")) (.type "BaseException") = some true ∧ PySem.W.typeIn K (.ref (He.ga K "BadWeighing")) = some (.type "type")
  g_BadOutcome : mg "BadOutcome" = some (.ref (He.ga K "BadOutcome"))
  x_BadOutcome : PySem.W.excIn K (He.ga K "BadOutcome") He.veBase "ValueError.__new__" = true ∧ PySem.W.keepIn K (.ref (He.ga K "BadOutcome")) = true ∧ PySem.W.subIn K (.ref (He.ga K "BadOutcome")) (.type "BaseException") = some true ∧ PySem.W.typeIn K (.ref (He.ga K "BadOutcome")) = some (.type "type")
  g_Never : mg "Never" = some (.ref (He.ga K "Never"))
  x_Never : PySem.W.excIn K (He.ga K "Never") He.veBase "ValueError.__new__" = true ∧ PySem.W.keepIn K (.ref (He.ga K "Never")) = true ∧ PySem.W.subIn K (.ref (He.ga K "Never")) (.type "BaseException") = some true ∧ PySem.W.typeIn K (.ref (He.ga K "Never")) = some (.type "type")
  g_BadCoin : mg "BadCoin" = some (.ref (He.ga K "BadCoin"))
  x_BadCoin : PySem.W.excIn K (He.ga K "BadCoin") He.veBase "ValueError.__new__" = true ∧ PySem.W.keepIn K (.ref (He.ga K "BadCoin")) = true ∧ PySem.W.subIn K (.ref (He.ga K "BadCoin")) (.type "BaseException") = some true ∧ PySem.W.typeIn K (.ref (He.ga K "BadCoin")) = some (.type "type")
  g_BadText : mg "BadText" = some (.ref (He.ga K "BadText"))
  x_BadText : PySem.W.excIn K (He.ga K "BadText") He.veBase "ValueError.__new__" = true ∧ PySem.W.keepIn K (.ref (He.ga K "BadText")) = true ∧ PySem.W.subIn K (.ref (He.ga K "BadText")) (.type "BaseException") = some true ∧ PySem.W.typeIn K (.ref (He.ga K "BadText")) = some (.type "type")
  l_OUTCOMES : ∀ H : Hp, SqL K H (He.ga K "OUTCOMES") [.str "left", .str "right", .str "even"]
  i_Answer : InsK K (He.ga K "Answer")
  i_Heavy : InsK K (He.ga K "Heavy")
  t_Heavy_Answer : PySem.W.kitOne K (.ref (He.ga K "Heavy")) (.ref (He.ga K "Answer")) = some true
  t_Heavy_Heavy : PySem.W.kitOne K (.ref (He.ga K "Heavy")) (.ref (He.ga K "Heavy")) = some true
  t_Heavy_Light : PySem.W.kitOne K (.ref (He.ga K "Heavy")) (.ref (He.ga K "Light")) = some false
  t_Heavy_Nothing : PySem.W.kitOne K (.ref (He.ga K "Heavy")) (.ref (He.ga K "Nothing")) = some false
  t_Heavy_Open : PySem.W.kitOne K (.ref (He.ga K "Heavy")) (.ref (He.ga K "Open")) = some false
  i_Light : InsK K (He.ga K "Light")
  t_Light_Answer : PySem.W.kitOne K (.ref (He.ga K "Light")) (.ref (He.ga K "Answer")) = some true
  t_Light_Heavy : PySem.W.kitOne K (.ref (He.ga K "Light")) (.ref (He.ga K "Heavy")) = some false
  t_Light_Light : PySem.W.kitOne K (.ref (He.ga K "Light")) (.ref (He.ga K "Light")) = some true
  t_Light_Nothing : PySem.W.kitOne K (.ref (He.ga K "Light")) (.ref (He.ga K "Nothing")) = some false
  t_Light_Open : PySem.W.kitOne K (.ref (He.ga K "Light")) (.ref (He.ga K "Open")) = some false
  i_Nothing : InsK K (He.ga K "Nothing")
  z_Nothing : Mk0 K (He.ga K "Nothing")
  t_Nothing_Answer : PySem.W.kitOne K (.ref (He.ga K "Nothing")) (.ref (He.ga K "Answer")) = some true
  t_Nothing_Heavy : PySem.W.kitOne K (.ref (He.ga K "Nothing")) (.ref (He.ga K "Heavy")) = some false
  t_Nothing_Light : PySem.W.kitOne K (.ref (He.ga K "Nothing")) (.ref (He.ga K "Light")) = some false
  t_Nothing_Nothing : PySem.W.kitOne K (.ref (He.ga K "Nothing")) (.ref (He.ga K "Nothing")) = some true
  t_Nothing_Open : PySem.W.kitOne K (.ref (He.ga K "Nothing")) (.ref (He.ga K "Open")) = some false
  i_Open : InsK K (He.ga K "Open")
  t_Open_Answer : PySem.W.kitOne K (.ref (He.ga K "Open")) (.ref (He.ga K "Answer")) = some true
  t_Open_Heavy : PySem.W.kitOne K (.ref (He.ga K "Open")) (.ref (He.ga K "Heavy")) = some false
  t_Open_Light : PySem.W.kitOne K (.ref (He.ga K "Open")) (.ref (He.ga K "Light")) = some false
  t_Open_Nothing : PySem.W.kitOne K (.ref (He.ga K "Open")) (.ref (He.ga K "Nothing")) = some false
  t_Open_Open : PySem.W.kitOne K (.ref (He.ga K "Open")) (.ref (He.ga K "Open")) = some true
  e_BadMarks_CoinError : PySem.W.exmOne K (.ref (He.ga K "BadMarks")) (.ref (He.ga K "CoinError")) = some true
  t_BadMarks_CoinError : PySem.W.kitOne K (.ref (He.ga K "BadMarks")) (.ref (He.ga K "CoinError")) = some true
  t_BadMarks_BadMarks : PySem.W.kitOne K (.ref (He.ga K "BadMarks")) (.ref (He.ga K "BadMarks")) = some true
  e_BadMarks_BadWeighing : PySem.W.exmOne K (.ref (He.ga K "BadMarks")) (.ref (He.ga K "BadWeighing")) = some false
  t_BadMarks_BadWeighing : PySem.W.kitOne K (.ref (He.ga K "BadMarks")) (.ref (He.ga K "BadWeighing")) = some false
  t_BadMarks_BadOutcome : PySem.W.kitOne K (.ref (He.ga K "BadMarks")) (.ref (He.ga K "BadOutcome")) = some false
  t_BadMarks_Never : PySem.W.kitOne K (.ref (He.ga K "BadMarks")) (.ref (He.ga K "Never")) = some false
  t_BadMarks_BadCoin : PySem.W.kitOne K (.ref (He.ga K "BadMarks")) (.ref (He.ga K "BadCoin")) = some false
  t_BadMarks_BadText : PySem.W.kitOne K (.ref (He.ga K "BadMarks")) (.ref (He.ga K "BadText")) = some false
  t_BadMarks_ValueError : PySem.W.kitOne K (.ref (He.ga K "BadMarks")) (.type "ValueError") = some true
  ec_BadMarks : L2.ExcC K (He.ga K "BadMarks")
  e_BadWeighing_CoinError : PySem.W.exmOne K (.ref (He.ga K "BadWeighing")) (.ref (He.ga K "CoinError")) = some true
  t_BadWeighing_CoinError : PySem.W.kitOne K (.ref (He.ga K "BadWeighing")) (.ref (He.ga K "CoinError")) = some true
  t_BadWeighing_BadMarks : PySem.W.kitOne K (.ref (He.ga K "BadWeighing")) (.ref (He.ga K "BadMarks")) = some false
  e_BadWeighing_BadWeighing : PySem.W.exmOne K (.ref (He.ga K "BadWeighing")) (.ref (He.ga K "BadWeighing")) = some true
  t_BadWeighing_BadWeighing : PySem.W.kitOne K (.ref (He.ga K "BadWeighing")) (.ref (He.ga K "BadWeighing")) = some true
  t_BadWeighing_BadOutcome : PySem.W.kitOne K (.ref (He.ga K "BadWeighing")) (.ref (He.ga K "BadOutcome")) = some false
  t_BadWeighing_Never : PySem.W.kitOne K (.ref (He.ga K "BadWeighing")) (.ref (He.ga K "Never")) = some false
  t_BadWeighing_BadCoin : PySem.W.kitOne K (.ref (He.ga K "BadWeighing")) (.ref (He.ga K "BadCoin")) = some false
  t_BadWeighing_BadText : PySem.W.kitOne K (.ref (He.ga K "BadWeighing")) (.ref (He.ga K "BadText")) = some false
  t_BadWeighing_ValueError : PySem.W.kitOne K (.ref (He.ga K "BadWeighing")) (.type "ValueError") = some true
  ec_BadWeighing : L2.ExcC K (He.ga K "BadWeighing")
  e_BadOutcome_CoinError : PySem.W.exmOne K (.ref (He.ga K "BadOutcome")) (.ref (He.ga K "CoinError")) = some true
  t_BadOutcome_CoinError : PySem.W.kitOne K (.ref (He.ga K "BadOutcome")) (.ref (He.ga K "CoinError")) = some true
  t_BadOutcome_BadMarks : PySem.W.kitOne K (.ref (He.ga K "BadOutcome")) (.ref (He.ga K "BadMarks")) = some false
  e_BadOutcome_BadWeighing : PySem.W.exmOne K (.ref (He.ga K "BadOutcome")) (.ref (He.ga K "BadWeighing")) = some false
  t_BadOutcome_BadWeighing : PySem.W.kitOne K (.ref (He.ga K "BadOutcome")) (.ref (He.ga K "BadWeighing")) = some false
  t_BadOutcome_BadOutcome : PySem.W.kitOne K (.ref (He.ga K "BadOutcome")) (.ref (He.ga K "BadOutcome")) = some true
  t_BadOutcome_Never : PySem.W.kitOne K (.ref (He.ga K "BadOutcome")) (.ref (He.ga K "Never")) = some false
  t_BadOutcome_BadCoin : PySem.W.kitOne K (.ref (He.ga K "BadOutcome")) (.ref (He.ga K "BadCoin")) = some false
  t_BadOutcome_BadText : PySem.W.kitOne K (.ref (He.ga K "BadOutcome")) (.ref (He.ga K "BadText")) = some false
  t_BadOutcome_ValueError : PySem.W.kitOne K (.ref (He.ga K "BadOutcome")) (.type "ValueError") = some true
  ec_BadOutcome : L2.ExcC K (He.ga K "BadOutcome")
  e_Never_CoinError : PySem.W.exmOne K (.ref (He.ga K "Never")) (.ref (He.ga K "CoinError")) = some true
  t_Never_CoinError : PySem.W.kitOne K (.ref (He.ga K "Never")) (.ref (He.ga K "CoinError")) = some true
  t_Never_BadMarks : PySem.W.kitOne K (.ref (He.ga K "Never")) (.ref (He.ga K "BadMarks")) = some false
  e_Never_BadWeighing : PySem.W.exmOne K (.ref (He.ga K "Never")) (.ref (He.ga K "BadWeighing")) = some false
  t_Never_BadWeighing : PySem.W.kitOne K (.ref (He.ga K "Never")) (.ref (He.ga K "BadWeighing")) = some false
  t_Never_BadOutcome : PySem.W.kitOne K (.ref (He.ga K "Never")) (.ref (He.ga K "BadOutcome")) = some false
  t_Never_Never : PySem.W.kitOne K (.ref (He.ga K "Never")) (.ref (He.ga K "Never")) = some true
  t_Never_BadCoin : PySem.W.kitOne K (.ref (He.ga K "Never")) (.ref (He.ga K "BadCoin")) = some false
  t_Never_BadText : PySem.W.kitOne K (.ref (He.ga K "Never")) (.ref (He.ga K "BadText")) = some false
  t_Never_ValueError : PySem.W.kitOne K (.ref (He.ga K "Never")) (.type "ValueError") = some true
  ec_Never : L2.ExcC K (He.ga K "Never")
  e_BadCoin_CoinError : PySem.W.exmOne K (.ref (He.ga K "BadCoin")) (.ref (He.ga K "CoinError")) = some true
  t_BadCoin_CoinError : PySem.W.kitOne K (.ref (He.ga K "BadCoin")) (.ref (He.ga K "CoinError")) = some true
  t_BadCoin_BadMarks : PySem.W.kitOne K (.ref (He.ga K "BadCoin")) (.ref (He.ga K "BadMarks")) = some false
  e_BadCoin_BadWeighing : PySem.W.exmOne K (.ref (He.ga K "BadCoin")) (.ref (He.ga K "BadWeighing")) = some false
  t_BadCoin_BadWeighing : PySem.W.kitOne K (.ref (He.ga K "BadCoin")) (.ref (He.ga K "BadWeighing")) = some false
  t_BadCoin_BadOutcome : PySem.W.kitOne K (.ref (He.ga K "BadCoin")) (.ref (He.ga K "BadOutcome")) = some false
  t_BadCoin_Never : PySem.W.kitOne K (.ref (He.ga K "BadCoin")) (.ref (He.ga K "Never")) = some false
  t_BadCoin_BadCoin : PySem.W.kitOne K (.ref (He.ga K "BadCoin")) (.ref (He.ga K "BadCoin")) = some true
  t_BadCoin_BadText : PySem.W.kitOne K (.ref (He.ga K "BadCoin")) (.ref (He.ga K "BadText")) = some false
  t_BadCoin_ValueError : PySem.W.kitOne K (.ref (He.ga K "BadCoin")) (.type "ValueError") = some true
  ec_BadCoin : L2.ExcC K (He.ga K "BadCoin")
  e_BadText_CoinError : PySem.W.exmOne K (.ref (He.ga K "BadText")) (.ref (He.ga K "CoinError")) = some true
  t_BadText_CoinError : PySem.W.kitOne K (.ref (He.ga K "BadText")) (.ref (He.ga K "CoinError")) = some true
  t_BadText_BadMarks : PySem.W.kitOne K (.ref (He.ga K "BadText")) (.ref (He.ga K "BadMarks")) = some false
  e_BadText_BadWeighing : PySem.W.exmOne K (.ref (He.ga K "BadText")) (.ref (He.ga K "BadWeighing")) = some false
  t_BadText_BadWeighing : PySem.W.kitOne K (.ref (He.ga K "BadText")) (.ref (He.ga K "BadWeighing")) = some false
  t_BadText_BadOutcome : PySem.W.kitOne K (.ref (He.ga K "BadText")) (.ref (He.ga K "BadOutcome")) = some false
  t_BadText_Never : PySem.W.kitOne K (.ref (He.ga K "BadText")) (.ref (He.ga K "Never")) = some false
  t_BadText_BadCoin : PySem.W.kitOne K (.ref (He.ga K "BadText")) (.ref (He.ga K "BadCoin")) = some false
  t_BadText_BadText : PySem.W.kitOne K (.ref (He.ga K "BadText")) (.ref (He.ga K "BadText")) = some true
  t_BadText_ValueError : PySem.W.kitOne K (.ref (He.ga K "BadText")) (.type "ValueError") = some true
  ec_BadText : L2.ExcC K (He.ga K "BadText")
theorem txt_of {K : PySem.W.Frag} {h : Heap} {mg : Str → Option Value} (X : K.In h) (G : h.Ns mainGlobals mg) (c : SaysQ fas fns exs K) : Txt K mg where
  f_wall := c.1.def_ 0 (d := d_wall) rfl
  f_is_whole := c.1.def_ 1 (d := d_is_whole) rfl
  f_check_marks := c.1.def_ 2 (d := d_check_marks) rfl
  f_cases_of := c.1.def_ 3 (d := d_cases_of) rfl
  f_cases := c.1.def_ 4 (d := d_cases) rfl
  f_weighings_for := c.1.def_ 5 (d := d_weighings_for) rfl
  f_fewest := c.1.def_ 6 (d := d_fewest) rfl
  f_is_side := c.1.def_ 7 (d := d_is_side) rfl
  f_is_weighing := c.1.def_ 8 (d := d_is_weighing) rfl
  f_check_weighing := c.1.def_ 9 (d := d_check_weighing) rfl
  f_left_over := c.1.def_ 10 (d := d_left_over) rfl
  f_sides_of := c.1.def_ 11 (d := d_sides_of) rfl
  f_behind_of := c.1.def_ 12 (d := d_behind_of) rfl
  f_many_behind := c.1.def_ 13 (d := d_many_behind) rfl
  f_behind := c.1.def_ 14 (d := d_behind) rfl
  f_judged := c.1.def_ 15 (d := d_judged) rfl
  f_weighed := c.1.def_ 16 (d := d_weighed) rfl
  f_Heavy_init := c.1.def_ 17 (d := d_Heavy_init) rfl
  f_Heavy_shows := c.1.def_ 18 (d := d_Heavy_shows) rfl
  f_Light_init := c.1.def_ 19 (d := d_Light_init) rfl
  f_Light_shows := c.1.def_ 20 (d := d_Light_shows) rfl
  f_Nothing_shows := c.1.def_ 21 (d := d_Nothing_shows) rfl
  f_Open_init := c.1.def_ 22 (d := d_Open_init) rfl
  f_Open_shows := c.1.def_ 23 (d := d_Open_shows) rfl
  f_power := c.1.def_ 24 (d := d_power) rfl
  f_of_either := c.1.def_ 25 (d := d_of_either) rfl
  f_of_tilted := c.1.def_ 26 (d := d_of_tilted) rfl
  f_told := c.1.def_ 27 (d := d_told) rfl
  f_greatest := c.1.def_ 28 (d := d_greatest) rfl
  f_written := c.1.def_ 29 (d := d_written) rfl
  f_law_cell_at := c.1.def_ 30 (d := d_law_cell_at) rfl
  f_law_draw := c.1.def_ 31 (d := d_law_draw) rfl
  f_law_marks := c.1.def_ 32 (d := d_law_marks) rfl
  f_law_cases := c.1.def_ 33 (d := d_law_cases) rfl
  f_law_weighing := c.1.def_ 34 (d := d_law_weighing) rfl
  f_law_behind := c.1.def_ 35 (d := d_law_behind) rfl
  f_law_left := c.1.def_ 36 (d := d_law_left) rfl
  f_law_power := c.1.def_ 37 (d := d_law_power) rfl
  f_law_whole := c.1.def_ 38 (d := d_law_whole) rfl
  f_law_kinds := c.1.def_ 39 (d := d_law_kinds) rfl
  f_law_with_marks := c.1.def_ 40 (d := d_law_with_marks) rfl
  f_law_with_weighing := c.1.def_ 41 (d := d_law_with_weighing) rfl
  f_law_with_judged := c.1.def_ 42 (d := d_law_with_judged) rfl
  f_law_with_weighed := c.1.def_ 43 (d := d_law_with_weighed) rfl
  f_law_with_written := c.1.def_ 44 (d := d_law_with_written) rfl
  f_law_with_outcome := c.1.def_ 45 (d := d_law_with_outcome) rfl
  f_law_with_coins := c.1.def_ 46 (d := d_law_with_coins) rfl
  f_law_with_truth := c.1.def_ 47 (d := d_law_with_truth) rfl
  f_law_told := c.1.def_ 48 (d := d_law_told) rfl
  f_law_all := c.1.def_ 49 (d := d_law_all) rfl
  f_law_weighings_right := c.1.def_ 50 (d := d_law_weighings_right) rfl
  f_law := c.1.def_ 51 (d := d_law) rfl
  g_wall := He.glo_ok X G (c.1.fact 0 (f := .glo "_wall") rfl)
  g_is_whole := He.glo_ok X G (c.1.fact 1 (f := .glo "is_whole") rfl)
  g_check_marks := He.glo_ok X G (c.1.fact 2 (f := .glo "check_marks") rfl)
  g_cases_of := He.glo_ok X G (c.1.fact 3 (f := .glo "cases_of") rfl)
  g_cases := He.glo_ok X G (c.1.fact 4 (f := .glo "cases") rfl)
  g_weighings_for := He.glo_ok X G (c.1.fact 5 (f := .glo "weighings_for") rfl)
  g_fewest := He.glo_ok X G (c.1.fact 6 (f := .glo "fewest") rfl)
  g_is_side := He.glo_ok X G (c.1.fact 7 (f := .glo "is_side") rfl)
  g_is_weighing := He.glo_ok X G (c.1.fact 8 (f := .glo "is_weighing") rfl)
  g_check_weighing := He.glo_ok X G (c.1.fact 9 (f := .glo "check_weighing") rfl)
  g_left_over := He.glo_ok X G (c.1.fact 10 (f := .glo "left_over") rfl)
  g_sides_of := He.glo_ok X G (c.1.fact 11 (f := .glo "sides_of") rfl)
  g_behind_of := He.glo_ok X G (c.1.fact 12 (f := .glo "behind_of") rfl)
  g_many_behind := He.glo_ok X G (c.1.fact 13 (f := .glo "many_behind") rfl)
  g_behind := He.glo_ok X G (c.1.fact 14 (f := .glo "behind") rfl)
  g_judged := He.glo_ok X G (c.1.fact 15 (f := .glo "judged") rfl)
  g_weighed := He.glo_ok X G (c.1.fact 16 (f := .glo "weighed") rfl)
  k_Heavy := He.mkr_ok (c.1.fact 17 (f := .mkr "Heavy") rfl)
  m_Heavy_shows := He.meth_ok (c.1.fact 18 (f := .meth "Heavy" "shows") rfl)
  k_Light := He.mkr_ok (c.1.fact 19 (f := .mkr "Light") rfl)
  m_Light_shows := He.meth_ok (c.1.fact 20 (f := .meth "Light" "shows") rfl)
  m_Nothing_shows := He.meth_ok (c.1.fact 21 (f := .meth "Nothing" "shows") rfl)
  k_Open := He.mkr_ok (c.1.fact 22 (f := .mkr "Open") rfl)
  m_Open_shows := He.meth_ok (c.1.fact 23 (f := .meth "Open" "shows") rfl)
  g_power := He.glo_ok X G (c.1.fact 24 (f := .glo "power") rfl)
  g_of_either := He.glo_ok X G (c.1.fact 25 (f := .glo "of_either") rfl)
  g_of_tilted := He.glo_ok X G (c.1.fact 26 (f := .glo "of_tilted") rfl)
  g_told := He.glo_ok X G (c.1.fact 27 (f := .glo "told") rfl)
  g_greatest := He.glo_ok X G (c.1.fact 28 (f := .glo "greatest") rfl)
  g_written := He.glo_ok X G (c.1.fact 29 (f := .glo "written") rfl)
  g_law_cell_at := He.glo_ok X G (c.1.fact 30 (f := .glo "_law_cell_at") rfl)
  g_law_draw := He.glo_ok X G (c.1.fact 31 (f := .glo "_law_draw") rfl)
  g_law_marks := He.glo_ok X G (c.1.fact 32 (f := .glo "_law_marks") rfl)
  g_law_cases := He.glo_ok X G (c.1.fact 33 (f := .glo "_law_cases") rfl)
  g_law_weighing := He.glo_ok X G (c.1.fact 34 (f := .glo "_law_weighing") rfl)
  g_law_behind := He.glo_ok X G (c.1.fact 35 (f := .glo "_law_behind") rfl)
  g_law_left := He.glo_ok X G (c.1.fact 36 (f := .glo "_law_left") rfl)
  g_law_power := He.glo_ok X G (c.1.fact 37 (f := .glo "_law_power") rfl)
  g_law_whole := He.glo_ok X G (c.1.fact 38 (f := .glo "_law_whole") rfl)
  g_law_kinds := He.glo_ok X G (c.1.fact 39 (f := .glo "_law_kinds") rfl)
  g_law_with_marks := He.glo_ok X G (c.1.fact 40 (f := .glo "_law_with_marks") rfl)
  g_law_with_weighing := He.glo_ok X G (c.1.fact 41 (f := .glo "_law_with_weighing") rfl)
  g_law_with_judged := He.glo_ok X G (c.1.fact 42 (f := .glo "_law_with_judged") rfl)
  g_law_with_weighed := He.glo_ok X G (c.1.fact 43 (f := .glo "_law_with_weighed") rfl)
  g_law_with_written := He.glo_ok X G (c.1.fact 44 (f := .glo "_law_with_written") rfl)
  g_law_with_outcome := He.glo_ok X G (c.1.fact 45 (f := .glo "_law_with_outcome") rfl)
  g_law_with_coins := He.glo_ok X G (c.1.fact 46 (f := .glo "_law_with_coins") rfl)
  g_law_with_truth := He.glo_ok X G (c.1.fact 47 (f := .glo "_law_with_truth") rfl)
  g_law_told := He.glo_ok X G (c.1.fact 48 (f := .glo "_law_told") rfl)
  g_law_all := He.glo_ok X G (c.1.fact 49 (f := .glo "_law_all") rfl)
  g_law_weighings_right := He.glo_ok X G (c.1.fact 50 (f := .glo "_law_weighings_right") rfl)
  g_law := He.glo_ok X G (c.1.fact 51 (f := .glo "law") rfl)
  n_ValueError := He.free_ok X G (c.1.fact 52 (f := .free "ValueError") rfl)
  n_all := He.free_ok X G (c.1.fact 53 (f := .free "all") rfl)
  n_any := He.free_ok X G (c.1.fact 54 (f := .free "any") rfl)
  n_bool := He.free_ok X G (c.1.fact 55 (f := .free "bool") rfl)
  n_enumerate := He.free_ok X G (c.1.fact 56 (f := .free "enumerate") rfl)
  n_int := He.free_ok X G (c.1.fact 57 (f := .free "int") rfl)
  n_isinstance := He.free_ok X G (c.1.fact 58 (f := .free "isinstance") rfl)
  n_len := He.free_ok X G (c.1.fact 59 (f := .free "len") rfl)
  n_list := He.free_ok X G (c.1.fact 60 (f := .free "list") rfl)
  n_max := He.free_ok X G (c.1.fact 61 (f := .free "max") rfl)
  n_min := He.free_ok X G (c.1.fact 62 (f := .free "min") rfl)
  n_range := He.free_ok X G (c.1.fact 63 (f := .free "range") rfl)
  n_set := He.free_ok X G (c.1.fact 64 (f := .free "set") rfl)
  n_sorted := He.free_ok X G (c.1.fact 65 (f := .free "sorted") rfl)
  n_str := He.free_ok X G (c.1.fact 66 (f := .free "str") rfl)
  n_tuple := He.free_ok X G (c.1.fact 67 (f := .free "tuple") rfl)
  c_SIGNS := He.str_ok X G (c.1.fact 68 (f := .str "SIGNS" "ehlg") rfl)
  g_OUTCOMES := He.glo_ok X G (c.1.fact 69 (f := .glo "OUTCOMES") rfl)
  c_MOST := He.int_ok X G (c.1.fact 70 (f := .int "MOST" 1000000000) rfl)
  g_Answer := He.glo_ok X G (c.1.fact 71 (f := .glo "Answer") rfl)
  cl_Answer := He.cls_ok (c.1.fact 72 (f := .cls "Answer") rfl)
  g_Heavy := He.glo_ok X G (c.1.fact 73 (f := .glo "Heavy") rfl)
  cl_Heavy := He.cls_ok (c.1.fact 74 (f := .cls "Heavy") rfl)
  na_Heavy_coin := He.noat_ok (c.1.fact 75 (f := .noat "Heavy" "coin") rfl)
  g_Light := He.glo_ok X G (c.1.fact 76 (f := .glo "Light") rfl)
  cl_Light := He.cls_ok (c.1.fact 77 (f := .cls "Light") rfl)
  na_Light_coin := He.noat_ok (c.1.fact 78 (f := .noat "Light" "coin") rfl)
  g_Nothing := He.glo_ok X G (c.1.fact 79 (f := .glo "Nothing") rfl)
  cl_Nothing := He.cls_ok (c.1.fact 80 (f := .cls "Nothing") rfl)
  g_Open := He.glo_ok X G (c.1.fact 81 (f := .glo "Open") rfl)
  cl_Open := He.cls_ok (c.1.fact 82 (f := .cls "Open") rfl)
  na_Open_left := He.noat_ok (c.1.fact 83 (f := .noat "Open" "left") rfl)
  na_Open_right := He.noat_ok (c.1.fact 84 (f := .noat "Open" "right") rfl)
  na_Open_many := He.noat_ok (c.1.fact 85 (f := .noat "Open" "many") rfl)
  g_CoinError := He.glo_ok X G (c.1.fact 86 (f := .glo "CoinError") rfl)
  x_CoinError := He.exc_ok (c.1.fact 87 (f := .exc "CoinError") rfl)
  g_BadMarks := He.glo_ok X G (c.1.fact 88 (f := .glo "BadMarks") rfl)
  x_BadMarks := He.exc_ok (c.1.fact 89 (f := .exc "BadMarks") rfl)
  g_BadWeighing := He.glo_ok X G (c.1.fact 90 (f := .glo "BadWeighing") rfl)
  x_BadWeighing := He.exc_ok (c.1.fact 91 (f := .exc "BadWeighing") rfl)
  g_BadOutcome := He.glo_ok X G (c.1.fact 92 (f := .glo "BadOutcome") rfl)
  x_BadOutcome := He.exc_ok (c.1.fact 93 (f := .exc "BadOutcome") rfl)
  g_Never := He.glo_ok X G (c.1.fact 94 (f := .glo "Never") rfl)
  x_Never := He.exc_ok (c.1.fact 95 (f := .exc "Never") rfl)
  g_BadCoin := He.glo_ok X G (c.1.fact 96 (f := .glo "BadCoin") rfl)
  x_BadCoin := He.exc_ok (c.1.fact 97 (f := .exc "BadCoin") rfl)
  g_BadText := He.glo_ok X G (c.1.fact 98 (f := .glo "BadText") rfl)
  x_BadText := He.exc_ok (c.1.fact 99 (f := .exc "BadText") rfl)
  l_OUTCOMES := fun H => He.lstB_ok (c.ex 0 rfl) H
  i_Answer := insB_ok (c.ex 1 rfl)
  i_Heavy := insB_ok (c.ex 2 rfl)
  t_Heavy_Answer := of_decide_eq_true (c.ex 3 rfl)
  t_Heavy_Heavy := of_decide_eq_true (c.ex 4 rfl)
  t_Heavy_Light := of_decide_eq_true (c.ex 5 rfl)
  t_Heavy_Nothing := of_decide_eq_true (c.ex 6 rfl)
  t_Heavy_Open := of_decide_eq_true (c.ex 7 rfl)
  i_Light := insB_ok (c.ex 8 rfl)
  t_Light_Answer := of_decide_eq_true (c.ex 9 rfl)
  t_Light_Heavy := of_decide_eq_true (c.ex 10 rfl)
  t_Light_Light := of_decide_eq_true (c.ex 11 rfl)
  t_Light_Nothing := of_decide_eq_true (c.ex 12 rfl)
  t_Light_Open := of_decide_eq_true (c.ex 13 rfl)
  i_Nothing := insB_ok (c.ex 14 rfl)
  z_Nothing := mk0B_ok (c.ex 15 rfl)
  t_Nothing_Answer := of_decide_eq_true (c.ex 16 rfl)
  t_Nothing_Heavy := of_decide_eq_true (c.ex 17 rfl)
  t_Nothing_Light := of_decide_eq_true (c.ex 18 rfl)
  t_Nothing_Nothing := of_decide_eq_true (c.ex 19 rfl)
  t_Nothing_Open := of_decide_eq_true (c.ex 20 rfl)
  i_Open := insB_ok (c.ex 21 rfl)
  t_Open_Answer := of_decide_eq_true (c.ex 22 rfl)
  t_Open_Heavy := of_decide_eq_true (c.ex 23 rfl)
  t_Open_Light := of_decide_eq_true (c.ex 24 rfl)
  t_Open_Nothing := of_decide_eq_true (c.ex 25 rfl)
  t_Open_Open := of_decide_eq_true (c.ex 26 rfl)
  e_BadMarks_CoinError := of_decide_eq_true (c.ex 27 rfl)
  t_BadMarks_CoinError := of_decide_eq_true (c.ex 28 rfl)
  t_BadMarks_BadMarks := of_decide_eq_true (c.ex 29 rfl)
  e_BadMarks_BadWeighing := of_decide_eq_true (c.ex 30 rfl)
  t_BadMarks_BadWeighing := of_decide_eq_true (c.ex 31 rfl)
  t_BadMarks_BadOutcome := of_decide_eq_true (c.ex 32 rfl)
  t_BadMarks_Never := of_decide_eq_true (c.ex 33 rfl)
  t_BadMarks_BadCoin := of_decide_eq_true (c.ex 34 rfl)
  t_BadMarks_BadText := of_decide_eq_true (c.ex 35 rfl)
  t_BadMarks_ValueError := of_decide_eq_true (c.ex 36 rfl)
  ec_BadMarks := excCB_ok (c.ex 37 rfl)
  e_BadWeighing_CoinError := of_decide_eq_true (c.ex 38 rfl)
  t_BadWeighing_CoinError := of_decide_eq_true (c.ex 39 rfl)
  t_BadWeighing_BadMarks := of_decide_eq_true (c.ex 40 rfl)
  e_BadWeighing_BadWeighing := of_decide_eq_true (c.ex 41 rfl)
  t_BadWeighing_BadWeighing := of_decide_eq_true (c.ex 42 rfl)
  t_BadWeighing_BadOutcome := of_decide_eq_true (c.ex 43 rfl)
  t_BadWeighing_Never := of_decide_eq_true (c.ex 44 rfl)
  t_BadWeighing_BadCoin := of_decide_eq_true (c.ex 45 rfl)
  t_BadWeighing_BadText := of_decide_eq_true (c.ex 46 rfl)
  t_BadWeighing_ValueError := of_decide_eq_true (c.ex 47 rfl)
  ec_BadWeighing := excCB_ok (c.ex 48 rfl)
  e_BadOutcome_CoinError := of_decide_eq_true (c.ex 49 rfl)
  t_BadOutcome_CoinError := of_decide_eq_true (c.ex 50 rfl)
  t_BadOutcome_BadMarks := of_decide_eq_true (c.ex 51 rfl)
  e_BadOutcome_BadWeighing := of_decide_eq_true (c.ex 52 rfl)
  t_BadOutcome_BadWeighing := of_decide_eq_true (c.ex 53 rfl)
  t_BadOutcome_BadOutcome := of_decide_eq_true (c.ex 54 rfl)
  t_BadOutcome_Never := of_decide_eq_true (c.ex 55 rfl)
  t_BadOutcome_BadCoin := of_decide_eq_true (c.ex 56 rfl)
  t_BadOutcome_BadText := of_decide_eq_true (c.ex 57 rfl)
  t_BadOutcome_ValueError := of_decide_eq_true (c.ex 58 rfl)
  ec_BadOutcome := excCB_ok (c.ex 59 rfl)
  e_Never_CoinError := of_decide_eq_true (c.ex 60 rfl)
  t_Never_CoinError := of_decide_eq_true (c.ex 61 rfl)
  t_Never_BadMarks := of_decide_eq_true (c.ex 62 rfl)
  e_Never_BadWeighing := of_decide_eq_true (c.ex 63 rfl)
  t_Never_BadWeighing := of_decide_eq_true (c.ex 64 rfl)
  t_Never_BadOutcome := of_decide_eq_true (c.ex 65 rfl)
  t_Never_Never := of_decide_eq_true (c.ex 66 rfl)
  t_Never_BadCoin := of_decide_eq_true (c.ex 67 rfl)
  t_Never_BadText := of_decide_eq_true (c.ex 68 rfl)
  t_Never_ValueError := of_decide_eq_true (c.ex 69 rfl)
  ec_Never := excCB_ok (c.ex 70 rfl)
  e_BadCoin_CoinError := of_decide_eq_true (c.ex 71 rfl)
  t_BadCoin_CoinError := of_decide_eq_true (c.ex 72 rfl)
  t_BadCoin_BadMarks := of_decide_eq_true (c.ex 73 rfl)
  e_BadCoin_BadWeighing := of_decide_eq_true (c.ex 74 rfl)
  t_BadCoin_BadWeighing := of_decide_eq_true (c.ex 75 rfl)
  t_BadCoin_BadOutcome := of_decide_eq_true (c.ex 76 rfl)
  t_BadCoin_Never := of_decide_eq_true (c.ex 77 rfl)
  t_BadCoin_BadCoin := of_decide_eq_true (c.ex 78 rfl)
  t_BadCoin_BadText := of_decide_eq_true (c.ex 79 rfl)
  t_BadCoin_ValueError := of_decide_eq_true (c.ex 80 rfl)
  ec_BadCoin := excCB_ok (c.ex 81 rfl)
  e_BadText_CoinError := of_decide_eq_true (c.ex 82 rfl)
  t_BadText_CoinError := of_decide_eq_true (c.ex 83 rfl)
  t_BadText_BadMarks := of_decide_eq_true (c.ex 84 rfl)
  e_BadText_BadWeighing := of_decide_eq_true (c.ex 85 rfl)
  t_BadText_BadWeighing := of_decide_eq_true (c.ex 86 rfl)
  t_BadText_BadOutcome := of_decide_eq_true (c.ex 87 rfl)
  t_BadText_Never := of_decide_eq_true (c.ex 88 rfl)
  t_BadText_BadCoin := of_decide_eq_true (c.ex 89 rfl)
  t_BadText_BadText := of_decide_eq_true (c.ex 90 rfl)
  t_BadText_ValueError := of_decide_eq_true (c.ex 91 rfl)
  ec_BadText := excCB_ok (c.ex 92 rfl)
end Od

namespace Od
open PySem PySem.Spec PyProof.Rows L2 SX Evl
variable {P : Program} {w : World} {K : PySem.W.Frag} {mg : Str → Option Value} {base : Heap}
/-! ### is_whole -/
def kInt (t : Value) (b : Bool) : Prop := ∀ K, PySem.W.kitOne K t (.type "int") = some b
def spIsWhole (K : PySem.W.Frag) : Sp := S1 fun a H Q => ∃ (t : Value) (ki kb : Bool), TyX K H a t ∧ PySem.W.kitOne K t (.type "int") = some ki ∧ PySem.W.kitOne K t (.type "bool") = some kb ∧ Go H (Q (.bl (ki && !kb)))
theorem ok_is_whole (T : Txt K mg) : Cal CX0 P w K mg base 1 "is_whole" (spIsWhole K) :=
  cal_mk T.f_is_whole T.g_is_whole sc_is_whole (fun _ _ _ _ _ _ us hl => match us, hl with | [_], _ => rfl) len1 fun cdv A outer s H vs Q E hr hsp => by
    obtain ⟨a, rfl, t, ki, kb, ht, h1, h2, q⟩ := hsp
    refine ⟨_, (pss_cons (ps_ret (pe_and (pe_callB (call_isiK2 K) (by rfl) T.n_isinstance (by decide +kernel) (pa_cons (pv 0) (pa_cons (pe_gTy (n := "int") T.n_int) pa_nil))) (pe_one (pe_not (pe_callB (call_isiK2 K) (by rfl) T.n_isinstance (by decide +kernel) (pa_cons (pv 0) (pa_cons (pe_gTy (n := "bool") T.n_bool) pa_nil)))))))
      pss_nil), ?_⟩
    exact go_ret (ev_andV (ev_isT (ev_var rfl) ev_c (.ty _) ht h1) fun _ => ev_notV (ev_isT (ev_var rfl) ev_c (.ty _) ht h2)) q
theorem sv_is_whole {H : Hp} {x : V} (hf : flatV x = true) : SpV (spIsWhole K) [x] H (.bl (isIntV x)) := sv1 fun H1 e Q q => by
  cases x with
  | non => exact ⟨_, false, false, .base .non, kit_ty (by decide +kernel), kit_ty (by decide +kernel), q⟩
  | bl b => exact ⟨_, true, true, .base (.bl b), kit_ty (by decide +kernel), kit_ty (by decide +kernel), q⟩
  | int i => exact ⟨_, true, false, .base (.int i), kit_ty (by decide +kernel), kit_ty (by decide +kernel), q⟩
  | str z => exact ⟨_, false, false, .base (.str z), kit_ty (by decide +kernel), kit_ty (by decide +kernel), q⟩
  | _ => cases hf
/-! ### cases_of -/
def spCasesOf : Sp := S1 fun a H Q => ∃ m : List Nat, a = .str (S m) ∧ Go H (Q (.int (casesN m : Nat)))
theorem cmul_l {i j : Int} (h1 : -(2 ^ 64) < i) (h2 : i < 2 ^ 64) : CMul i j := .inl ⟨h1, h2⟩
theorem ok_cases_of (T : Txt K mg) : Cal CX0 P w K mg base 1 "cases_of" spCasesOf :=
  cal_mk T.f_cases_of T.g_cases_of sc_cases_of (fun _ _ _ _ _ _ us hl => match us, hl with | [_], _ => rfl) len1 fun cdv A outer s H vs Q E hr hsp => by
    obtain ⟨a, rfl, m, rfl, q⟩ := hsp
    refine ⟨_, (pss_cons (ps_set (i := 1) sc_cases_of.nd rfl (Or.inl rfl) (pe_op op_addI (pe_op op_addI (pe_op op_mulI pe_int (pe_m1 PySem.F.slot_str_count PySem.F.type_str_count mt_countT (pv 0) (pe_strS k_e))) (pe_m1 PySem.F.slot_str_count PySem.F.type_str_count mt_countT (pv 0) (pe_strS k_h))) (pe_m1 PySem.F.slot_str_count PySem.F.type_str_count mt_countT (pv 0) (pe_strS k_l))))
      (pss_cons (ps_if (PW.pt (pw_and (pt_cmpR op_notInT (pe_strS k_h) (pv 0) rfl) (pw_and1 (pt_cmpR op_notInT (pe_strS k_l) (pv 0) rfl)))) (pss_cons (ps_aug (i := 1) sc_cases_of.nd rfl (Or.inl rfl) pe_int ip_add)
      pss_nil) pss_nil)
      (pss_cons (ps_ret (pv 1))
      pss_nil))), ?_⟩
    refine go_asg (ev_addI (ev_addI (ev_mulI ev_c (ev_countT (ev_var rfl) ev_c) (cmul_l (by decide) (by decide))) (ev_countT (ev_var rfl) ev_c)) (ev_countT (ev_var rfl) ev_c)) ?_
    refine go_when (et_and (et_test (ev_notInT ev_c (ev_var rfl))) fun _ => et_test (ev_notInT ev_c (ev_var rfl))) (fun hb => ?_) (fun hb => ?_)
    · refine go_aug rfl ev_c (go_next ?_)
      refine go_ret (ev_var rfl) ?_
      have e : tiltB m = false := by
        unfold tiltB
        rw [Bool.and_eq_true, Bool.not_eq_true', Bool.not_eq_true'] at hb
        rw [hb.1, hb.2] <;> rfl
      have e2 : ((casesN m : Nat) : Int) = 2 * ((m.count 101 : Nat) : Int) + ((m.count 104 : Nat) : Int) + ((m.count 108 : Nat) : Int) + 1 := by
        unfold casesN
        rw [e]
        simp
      rw [← e2]
      exact q
    · refine go_ret (ev_var rfl) ?_
      have e : tiltB m = true := by
        unfold tiltB
        cases h1 : decide (104 ∈ m) <;> cases h2 : decide (108 ∈ m) <;> simp_all
      have e2 : ((casesN m : Nat) : Int) = 2 * ((m.count 101 : Nat) : Int) + ((m.count 104 : Nat) : Int) + ((m.count 108 : Nat) : Int) := by
        unfold casesN
        rw [e]
        simp
      rw [← e2]
      exact q
theorem sv_cases_of {H : Hp} {m : List Nat} : SpV spCasesOf [.str (S m)] H (.int (casesN m : Nat)) := sv1 fun H1 e Q q => ⟨m, rfl, q⟩
end Od

namespace Od
open PySem PySem.Spec PyProof.Rows L2 SX Evl
variable {P : Program} {w : World} {K : PySem.W.Frag} {mg : Str → Option Value} {base : Heap}
/-! ### check_marks, of what are marks -/
def spCheckMarks : Sp := S1 fun a H Q => ∃ m : List Nat, a = .str (S m) ∧ marksB m = true ∧ m.length ≤ 10000 ∧ Go H (Q .non)
theorem ok_check_marks (T : Txt K mg) : Cal CX0 P w K mg base 1 "check_marks" spCheckMarks :=
  cal_mk T.f_check_marks T.g_check_marks sc_check_marks (fun _ _ _ _ _ _ us hl => match us, hl with | [_], _ => rfl) len1 fun cdv A outer s H vs Q E hr hsp => by
    obtain ⟨a, rfl, m, rfl, hm, hl, q⟩ := hsp
    refine ⟨_, (pss_cons (ps_if (PW.pt (pw_or (pt_not (pt_val (pe_callB (call_isiK2 K) (by rfl) T.n_isinstance (by decide +kernel) (pa_cons (pv 0) (pa_cons (pe_gTy (n := "str") T.n_str) pa_nil))))) (pw_or1 (pt_not (pt_val (pe_callB (cr_allK K rfl) (by rfl) T.n_all (by decide +kernel) (pa_cons (pe_lc (own := [("sign", 1)]) rfl sc_check_marks.nd (pi_str (pv 0)) (blkOk_by (own := [("sign", 1)]) (N := ["marks", "sign"]) (sc := defScope s_check_marks) (by decide +kernel)) (fun _ _ _ _ _ => (pg_name (i := 1) sc_check_marks.nd rfl (Or.inl rfl))) (fun _ _ _ _ _ => pts_nil) (fun _ _ _ _ _ => (pe_cmpR op_inT (pv 1) (pe_gS T.c_SIGNS k_ehlg) rfl))) pa_nil))))))) (pss_cons ps_never
      pss_nil) pss_nil)
      (pss_cons (ps_if (PW.pt (pw_and (pt_cmpR op_inT (pe_strS k_e) (pv 0) rfl) (pw_and1 (PW.pt (pw_or (pt_cmpR op_inT (pe_strS k_h) (pv 0) rfl) (pw_or1 (pt_cmpR op_inT (pe_strS k_l) (pv 0) rfl))))))) (pss_cons ps_never
      pss_nil) pss_nil)
      pss_nil)), ?_⟩
    unfold marksB at hm
    rw [Bool.and_eq_true] at hm
    refine go_when (et_or (et_not (et_B (ev_isT (ev_var rfl) ev_c (.ty _) (.base (.str _)) (kit_ty (r := true) (by decide +kernel))))) fun _ => et_not (et_B (ev_allN (bs := m.map fun c => decide (c ∈ [101, 104, 108, 103]))
      (by rw [List.map_map]; exact el_mapS (fun c => V.bl (decide (c ∈ [101, 104, 108, 103]))) (ev_var rfl) (by omega) (fun _ => rfl) (fun c _ => ev_inT (ev_var rfl) ev_c))))) (fun hb => ?_) (fun _ => ?_)
    · rw [List.all_map] at hb
      have z : (m.all fun c => decide (c ∈ [101, 104, 108, 103])) = true := hm.1
      have z2 : (m.all (_root_.id ∘ fun c => decide (c ∈ [101, 104, 108, 103]))) = true := z
      rw [z2] at hb
      cases hb
    · refine go_when (et_and (et_test (ev_inT ev_c (ev_var rfl))) fun _ => et_or (et_test (ev_inT ev_c (ev_var rfl))) fun _ => et_test (ev_inT ev_c (ev_var rfl))) (fun hb => ?_) (fun _ => go_next q)
      have z := hm.2
      rw [hb] at z
      cases z
theorem sv_check_marks {H : Hp} {m : List Nat} (hm : marksB m = true) (hl : m.length ≤ 10000) : SpV spCheckMarks [.str (S m)] H .non := sv1 fun H1 e Q q => ⟨m, rfl, hm, hl, q⟩
/-! ### weighings_for -/
def spWeighingsFor : Sp := S1 fun a H Q => ∃ n : Nat, a = .int (n : Nat) ∧ Go H (Q (.int (wf n : Nat)))
theorem ok_weighings_for (T : Txt K mg) : Cal CX0 P w K mg base 1 "weighings_for" spWeighingsFor :=
  cal_mk T.f_weighings_for T.g_weighings_for sc_weighings_for (fun _ _ _ _ _ _ us hl => match us, hl with | [_], _ => rfl) len1 fun cdv A outer s H vs Q E hr hsp => by
    obtain ⟨a, rfl, n, rfl, q⟩ := hsp
    refine ⟨_, (pss_cons (ps_set (i := 1) sc_weighings_for.nd rfl (Or.inl rfl) pe_int)
      (pss_cons (ps_set (i := 2) sc_weighings_for.nd rfl (Or.inl rfl) pe_int)
      (pss_cons (ps_while PassesOwn.never (pt_cmpR op_ltI (pv 2) (pv 0) (nomark _)) (pss_cons (ps_aug (i := 2) sc_weighings_for.nd rfl (Or.inl rfl) pe_int iop_mul)
      (pss_cons (ps_aug (i := 1) sc_weighings_for.nd rfl (Or.inl rfl) pe_int ip_add)
      pss_nil)))
      (pss_cons (ps_ret (pv 1))
      pss_nil)))), ?_⟩
    refine go_asg ev_c (go_asg ev_c ?_)
    refine go_while (fun i σ Hk => ∃ k : Nat, σ = [some (.int (n : Nat)), some (.int (k : Nat)), some (.int ((3 ^ k : Nat) : Nat))] ∧ k ≤ wf n ∧ i = wf n - k ∧ Hk = H) (wf n) ⟨0, rfl, Nat.zero_le _, rfl, rfl⟩ ?_
    rintro i σ Hk ⟨k, rfl, hk, rfl, rfl⟩
    refine ⟨_, et_test (ev_ltI (ev_var rfl) (ev_var rfl)), fun hb => ?_, fun hb => ?_⟩
    · have h1 : 3 ^ k < n := by
        have := of_decide_eq_true hb
        omega
      have h2 := (wf_gt k n).mp h1
      refine go_augM rfl ev_c (.inr ⟨by decide, by decide⟩) (go_aug rfl ev_c (go_up rfl ?_))
      refine ⟨wf n - (k + 1), by omega, k + 1, ?_, h2, rfl, rfl⟩
      have e : (((3 ^ k : Nat) : Nat) : Int) * 3 = ((3 ^ (k + 1) : Nat) : Int) := by
        rw [Nat.pow_succ]
        omega
      have e2 : ((k : Nat) : Int) + 1 = ((k + 1 : Nat) : Int) := by omega
      show [some (V.int (n : Nat)), some (V.int (((k : Nat) : Int) + 1)), some (V.int ((((3 ^ k : Nat) : Nat) : Int) * 3))] = _
      rw [e, e2]
    · have h1 : ¬ 3 ^ k < n := by
        have := of_decide_eq_false hb
        omega
      have h2 : k = wf n := by
        have h3 := wf_gt k n
        omega
      subst h2
      exact go_ret (ev_var rfl) q
theorem sv_weighings_for {H : Hp} {n : Nat} : SpV spWeighingsFor [.int (n : Nat)] H (.int (wf n : Nat)) := sv1 fun H1 e Q q => ⟨n, rfl, q⟩
theorem wf_small {m : List Nat} (hm : m.length ≤ 10000) : wf (casesN m) ≤ 10 := by
  refine (wf_le 10 _).mp ?_
  unfold casesN
  have h1 : m.count 101 ≤ m.length := List.count_le_length
  have h3 : m.count 108 ≤ m.length := List.count_le_length
  have h4 : m.count 104 ≤ m.length := List.count_le_length
  have : (if tiltB m = true then 0 else 1) ≤ 1 := by split <;> omega
  omega
end Od

namespace Od
open PySem PySem.Spec PyProof.Rows L2 SX Evl
variable {P : Program} {w : World} {K : PySem.W.Frag} {mg : Str → Option Value} {base : Heap}
/-! ### is_side -/
def spIsSide (K : PySem.W.Frag) : Sp := S2 fun a b H Q => ∃ (o : Option (List V)) (c : Int), b = .int c ∧ Thing K H a o ∧ Go H (Q (.bl (sideO o c)))
theorem ok_is_side (T : Txt K mg) : Cal CX0 P w K mg base 2 "is_side" (spIsSide K) :=
  cal_mk T.f_is_side T.g_is_side sc_is_side (fun _ _ _ _ _ _ us hl => match us, hl with | [_, _], _ => rfl) len2 fun cdv A outer s H vs Q E hr hsp => by
    obtain ⟨a, b, rfl, o, c, rfl, ht, q⟩ := hsp
    refine ⟨_, (pss_cons (ps_if (PW.pt (pw_or (pt_not (pt_val (pe_callB (call_isiK2 K) (by rfl) T.n_isinstance (by decide +kernel) (pa_cons (pv 0) (pa_cons (pe_gTy (n := "list") T.n_list) pa_nil))))) (pw_or1 (pt_not (pt_val (pe_callB (cr_allK K rfl) (by rfl) T.n_all (by decide +kernel) (pa_cons (pe_lc (own := [("coin", 2)]) rfl sc_is_side.nd (pi_list (pv 0)) (blkOk_by (own := [("coin", 2)]) (N := ["thing", "coins", "coin", "last"]) (sc := defScope s_is_side) (by decide +kernel)) (fun _ _ _ _ _ => (pg_name (i := 2) sc_is_side.nd rfl (Or.inl rfl))) (fun _ _ _ _ _ => pts_nil) (fun _ _ _ _ _ => (pe_k (ok_is_whole T) hr (by decide) (by rfl) (pa_cons (pv 2) pa_nil)))) pa_nil))))))) (pss_cons (ps_ret pe_bl)
      pss_nil) pss_nil)
      (pss_cons (ps_set (i := 3) sc_is_side.nd rfl (Or.inl rfl) (pe_un un_negI pe_int))
      (pss_cons (ps_for PassesOwn.never rfl (pi_list (pv 0)) (pg_name (i := 2) sc_is_side.nd rfl (Or.inl rfl)) (pss_cons (ps_if (pt_not (pt_chain op_ltI op_leI (pv 3) (pv 2) (pv 1))) (pss_cons (ps_ret pe_bl)
      pss_nil) pss_nil)
      (pss_cons (ps_set (i := 3) sc_is_side.nd rfl (Or.inl rfl) (pv 2))
      pss_nil)))
      (pss_cons (ps_ret pe_bl)
      pss_nil)))), ?_⟩
    cases o with
    | none =>
      obtain ⟨t, h1, h2⟩ := ht
      refine go_when (et_or (b := true) (et_not (et_B (ev_isT (ev_var rfl) ev_c (.ty _) h1 h2))) fun h => by cases h) (fun _ => go_ret ev_c q) (fun hb => by cases hb)
    | some xs =>
      obtain ⟨p, rfl, hp, hf, hl⟩ := ht
      refine go_when (et_or (et_not (et_B (ev_isT (ev_var rfl) ev_c (.ty _) (tyx_sql hp) (kit_ty (r := true) (by decide +kernel))))) fun _ => et_not (et_B (ev_allN (bs := xs.map isIntV)
        (by rw [List.map_map]; exact el_mapL xs _root_.id (fun x => V.bl (isIntV x)) .non (ev_var rfl) (by rw [List.map_id]; exact hp) hl (fun _ => rfl) (fun x hx => ev_call0 (ea_cons (ev_var rfl) ea_nil) (sv_is_whole (List.all_eq_true.mp hf x hx))))))) (fun hb => ?_) (fun hb => ?_)
      · have e : sideO (some xs) c = false := by
          show sideV xs c = false
          unfold sideV
          rw [List.all_map] at hb
          have z : (xs.all isIntV) = false := by
            have z2 : (!true || !xs.all isIntV) = true := hb
            simpa using z2
          rw [z, Bool.false_and]
        rw [e] at q
        exact go_ret ev_c q
      · have z : xs.all isIntV = true := by
          rw [List.all_map] at hb
          have z2 : (!true || !xs.all isIntV) = false := hb
          simpa using z2
        have e := ints_of z
        generalize xs.map intOf = ns at e
        subst e
        refine go_asg (ev_negI ev_c) ?_
        refine go_forL (fun i σ Hk => (∃ (y : Option V) (last : Int), σ = [some (.ref p), some (.int c), y, some (.int last)] ∧ sideN ns c = riseB c last (ns.drop i)) ∧ Hk = H) (ev_var rfl) hp ⟨⟨none, -1, rfl, rfl⟩, rfl⟩ (fun i σ' Hk h => by rw [h.2]; exact hp) ?_ ?_
        · rintro i x σ' Hk hx ⟨⟨y, last, rfl, hr⟩, rfl⟩
          rw [List.getElem?_map] at hx
          cases hn : ns[i]? with
          | none => rw [hn] at hx; cases hx
          | some n =>
            rw [hn] at hx
            obtain rfl : V.int n = x := Option.some.inj hx
            rw [drop_at hn] at hr
            refine go_when (et_not (et_test (ev_ltLe (ev_var rfl) (ev_var rfl) (ev_var rfl)))) (fun hb => ?_) (fun hb => ?_)
            · have e : sideO (some (ns.map V.int)) c = false := by
                show sideV (ns.map V.int) c = false
                rw [sideV_ints, hr]
                show (decide (last < n) && decide (n ≤ c) && riseB c n (ns.drop (i + 1))) = false
                have z2 : (decide (last < n) && decide (n ≤ c)) = false := by rwa [Bool.not_eq_true'] at hb
                rw [z2, Bool.false_and]
              rw [e] at q
              exact go_ret ev_c q
            · refine go_asg (ev_var rfl) (go_up rfl ⟨⟨some (.int n), n, rfl, ?_⟩, rfl⟩)
              have z2 : (decide (last < n) && decide (n ≤ c)) = true := by rwa [Bool.not_eq_false'] at hb
              rw [hr]
              show (decide (last < n) && decide (n ≤ c) && riseB c n (ns.drop (i + 1))) = _
              rw [z2, Bool.true_and]
        · rintro σ' Hk ⟨⟨y, last, rfl, hr⟩, rfl⟩
          refine go_ret ev_c ?_
          have e : sideO (some (ns.map V.int)) c = true := by
            show sideV (ns.map V.int) c = true
            rw [sideV_ints, hr, List.length_map, List.drop_length]
            rfl
          rw [e] at q
          exact q
theorem sv_is_side {H : Hp} {a : V} {o : Option (List V)} {c : Int} (h : Thing K H a o) : SpV (spIsSide K) [a, .int c] H (.bl (sideO o c)) := sv2 fun H1 e Q q => ⟨o, c, rfl, h.mono e, q⟩
/-! ### is_weighing -/
def spIsWeighing (K : PySem.W.Frag) : Sp := S3 fun a b d H Q => ∃ (c : Int) (l r : Option (List V)), a = .int c ∧ Thing K H b l ∧ Thing K H d r ∧ Go H (Q (.bl (weighO c l r)))
theorem ok_is_weighing (T : Txt K mg) : Cal CX0 P w K mg base 3 "is_weighing" (spIsWeighing K) :=
  cal_mk T.f_is_weighing T.g_is_weighing sc_is_weighing (fun _ _ _ _ _ _ us hl => match us, hl with | [_, _, _], _ => rfl) len3 fun cdv A outer s H vs Q E hr hsp => by
    obtain ⟨a, b, d, rfl, c, l, r, rfl, hl, hR, q⟩ := hsp
    refine ⟨_, (pss_cons (ps_if (PW.pt (pw_or (pt_not (pt_val (pe_k (ok_is_side T) hr (by decide) (by rfl) (pa_cons (pv 1) (pa_cons (pv 0) pa_nil))))) (pw_or (pt_not (pt_val (pe_k (ok_is_side T) hr (by decide) (by rfl) (pa_cons (pv 2) (pa_cons (pv 0) pa_nil))))) (pw_or1 (pt_cmpR op_neI (pe_callB (call_lenQK K) (by rfl) T.n_len (by decide +kernel) (pa_cons (pv 1) pa_nil)) (pe_callB (call_lenQK K) (by rfl) T.n_len (by decide +kernel) (pa_cons (pv 2) pa_nil)) (nomark _)))))) (pss_cons (ps_ret pe_bl)
      pss_nil) pss_nil)
      (pss_cons (ps_ret (pe_not (pe_callB (cr_anyK K rfl) (by rfl) T.n_any (by decide +kernel) (pa_cons (pe_lc (own := [("coin", 3)]) rfl sc_is_weighing.nd (pi_list (pv 1)) (blkOk_by (own := [("coin", 3)]) (N := ["coins", "left", "right", "coin"]) (sc := defScope s_is_weighing) (by decide +kernel)) (fun _ _ _ _ _ => (pg_name (i := 3) sc_is_weighing.nd rfl (Or.inl rfl))) (fun _ _ _ _ _ => pts_nil) (fun _ _ _ _ _ => (pe_cmpR (op_inK K) (pv 3) (pv 2) rfl))) pa_nil))))
      pss_nil)), ?_⟩
    cases e1 : sideO l c with
    | false =>
      have e : weighO c l r = false := by
        cases l with
        | none => rfl
        | some l =>
          cases r with
          | none => rfl
          | some r =>
            have z : sideV l c = false := e1
            show (sideV l c && _) = false
            rw [z, Bool.false_and]
      rw [e] at q
      refine go_when (et_or (a := true) (b := true) (et_is (et_not (et_B (ev_call0 (ea_cons (ev_var rfl) (ea_cons (ev_var rfl) ea_nil)) (sv_is_side hl)))) (by rw [e1] <;> rfl)) fun h => by cases h) (fun _ => go_ret ev_c q) (fun hb => by cases hb)
    | true =>
      cases l with
      | none => cases e1
      | some l =>
        cases e2 : sideO r c with
        | false =>
          have e : weighO c (some l) r = false := by
            cases r with
            | none => rfl
            | some r =>
              have z : sideV r c = false := e2
              show (sideV l c && (sideV r c && _)) = false
              rw [z, Bool.false_and, Bool.and_false]
          rw [e] at q
          refine go_when (et_or (a := false) (b := true) (et_is (et_not (et_B (ev_call0 (ea_cons (ev_var rfl) (ea_cons (ev_var rfl) ea_nil)) (sv_is_side hl)))) (by rw [e1] <;> rfl)) fun _ =>
            et_or (a := true) (b := true) (et_is (et_not (et_B (ev_call0 (ea_cons (ev_var rfl) (ea_cons (ev_var rfl) ea_nil)) (sv_is_side hR)))) (by rw [e2] <;> rfl)) fun h => by cases h) (fun _ => go_ret ev_c q) (fun hb => by cases hb)
        | true =>
          cases r with
          | none => cases e2
          | some r =>
            obtain ⟨p1, rfl, hp1, hf1, hl1⟩ := id hl
            obtain ⟨p2, rfl, hp2, hf2, hl2⟩ := id hR
            have e : weighO c (some l) (some r) = (decide (l.length = r.length) && !(l.any fun x => inV x r)) := by
              have z1 : sideV l c = true := e1
              have z2 : sideV r c = true := e2
              show (sideV l c && (sideV r c && _)) = _
              rw [z1, z2, Bool.true_and, Bool.true_and]
            rw [e] at q
            refine go_when (et_or (a := false) (et_is (et_not (et_B (ev_call0 (ea_cons (ev_var rfl) (ea_cons (ev_var rfl) ea_nil)) (sv_is_side hl)))) (by rw [e1] <;> rfl)) fun _ =>
              et_or (a := false) (et_is (et_not (et_B (ev_call0 (ea_cons (ev_var rfl) (ea_cons (ev_var rfl) ea_nil)) (sv_is_side hR)))) (by rw [e2] <;> rfl)) fun _ =>
              et_test (ev_neI (ev_lenQ (ev_var rfl) hp1) (ev_lenQ (ev_var rfl) hp2))) (fun hb => ?_) (fun hb => ?_)
            · have z : decide (l.length = r.length) = false := by
                have z2 : (false || (false || !decide (((l.length : Nat) : Int) = ((r.length : Nat) : Int)))) = true := hb
                have z3 : ¬ ((l.length : Nat) : Int) = ((r.length : Nat) : Int) := by simpa using z2
                exact decide_eq_false fun e => z3 (by rw [e])
              rw [z, Bool.false_and] at q
              exact go_ret ev_c q
            · have z : decide (l.length = r.length) = true := by
                have z2 : (false || (false || !decide (((l.length : Nat) : Int) = ((r.length : Nat) : Int)))) = false := hb
                have z3 : ((l.length : Nat) : Int) = ((r.length : Nat) : Int) := by simpa using z2
                exact decide_eq_true (Int.ofNat_inj.mp z3)
              rw [z, Bool.true_and] at q
              refine go_ret (ev_notV (ev_anyN (bs := l.map fun x => inV x r) ?_)) (by rw [List.any_map]; exact q)
              rw [List.map_map]
              exact el_mapL l _root_.id (fun x => V.bl (inV x r)) .non (ev_var rfl) (by rw [List.map_id]; exact hp1) hl1 (fun _ => rfl) (fun x hx => ev_in (neg := false) (ev_var rfl) (ev_var rfl) hp2 (List.all_eq_true.mp hf1 x hx) hf2)
theorem sv_is_weighing {H : Hp} {b d : V} {l r : Option (List V)} {c : Int} (hl : Thing K H b l) (hr : Thing K H d r) : SpV (spIsWeighing K) [.int c, b, d] H (.bl (weighO c l r)) := sv3 fun H1 e Q q => ⟨c, l, r, rfl, hl.mono e, hr.mono e, q⟩
end Od

namespace Od
open PySem PySem.Spec PyProof.Rows L2 SX Evl
variable {P : Program} {w : World} {K : PySem.W.Frag} {mg : Str → Option Value} {base : Heap}
/-! ### left_over -/
def spLeftOver : Sp := S3 fun a b d H Q => ∃ (c : Nat) (z : Int) (o : List Nat), a = .str (S [c]) ∧ b = .int z ∧ d = .str (S o) ∧ Go H (Q (.str (S [leftover c z o])))
theorem in2 {c a b : Nat} : decide (c ∈ [a, b]) = (decide (c = a) || decide (c = b)) := by simp
theorem ok_left_over (T : Txt K mg) : Cal CX0 P w K mg base 1 "left_over" spLeftOver :=
  cal_mk T.f_left_over T.g_left_over sc_left_over (fun _ _ _ _ _ _ us hl => match us, hl with | [_, _, _], _ => rfl) len3 fun cdv A outer s H vs Q E hr hsp => by
    obtain ⟨a, b, d, rfl, c, z, o, rfl, rfl, rfl, q⟩ := hsp
    refine ⟨_, (pss_cons (ps_if (pt_cmpR op_eqT (pv 2) (pe_strS k_even) (nomark _)) (pss_cons (ps_ret (pe_ifExp (pt_cmpR op_eqI (pv 1) pe_int (nomark _)) (pv 0) (pe_strS k_g)))
      pss_nil) pss_nil)
      (pss_cons (ps_if (PW.pt (pw_and (pt_cmpR op_gtI (pv 1) pe_int (nomark _)) (pw_and1 (pt_cmpR op_inT (pv 0) (pe_strS k_eh) rfl)))) (pss_cons (ps_ret (pe_strS k_h))
      pss_nil) pss_nil)
      (pss_cons (ps_if (PW.pt (pw_and (pt_cmpR op_ltI (pv 1) pe_int (nomark _)) (pw_and1 (pt_cmpR op_inT (pv 0) (pe_strS k_el) rfl)))) (pss_cons (ps_ret (pe_strS k_l))
      pss_nil) pss_nil)
      (pss_cons (ps_ret (pe_strS k_g))
      pss_nil)))), ?_⟩
    unfold leftover at q
    refine go_when (et_test (ev_eqT (ev_var rfl) ev_c)) (fun hb => ?_) (fun hb => ?_)
    · rw [if_pos (of_decide_eq_true hb)] at q
      by_cases hz : z = 0
      · rw [if_pos hz] at q
        exact go_ret (ev_if (et_test (ev_eqI (ev_var rfl) ev_c)) (fun _ => ev_var rfl) (fun h => absurd hz (of_decide_eq_false h))) q
      · rw [if_neg hz] at q
        exact go_ret (ev_if (et_test (ev_eqI (ev_var rfl) ev_c)) (fun h => absurd (of_decide_eq_true h) hz) (fun _ => ev_c)) q
    · rw [if_neg (of_decide_eq_false hb)] at q
      refine go_when (et_and (et_test (ev_gtI (ev_var rfl) ev_c)) fun _ => et_test (ev_inT (ev_var rfl) ev_c)) (fun h1 => ?_) (fun h1 => ?_)
      · rw [Bool.and_eq_true, decide_eq_true_eq, decide_eq_true_eq] at h1
        rw [if_pos ⟨h1.1, by simpa using h1.2⟩] at q
        exact go_ret ev_c q
      · have n1 : ¬ (0 < z ∧ (c = 101 ∨ c = 104)) := fun hh => by
          rw [decide_eq_true hh.1, Bool.true_and, decide_eq_false_iff_not] at h1
          exact h1 (by simpa using hh.2)
        rw [if_neg n1] at q
        refine go_when (et_and (et_test (ev_ltI (ev_var rfl) ev_c)) fun _ => et_test (ev_inT (ev_var rfl) ev_c)) (fun h2 => ?_) (fun h2 => ?_)
        · rw [Bool.and_eq_true, decide_eq_true_eq, decide_eq_true_eq] at h2
          rw [if_pos ⟨h2.1, by simpa using h2.2⟩] at q
          exact go_ret ev_c q
        · have n2 : ¬ (z < 0 ∧ (c = 101 ∨ c = 108)) := fun hh => by
            rw [decide_eq_true hh.1, Bool.true_and, decide_eq_false_iff_not] at h2
            exact h2 (by simpa using hh.2)
          rw [if_neg n2] at q
          exact go_ret ev_c q
theorem sv_left_over {H : Hp} {c : Nat} {z : Int} {o : List Nat} : SpV spLeftOver [.str (S [c]), .int z, .str (S o)] H (.str (S [leftover c z o])) := sv3 fun H1 e Q q => ⟨c, z, o, rfl, rfl, rfl, q⟩
/-! ### sides_of -/
/-- two lists of counts, each within 0 .. n -/
structure Pair (K : PySem.W.Frag) (H : Hp) (n : Nat) (b d : V) (l r : List Int) : Prop where
  pb : ∃ p, b = .ref p ∧ SqL K H p (l.map V.int)
  pd : ∃ p, d = .ref p ∧ SqL K H p (r.map V.int)
  hl : ∀ x ∈ l, 0 ≤ x ∧ x ≤ n
  hr : ∀ x ∈ r, 0 ≤ x ∧ x ≤ n
theorem Pair.mono {H H1 : Hp} {n : Nat} {b d : V} {l r : List Int} (e : Ex H H1) (h : Pair K H n b d l r) : Pair K H1 n b d l r := by
  obtain ⟨⟨p, h1, h2⟩, ⟨p', h3, h4⟩, h5, h6⟩ := h
  exact ⟨⟨p, h1, ex_l e h2⟩, ⟨p', h3, ex_l e h4⟩, h5, h6⟩
def spSidesOf (K : PySem.W.Frag) : Sp := S4 fun a b d e H Q => ∃ (n : Nat) (l r : List Int) (o : List Nat), a = .int (n : Nat) ∧ e = .str (S o) ∧ Pair K H n b d l r ∧ n ≤ 10000 ∧ NewL ((sidesL n l r o).map V.int) H Q
theorem put_loop {H : Hp} {q pd : Addr} {n : Nat} {dn base0 : List Int} {v : Int} {tv : TE} {D : Ends} {tz : TS} (hq : H q = none) (hd : SqL K H pd (dn.map V.int)) (hdn : ∀ x ∈ dn, 0 ≤ x ∧ x ≤ n) (hb : base0.length = n + 1) {iF iC : Nat} {tl : TE}
    (S0 : Option V → List (Option V)) (hset : ∀ y x, (S0 y).set iC (some x) = S0 (some x)) (hF : ∀ y, (S0 y)[iF]? = some (some (.ref q))) (hC : ∀ x, (S0 (some x))[iC]? = some (some x)) (hv : ∀ y H, Ev tv (S0 y) H (.int v)) (y0 : Option V)
    (htl : Ev tl (S0 y0) (upd H q (.lst (base0.map V.int))) (.ref pd)) (k : ∀ y, Go (upd H q (.lst ((putAll v base0 dn).map V.int))) (tz D (S0 y))) :
    Go (upd H q (.lst (base0.map V.int))) (tSeq (tFor (iList K tl) (gName iC) (tSeq (tAsg tv (gSub (tVar iF) (tVar iC) rSetL)) tNext)) tz D (S0 y0)) := by
  have keep : ∀ o, SqL K (upd H q o) pd (dn.map V.int) := fun o => ex_l (Ex.new hq) hd
  refine go_forL (fun i σ Hk => (∃ y, σ = S0 y) ∧ Hk = upd H q (.lst ((putAll v base0 (dn.take i)).map V.int))) htl (keep _) ⟨⟨y0, rfl⟩, rfl⟩ (fun i σ' Hk h => by rw [h.2]; exact keep _) ?_ ?_
  · rintro i x σ' Hk hx ⟨⟨y, rfl⟩, rfl⟩
    rw [List.getElem?_map] at hx
    cases hn : dn[i]? with
    | none => rw [hn] at hx; cases hx
    | some z =>
      rw [hn] at hx
      obtain rfl : V.int z = x := Option.some.inj hx
      have hz := hdn z (List.mem_of_getElem? hn)
      rw [hset]
      have ez : z = ((z.toNat : Nat) : Int) := by omega
      refine go_setL (n := z.toNat) upd_same (hv _ _) (ev_var (hF _)) (by rw [← ez]; exact ev_var (hC _)) ?_ (go_up rfl ⟨⟨_, rfl⟩, ?_⟩)
      · rw [List.length_map, putAll_len, hb]
        omega
      · rw [putAll_take v hn, List.map_set, upd_upd]
  · rintro σ' Hk ⟨⟨y, rfl⟩, rfl⟩
    rw [List.length_map, List.take_length]
    exact k y
theorem ok_sides_of (T : Txt K mg) : Cal CX0 P w K mg base 1 "sides_of" (spSidesOf K) :=
  cal_mk T.f_sides_of T.g_sides_of sc_sides_of (fun _ _ _ _ _ _ us hl => match us, hl with | [_, _, _, _], _ => rfl) len4 fun cdv A outer s H vs Q E hr hsp => by
    obtain ⟨a, b, d, e, rfl, n, l, r, o, rfl, rfl, ⟨⟨p1, rfl, hp1⟩, ⟨p2, rfl, hp2⟩, hl, hR⟩, hn, q⟩ := hsp
    refine ⟨_, (pss_cons (ps_set (i := 4) sc_sides_of.nd rfl (Or.inl rfl) (pe_op op_rep (pe_lst (pa_cons pe_int pa_nil)) (pe_op op_addI (pv 0) pe_int)))
      (pss_cons (ps_par (by rfl) sc_sides_of.nd (i := 5) (j := 6) rfl rfl (by decide) rfl rfl (pa_cons (pv 1) (pa_cons (pv 2) pa_nil)) (by rfl))
      (pss_cons (ps_if (pt_cmpR op_eqT (pv 3) (pe_strS k_right) (nomark _)) (pss_cons (ps_par (by rfl) sc_sides_of.nd (i := 5) (j := 6) rfl rfl (by decide) rfl rfl (pa_cons (pv 2) (pa_cons (pv 1) pa_nil)) (by rfl))
      pss_nil) pss_nil)
      (pss_cons (ps_for PassesOwn.never rfl (pi_list (pv 5)) (pg_name (i := 7) sc_sides_of.nd rfl (Or.inl rfl)) (pss_cons (ps_asg pe_int (pg_sub (pv 4) (pv 7) set_list))
      pss_nil))
      (pss_cons (ps_for PassesOwn.never rfl (pi_list (pv 6)) (pg_name (i := 7) sc_sides_of.nd rfl (Or.inl rfl)) (pss_cons (ps_asg (pe_un un_negI pe_int) (pg_sub (pv 4) (pv 7) set_list))
      pss_nil))
      (pss_cons (ps_ret (pv 4))
      pss_nil)))))), ?_⟩
    refine go_asgL (el_rep (el_lst (ea_cons ev_c ea_nil) (by decide)) (ev_addI (ev_var rfl) ev_c) (by omega) (by omega) (by show 1 * _ ≤ _; omega)) fun f hf => ?_
    have e0 : (List.replicate (((n : Nat) : Int) + 1).toNat [V.int 0]).flatten = (List.replicate (n + 1) (0 : Int)).map V.int := by
      have e1 : (((n : Nat) : Int) + 1).toNat = n + 1 := by omega
      rw [e1, List.map_replicate]
      generalize n + 1 = k
      induction k with
      | zero => rfl
      | succ k ih => rw [List.replicate_succ, List.flatten_cons, ih, List.replicate_succ] <;> rfl
    rw [e0]
    refine go_par (ea_cons (ev_var rfl) (ea_cons (ev_var rfl) ea_nil)) ?_
    refine go_whenS (et_test (ev_eqT (ev_var rfl) ev_c)) [some (.int (n : Nat)), some (.ref p1), some (.ref p2), some (.str (S o)), some (.ref f), some (.ref (if o = tRight then p2 else p1)), some (.ref (if o = tRight then p1 else p2)), none] (fun hb k => ?_) (fun hb => ?_) ?_
    · have ho : o = tRight := of_decide_eq_true hb
      rw [if_pos ho, if_pos ho] at k
      exact go_par (ea_cons (ev_var rfl) (ea_cons (ev_var rfl) ea_nil)) (go_next k)
    · have ho : ¬ o = tRight := of_decide_eq_false hb
      rw [if_neg ho, if_neg ho]
      rfl
    · have hd : SqL K H (if o = tRight then p2 else p1) ((if o = tRight then r else l).map V.int) := by
        split
        · exact hp2
        · exact hp1
      have hu : SqL K H (if o = tRight then p1 else p2) ((if o = tRight then l else r).map V.int) := by
        split
        · exact hp1
        · exact hp2
      have bd : ∀ x ∈ (if o = tRight then r else l), 0 ≤ x ∧ x ≤ (n : Nat) := by
        split
        · exact hR
        · exact hl
      have bu : ∀ x ∈ (if o = tRight then l else r), 0 ≤ x ∧ x ≤ (n : Nat) := by
        split
        · exact hl
        · exact hR
      have q2 := q f hf
      unfold sidesL at q2
      generalize (if o = tRight then p2 else p1) = pd at *
      generalize (if o = tRight then p1 else p2) = pu at *
      generalize (if o = tRight then r else l) = dn at *
      generalize (if o = tRight then l else r) = up at *
      refine put_loop (n := n) (v := 1) hf hd bd (by rw [List.length_replicate]) (fun y => [some (.int (n : Nat)), some (.ref p1), some (.ref p2), some (.str (S o)), some (.ref f), some (.ref pd), some (.ref pu), y]) (fun _ _ => rfl) (fun _ => rfl) (fun _ => rfl) (fun _ _ => ev_c) none (ev_var rfl) fun y => ?_
      refine put_loop (n := n) (v := -1) hf hu bu (by rw [putAll_len, List.length_replicate]) (fun y => [some (.int (n : Nat)), some (.ref p1), some (.ref p2), some (.str (S o)), some (.ref f), some (.ref pd), some (.ref pu), y]) (fun _ _ => rfl) (fun _ => rfl) (fun _ => rfl) (fun _ _ => ev_negI ev_c) y (ev_var rfl) fun y => ?_
      exact go_ret (ev_var rfl) q2
theorem sl_sides_of {H : Hp} {n : Nat} {b d : V} {l r : List Int} {o : List Nat} (h : Pair K H n b d l r) (hn : n ≤ 10000) : SpL (spSidesOf K) [.int (n : Nat), b, d, .str (S o)] H ((sidesL n l r o).map V.int) :=
  sl4 fun H1 e Q q => ⟨n, l, r, o, rfl, rfl, h.mono e, hn, q⟩
end Od

namespace Od
open PySem PySem.Spec PyProof.Rows L2 SX Evl
variable {P : Program} {w : World} {K : PySem.W.Frag} {mg : Str → Option Value} {base : Heap}
/-! ### behind_of -/
def spBehindOf (K : PySem.W.Frag) : Sp := S4 fun a b d e H Q => ∃ (m : List Nat) (l r : List Int) (o : List Nat), a = .str (S m) ∧ e = .str (S o) ∧ Pair K H m.length b d l r ∧ m.length ≤ 10000 ∧ Go H (Q (.str (S (behindL m l r o))))
theorem ok_behind_of (T : Txt K mg) : Cal CX0 P w K mg base 2 "behind_of" (spBehindOf K) :=
  cal_mk T.f_behind_of T.g_behind_of sc_behind_of (fun _ _ _ _ _ _ us hl => match us, hl with | [_, _, _, _], _ => rfl) len4 fun cdv A outer s H vs Q E hr hsp => by
    obtain ⟨a, b, d, e, rfl, m, l, r, o, rfl, rfl, hp, hm, q⟩ := hsp
    refine ⟨_, (pss_cons (ps_set (i := 4) sc_behind_of.nd rfl (Or.inr rfl) (pe_k (ok_sides_of T) hr (by decide) (by rfl) (pa_cons (pe_callB call_lenT (by rfl) T.n_len (by decide +kernel) (pa_cons (pv 0) pa_nil)) (pa_cons (pv 1) (pa_cons (pv 2) (pa_cons (pv 3) pa_nil))))))
      (pss_cons (ps_ret (pe_m1 PySem.F.slot_str_join PySem.F.type_str_join mt_joinT (pe_strS k_empty) (pe_lc (own := [("coin", 5), ("sign", 6)]) rfl sc_behind_of.nd (pi_enumS (by rfl) T.n_enumerate (pa_cons (pv 0) pa_nil)) (blkOk_by (own := [("coin", 5), ("sign", 6)]) (N := ["marks", "left", "right", "outcome", "sides", "coin", "sign"]) (sc := defScope s_behind_of) (by decide +kernel)) (fun _ _ _ _ _ => (pg_tupK K 2 rfl (pgs_cons (pg_name (i := 5) sc_behind_of.nd rfl (Or.inl rfl)) (pgs_cons (pg_name (i := 6) sc_behind_of.nd rfl (Or.inl rfl)) pgs_nil)))) (fun _ _ _ _ _ => pts_nil) (fun _ _ _ _ _ => (pe_k (ok_left_over T) hr (by decide) (by rfl) (pa_cons (pv 6) (pa_cons (pe_ix (ix_listK K) (pv 4) (pv 5) (fun _ _ => rfl)) (pa_cons (pv 3) pa_nil))))))))
      pss_nil)), ?_⟩
    refine go_asgL (el_call0 (ea_cons (ev_lenT (ev_var rfl) (by omega)) (ea_cons (ev_var rfl) (ea_cons (ev_var rfl) (ea_cons (ev_var rfl) ea_nil)))) (sl_sides_of hp hm)) fun f hf => ?_
    have eq1 : (List.range m.length).map (fun i => leftover (m.getD i 0) (sideOf l r o (i : Nat)) o) = behindL m l r o := rfl
    refine go_ret (ev_joinOne (List.range m.length) (fun i => leftover (m.getD i 0) (sideOf l r o (i : Nat)) o) ev_c ?_ (by rw [List.length_range]; omega)) (by rw [eq1]; exact q.mono (Ex.new hf))
    refine el_mapE (fun i => V.str (S [leftover (m.getD i 0) (sideOf l r o (i : Nat)) o])) (ea_cons (ev_var rfl) ea_nil) (by omega) (fun _ _ => rfl) (fun i hi => ?_)
    refine ev_call0 (ea_cons (ev_var rfl) (ea_cons (ev_ixL (n := i) (ev_var rfl) (ev_var rfl) (sq_of upd_same) ?_) (ea_cons (ev_var rfl) ea_nil))) sv_left_over
    rw [List.getElem?_map, sidesL_get (fun x hx => (hp.hl x hx).1) (fun x hx => (hp.hr x hx).1) (by omega)]
    rfl
theorem sv_behind_of {H : Hp} {m : List Nat} {b d : V} {l r : List Int} {o : List Nat} (h : Pair K H m.length b d l r) (hm : m.length ≤ 10000) : SpV (spBehindOf K) [.str (S m), b, d, .str (S o)] H (.str (S (behindL m l r o))) :=
  sv4 fun H1 e Q q => ⟨m, l, r, o, rfl, rfl, h.mono e, hm, q⟩
/-! ### many_behind -/
def spManyBehind (K : PySem.W.Frag) : Sp := S4 fun a b d e H Q => ∃ (m : List Nat) (l r : List Int) (o : List Nat), a = .str (S m) ∧ e = .str (S o) ∧ Pair K H m.length b d l r ∧ m.length ≤ 10000 ∧ Go H (Q (.int (manyN m l r o : Nat)))
theorem ok_many_behind (T : Txt K mg) : Cal CX0 P w K mg base 3 "many_behind" (spManyBehind K) :=
  cal_mk T.f_many_behind T.g_many_behind sc_many_behind (fun _ _ _ _ _ _ us hl => match us, hl with | [_, _, _, _], _ => rfl) len4 fun cdv A outer s H vs Q E hr hsp => by
    obtain ⟨a, b, d, e, rfl, m, l, r, o, rfl, rfl, hp, hm, q⟩ := hsp
    refine ⟨_, (pss_cons (ps_set (i := 4) sc_many_behind.nd rfl (Or.inl rfl) (pe_k (ok_behind_of T) hr (by decide) (by rfl) (pa_cons (pv 0) (pa_cons (pv 1) (pa_cons (pv 2) (pa_cons (pv 3) pa_nil))))))
      (pss_cons (ps_set (i := 5) sc_many_behind.nd rfl (Or.inl rfl) (pe_op op_addI (pe_op op_addI (pe_op op_mulI pe_int (pe_m1 PySem.F.slot_str_count PySem.F.type_str_count mt_countT (pv 4) (pe_strS k_e))) (pe_m1 PySem.F.slot_str_count PySem.F.type_str_count mt_countT (pv 4) (pe_strS k_h))) (pe_m1 PySem.F.slot_str_count PySem.F.type_str_count mt_countT (pv 4) (pe_strS k_l))))
      (pss_cons (ps_if (PW.pt (pw_and (pt_cmpR op_eqT (pv 3) (pe_strS k_even) (nomark _)) (pw_and (pt_cmpR op_notInT (pe_strS k_h) (pv 0) rfl) (pw_and1 (pt_cmpR op_notInT (pe_strS k_l) (pv 0) rfl))))) (pss_cons (ps_aug (i := 5) sc_many_behind.nd rfl (Or.inl rfl) pe_int ip_add)
      pss_nil) pss_nil)
      (pss_cons (ps_ret (pv 5))
      pss_nil)))), ?_⟩
    refine go_asg (ev_call0 (ea_cons (ev_var rfl) (ea_cons (ev_var rfl) (ea_cons (ev_var rfl) (ea_cons (ev_var rfl) ea_nil)))) (sv_behind_of hp hm)) ?_
    refine go_asg (ev_addI (ev_addI (ev_mulI ev_c (ev_countT (ev_var rfl) ev_c) (cmul_l (by decide) (by decide))) (ev_countT (ev_var rfl) ev_c)) (ev_countT (ev_var rfl) ev_c)) ?_
    have et : (!decide (104 ∈ m) && !decide (108 ∈ m)) = !tiltB m := by
      unfold tiltB
      cases decide (104 ∈ m) <;> rfl
    refine go_when (et_and (et_test (ev_eqT (ev_var rfl) ev_c)) fun _ => et_is (et_and (et_test (ev_notInT ev_c (ev_var rfl))) fun _ => et_test (ev_notInT ev_c (ev_var rfl))) et) (fun hb => ?_) (fun hb => ?_)
    · refine go_aug rfl ev_c (go_next (go_ret (ev_var rfl) ?_))
      have e2 : ((manyN m l r o : Nat) : Int) = 2 * (((behindL m l r o).count 101 : Nat) : Int) + (((behindL m l r o).count 104 : Nat) : Int) + (((behindL m l r o).count 108 : Nat) : Int) + 1 := by
        have hb2 : (decide (o = tEven) && !tiltB m) = true := hb
        unfold manyN
        rw [hb2]
        simp
      rw [← e2]
      exact q
    · refine go_ret (ev_var rfl) ?_
      have e2 : ((manyN m l r o : Nat) : Int) = 2 * (((behindL m l r o).count 101 : Nat) : Int) + (((behindL m l r o).count 104 : Nat) : Int) + (((behindL m l r o).count 108 : Nat) : Int) := by
        have hb2 : (decide (o = tEven) && !tiltB m) = false := hb
        unfold manyN
        rw [hb2]
        simp
      rw [← e2]
      exact q
theorem sv_many_behind {H : Hp} {m : List Nat} {b d : V} {l r : List Int} {o : List Nat} (h : Pair K H m.length b d l r) (hm : m.length ≤ 10000) : SpV (spManyBehind K) [.str (S m), b, d, .str (S o)] H (.int (manyN m l r o : Nat)) :=
  sv4 fun H1 e Q q => ⟨m, l, r, o, rfl, rfl, h.mono e, hm, q⟩
end Od

namespace Od
open PySem PySem.Spec PyProof.Rows L2 SX Evl
variable {P : Program} {w : World} {K : PySem.W.Frag} {mg : Str → Option Value} {base : Heap}
/-! ### check_weighing, behind, weighed: of what is right -/
/-- two lists of ints that are a weighing -/
def WPair (K : PySem.W.Frag) (H : Hp) (n : Nat) (b d : V) (l r : List Int) : Prop := (∃ p, b = .ref p ∧ SqL K H p (l.map V.int)) ∧ (∃ p, d = .ref p ∧ SqL K H p (r.map V.int)) ∧ weighB (n : Nat) l r = true ∧ l.length ≤ 20000 ∧ r.length ≤ 20000
theorem WPair.mono {H H1 : Hp} {n : Nat} {b d : V} {l r : List Int} (e : Ex H H1) (h : WPair K H n b d l r) : WPair K H1 n b d l r := by
  obtain ⟨⟨p, h1, h2⟩, ⟨p', h3, h4⟩, h5⟩ := h
  exact ⟨⟨p, h1, ex_l e h2⟩, ⟨p', h3, ex_l e h4⟩, h5⟩
theorem WPair.things {H : Hp} {n : Nat} {b d : V} {l r : List Int} (h : WPair K H n b d l r) : Thing K H b (some (l.map V.int)) ∧ Thing K H d (some (r.map V.int)) := by
  obtain ⟨⟨p, rfl, h2⟩, ⟨p', rfl, h4⟩, _, h6, h7⟩ := h
  exact ⟨thing_ints h2 (by omega), thing_ints h4 (by omega)⟩
theorem WPair.pair {H : Hp} {n : Nat} {b d : V} {l r : List Int} (h : WPair K H n b d l r) : Pair K H n b d l r := by
  obtain ⟨h1, h2, h5, _⟩ := h
  obtain ⟨s1, s2, _⟩ := weigh_un h5
  exact ⟨h1, h2, fun x hx => by have := (lt_side l _ _ s1).2 x hx; omega, fun x hx => by have := (lt_side r _ _ s2).2 x hx; omega⟩
def spCheckWeighing (K : PySem.W.Frag) : Sp := S3 fun a b d H Q => ∃ (n : Nat) (l r : List Int), a = .int (n : Nat) ∧ WPair K H n b d l r ∧ Go H (Q .non)
theorem ok_check_weighing (T : Txt K mg) : Cal CX0 P w K mg base 4 "check_weighing" (spCheckWeighing K) :=
  cal_mk T.f_check_weighing T.g_check_weighing sc_check_weighing (fun _ _ _ _ _ _ us hl => match us, hl with | [_, _, _], _ => rfl) len3 fun cdv A outer s H vs Q E hr hsp => by
    obtain ⟨a, b, d, rfl, n, l, r, rfl, hw, q⟩ := hsp
    refine ⟨_, (pss_cons (ps_if (pt_not (pt_val (pe_k (ok_is_weighing T) hr (by decide) (by rfl) (pa_cons (pv 0) (pa_cons (pv 1) (pa_cons (pv 2) pa_nil)))))) (pss_cons ps_never
      pss_nil) pss_nil)
      pss_nil), ?_⟩
    refine go_when (et_not (et_B (ev_call0 (ea_cons (ev_var rfl) (ea_cons (ev_var rfl) (ea_cons (ev_var rfl) ea_nil))) (sv_is_weighing hw.things.1 hw.things.2)))) (fun hb => ?_) (fun _ => go_next q)
    rw [weighO_ints, hw.2.2.1] at hb
    cases hb
theorem sv_check_weighing {H : Hp} {n : Nat} {b d : V} {l r : List Int} (h : WPair K H n b d l r) : SpV (spCheckWeighing K) [.int (n : Nat), b, d] H .non := sv3 fun H1 e Q q => ⟨n, l, r, rfl, h.mono e, q⟩
theorem inV_outs {o : List Nat} (h : o ∈ outs) : inV (.str (S o)) (outs.map fun o => V.str (S o)) = true := by
  unfold inV
  rw [List.any_map, List.any_eq_true]
  exact ⟨o, h, by show (S o == S o) = true; exact beq_self_eq_true _⟩
theorem outs_at (T : Txt K mg) (H : Hp) : SqL K H (He.ga K "OUTCOMES") (outs.map fun o => V.str (S o)) := by
  have z := T.l_OUTCOMES H
  rw [k_left, k_right, k_even] at z
  exact z
def spBehind (K : PySem.W.Frag) : Sp := S4 fun a b d e H Q => ∃ (m : List Nat) (l r : List Int) (o : List Nat), a = .str (S m) ∧ e = .str (S o) ∧ marksB m = true ∧ m.length ≤ 10000 ∧ WPair K H m.length b d l r ∧ o ∈ outs ∧ 1 ≤ manyN m l r o ∧ Go H (Q (.str (S (behindL m l r o))))
theorem ok_behind (T : Txt K mg) : Cal CX0 P w K mg base 5 "behind" (spBehind K) :=
  cal_mk T.f_behind T.g_behind sc_behind (fun _ _ _ _ _ _ us hl => match us, hl with | [_, _, _, _], _ => rfl) len4 fun cdv A outer s H vs Q E hr hsp => by
    obtain ⟨a, b, d, e, rfl, m, l, r, o, rfl, rfl, hm, hl, hw, ho, h1, q⟩ := hsp
    refine ⟨_, (pss_cons (ps_expr (pe_k (ok_check_marks T) hr (by decide) (by rfl) (pa_cons (pv 0) pa_nil)))
      (pss_cons (ps_expr (pe_k (ok_check_weighing T) hr (by decide) (by rfl) (pa_cons (pe_callB call_lenT (by rfl) T.n_len (by decide +kernel) (pa_cons (pv 0) pa_nil)) (pa_cons (pv 1) (pa_cons (pv 2) pa_nil)))))
      (pss_cons (ps_if (PW.pt (pw_or (pt_not (pt_val (pe_callB (call_isiK2 K) (by rfl) T.n_isinstance (by decide +kernel) (pa_cons (pv 3) (pa_cons (pe_gTy (n := "str") T.n_str) pa_nil))))) (pw_or1 (pt_cmpR (op_notInK K) (pv 3) (pe_gR T.g_OUTCOMES) rfl)))) (pss_cons ps_never
      pss_nil) pss_nil)
      (pss_cons (ps_if (pt_cmpR op_eqI (pe_k (ok_many_behind T) hr (by decide) (by rfl) (pa_cons (pv 0) (pa_cons (pv 1) (pa_cons (pv 2) (pa_cons (pv 3) pa_nil))))) pe_int (nomark _)) (pss_cons ps_never
      pss_nil) pss_nil)
      (pss_cons (ps_ret (pe_k (ok_behind_of T) hr (by decide) (by rfl) (pa_cons (pv 0) (pa_cons (pv 1) (pa_cons (pv 2) (pa_cons (pv 3) pa_nil))))))
      pss_nil))))), ?_⟩
    refine go_drop (ev_call0 (ea_cons (ev_var rfl) ea_nil) (sv_check_marks hm hl)) ?_
    refine go_drop (ev_call0 (ea_cons (ev_lenT (ev_var rfl) (by omega)) (ea_cons (ev_var rfl) (ea_cons (ev_var rfl) ea_nil))) (sv_check_weighing hw)) ?_
    refine go_when (b := false) (et_is (et_or (et_not (et_B (ev_isT (ev_var rfl) ev_c (.ty _) (.base (.str _)) (kit_ty (r := true) (by decide +kernel))))) fun _ => et_test (ev_in (neg := true) (ev_var rfl) ev_c (outs_at T H) rfl (by rfl))) ?_) (fun hb => by cases hb) (fun _ => ?_)
    · rw [if_pos rfl, inV_outs ho] <;> rfl
    · refine go_when (b := false) (et_is (et_test (ev_eqI (ev_call0 (ea_cons (ev_var rfl) (ea_cons (ev_var rfl) (ea_cons (ev_var rfl) (ea_cons (ev_var rfl) ea_nil)))) (sv_many_behind hw.pair hl)) ev_c)) (decide_eq_false (by omega))) (fun hb => by cases hb) (fun _ => ?_)
      exact go_ret (ev_call0 (ea_cons (ev_var rfl) (ea_cons (ev_var rfl) (ea_cons (ev_var rfl) (ea_cons (ev_var rfl) ea_nil)))) (sv_behind_of hw.pair hl)) q
theorem sv_behind {H : Hp} {m : List Nat} {b d : V} {l r : List Int} {o : List Nat} (hm : marksB m = true) (hl : m.length ≤ 10000) (h : WPair K H m.length b d l r) (ho : o ∈ outs) (h1 : 1 ≤ manyN m l r o) : SpV (spBehind K) [.str (S m), b, d, .str (S o)] H (.str (S (behindL m l r o))) :=
  sv4 fun H1 e Q q => ⟨m, l, r, o, rfl, rfl, hm, hl, h.mono e, ho, h1, q⟩
def S5 (R : V → V → V → V → V → Hp → VK → Prop) : Sp := fun vs H Q _ => ∃ a b c d e, vs = [a, b, c, d, e] ∧ R a b c d e H Q
theorem len5 {R : V → V → V → V → V → Hp → VK → Prop} (vs : List V) (H : Hp) (Q : VK) (E : XK) (h : S5 R vs H Q E) : vs.length = 5 := by
  obtain ⟨a, b, c, d, e, rfl, _⟩ := h
  rfl
theorem sv5 {R : V → V → V → V → V → Hp → VK → Prop} {a b c d f z : V} {H : Hp} (h : ∀ H1, Ex H H1 → ∀ Q, Go H1 (Q z) → R a b c d f H1 Q) : SpV (S5 R) [a, b, c, d, f] H z := fun H1 e Q q _ => ⟨a, b, c, d, f, rfl, h H1 e Q q⟩
def spWeighed (K : PySem.W.Frag) : Sp := S5 fun a b c d e H Q => ∃ (n : Nat) (odd : Int) (hv : Bool) (l r : List Int), a = .int (n : Nat) ∧ b = .int odd ∧ c = .bl hv ∧ -1 ≤ odd ∧ odd < n ∧ WPair K H n d e l r ∧ Go H (Q (.str (S (outc l r odd hv))))
theorem ok_weighed (T : Txt K mg) : Cal CX0 P w K mg base 5 "weighed" (spWeighed K) :=
  cal_mk T.f_weighed T.g_weighed sc_weighed (fun _ _ _ _ _ _ us hl => match us, hl with | [_, _, _, _, _], _ => rfl) len5 fun cdv A outer s H vs Q E hr hsp => by
    obtain ⟨a, b, c, d, e, rfl, n, odd, hv, l, r, rfl, rfl, rfl, h1, h2, hw, q⟩ := hsp
    refine ⟨_, (pss_cons (ps_if (PW.pt (pw_or (pt_not (pt_val (pe_k (ok_is_whole T) hr (by decide) (by rfl) (pa_cons (pv 0) pa_nil)))) (pw_or (pt_cmpR op_ltI (pv 0) pe_int (nomark _)) (pw_or (pt_not (pt_val (pe_k (ok_is_whole T) hr (by decide) (by rfl) (pa_cons (pv 1) pa_nil)))) (pw_or (pt_not (pt_chain op_leI op_ltI (pe_un un_negI pe_int) (pv 1) (pv 0))) (pw_or1 (pt_not (pt_val (pe_callB (call_isiK2 K) (by rfl) T.n_isinstance (by decide +kernel) (pa_cons (pv 2) (pa_cons (pe_gTy (n := "bool") T.n_bool) pa_nil))))))))))) (pss_cons ps_never
      pss_nil) pss_nil)
      (pss_cons (ps_expr (pe_k (ok_check_weighing T) hr (by decide) (by rfl) (pa_cons (pv 0) (pa_cons (pv 3) (pa_cons (pv 4) pa_nil)))))
      (pss_cons (ps_if (pt_cmpR (op_inK K) (pv 1) (pv 3) rfl) (pss_cons (ps_ret (pe_ifExp (pt_val (pv 2)) (pe_strS k_left) (pe_strS k_right)))
      pss_nil) pss_nil)
      (pss_cons (ps_if (pt_cmpR (op_inK K) (pv 1) (pv 4) rfl) (pss_cons (ps_ret (pe_ifExp (pt_val (pv 2)) (pe_strS k_right) (pe_strS k_left)))
      pss_nil) pss_nil)
      (pss_cons (ps_ret (pe_strS k_even))
      pss_nil))))), ?_⟩
    obtain ⟨⟨p1, rfl, s1⟩, ⟨p2, rfl, s2⟩, _⟩ := id hw
    refine go_when (b := false) (et_is (et_or (a := false) (et_is (et_not (et_B (ev_call0 (ea_cons (ev_var rfl) ea_nil) (sv_is_whole rfl)))) rfl) fun _ => et_or (a := false) (et_is (et_test (ev_ltI (ev_var rfl) ev_c)) (decide_eq_false (by omega))) fun _ =>
      et_or (a := false) (et_is (et_not (et_B (ev_call0 (ea_cons (ev_var rfl) ea_nil) (sv_is_whole rfl)))) rfl) fun _ => et_or (a := false) (et_is (et_not (et_test (ev_leLt (ev_negI ev_c) (ev_var rfl) (ev_var rfl)))) (by rw [decide_eq_true h1, decide_eq_true h2] <;> rfl)) fun _ =>
      et_not (et_B (ev_isT (ev_var rfl) ev_c (.ty _) (.base (.bl _)) (kit_ty (r := true) (by decide +kernel))))) rfl) (fun hb => by cases hb) (fun _ => ?_)
    refine go_drop (ev_call0 (ea_cons (ev_var rfl) (ea_cons (ev_var rfl) (ea_cons (ev_var rfl) ea_nil))) (sv_check_weighing hw)) ?_
    unfold outc at q
    refine go_when (et_is (et_test (ev_in (neg := false) (ev_var rfl) (ev_var rfl) s1 rfl (all_flat l))) (inV_ints odd l)) (fun hb => ?_) (fun hb => ?_)
    · rw [if_pos (of_decide_eq_true hb)] at q
      refine go_ret (ev_if (et_test (ev_var rfl)) (fun h => ?_) (fun h => ?_)) q
      · subst h; exact ev_c
      · subst h; exact ev_c
    · rw [if_neg (of_decide_eq_false hb)] at q
      refine go_when (et_is (et_test (ev_in (neg := false) (ev_var rfl) (ev_var rfl) s2 rfl (all_flat r))) (inV_ints odd r)) (fun hb => ?_) (fun hb => ?_)
      · rw [if_pos (of_decide_eq_true hb)] at q
        refine go_ret (ev_if (et_test (ev_var rfl)) (fun h => ?_) (fun h => ?_)) q
        · subst h; exact ev_c
        · subst h; exact ev_c
      · rw [if_neg (of_decide_eq_false hb)] at q
        exact go_ret ev_c q
theorem sv_weighed {H : Hp} {n : Nat} {odd : Int} {hv : Bool} {d e : V} {l r : List Int} (h1 : -1 ≤ odd) (h2 : odd < n) (h : WPair K H n d e l r) : SpV (spWeighed K) [.int (n : Nat), .int odd, .bl hv, d, e] H (.str (S (outc l r odd hv))) :=
  sv5 fun H1 e Q q => ⟨n, odd, hv, l, r, rfl, rfl, rfl, h1, h2, h.mono e, q⟩
end Od

namespace Od
open PySem PySem.Spec PyProof.Rows L2 SX Evl
variable {P : Program} {w : World} {K : PySem.W.Frag} {mg : Str → Option Value} {base : Heap}
/-! ### what the doors refuse -/
abbrev aB (K : PySem.W.Frag) (x : Str) : Addr := He.ga K x
/-- no marks -/
def BadM (K : PySem.W.Frag) (v : V) (H : Hp) : Prop := (∃ t, TyX K H v t ∧ PySem.W.kitOne K t (.type "str") = some false) ∨ ∃ m, v = .str (S m) ∧ marksB m = false ∧ m.length ≤ 10000
theorem badM_mono : Mono (BadM K) := fun v H H1 e h => by
  rcases h with ⟨t, h1, h2⟩ | h
  · exact .inl ⟨t, tyx_mono e h1, h2⟩
  · exact .inr h
def spCheckMarksX (K : PySem.W.Frag) : Sp := S1x fun a H Q E => (BadM K a H ∧ Go H (E (.ref (He.ga K "BadMarks")) none)) ∨ ∃ m, a = .str (S m) ∧ marksB m = true ∧ m.length ≤ 10000 ∧ Go H (Q .non)
theorem okx_check_marks (T : Txt K mg) : Cal (CXn P w) P w K mg base 1 "check_marks" (spCheckMarksX K) :=
  calx_mk T.f_check_marks T.g_check_marks sc_check_marks (fun _ _ _ _ _ _ us hl => match us, hl with | [_], _ => rfl) lenx1 fun cdv A outer s H vs Q E hr hsp => by
    obtain ⟨a, rfl, hsp⟩ := hsp
    refine ⟨_, (pss_cons (ps_if (PW.pt (pw_or (pt_not (pt_val (pe_callB (call_isiK2 K) (by rfl) T.n_isinstance (by decide +kernel) (pa_cons (pv 0) (pa_cons (pe_gTy (n := "str") T.n_str) pa_nil))))) (pw_or1 (pt_not (pt_val (pe_callB (cr_allK K rfl) (by rfl) T.n_all (by decide +kernel) (pa_cons (pe_lc (own := [("sign", 1)]) rfl sc_check_marks.nd (pi_str (pv 0)) (blkOk_by (own := [("sign", 1)]) (N := ["marks", "sign"]) (sc := defScope s_check_marks) (by decide +kernel)) (fun _ _ _ _ _ => (pg_name (i := 1) sc_check_marks.nd rfl (Or.inl rfl))) (fun _ _ _ _ _ => pts_nil) (fun _ _ _ _ _ => (pe_cmpR op_inT (pv 1) (pe_gS T.c_SIGNS k_ehlg) rfl))) pa_nil))))))) (pss_cons (L2N.ps_raise rfl (L2N.takes_of rfl rfl rfl rfl) (L2N.pmk_own PySem.F.excBase_ValueError (T.x_BadMarks).1 T.g_BadMarks (T.x_BadMarks).2.1 (raises_own (T.x_BadMarks).2.2.1 (T.x_BadMarks).2.2.2) rfl))
      pss_nil) pss_nil)
      (pss_cons (ps_if (PW.pt (pw_and (pt_cmpR op_inT (pe_strS k_e) (pv 0) rfl) (pw_and1 (PW.pt (pw_or (pt_cmpR op_inT (pe_strS k_h) (pv 0) rfl) (pw_or1 (pt_cmpR op_inT (pe_strS k_l) (pv 0) rfl))))))) (pss_cons (L2N.ps_raise rfl (L2N.takes_of rfl rfl rfl rfl) (L2N.pmk_own PySem.F.excBase_ValueError (T.x_BadMarks).1 T.g_BadMarks (T.x_BadMarks).2.1 (raises_own (T.x_BadMarks).2.2.1 (T.x_BadMarks).2.2.2) rfl))
      pss_nil) pss_nil)
      pss_nil)), ?_⟩
    have cs : (∃ t, TyX K H a t ∧ PySem.W.kitOne K t (.type "str") = some false ∧ Go H (E (.ref (He.ga K "BadMarks")) none)) ∨ ∃ m : List Nat, a = .str (S m) ∧ m.length ≤ 10000 ∧ (marksB m = false → Go H (E (.ref (He.ga K "BadMarks")) none)) ∧ (marksB m = true → Go H (Q .non)) := by
      rcases hsp with ⟨hb, q⟩ | ⟨m, rfl, hm, hl, q⟩
      · rcases hb with ⟨t, h1, h2⟩ | ⟨m, rfl, hm, hl⟩
        · exact .inl ⟨t, h1, h2, q⟩
        · exact .inr ⟨m, rfl, hl, fun _ => q, (fun h => by rw [hm] at h; cases h)⟩
      · exact .inr ⟨m, rfl, hl, (fun h => by rw [hm] at h; cases h), fun _ => q⟩
    rcases cs with ⟨t, h1, h2, q⟩ | ⟨m, rfl, hl, q0, q1⟩
    · exact go_when (b := true) (et_or (b := true) (et_not (et_B (ev_isT (ev_var rfl) ev_c (.ty _) h1 h2))) fun h => by cases h) (fun _ => (show Go H (E (.ref (He.ga K "BadMarks")) none) from q)) (fun h => by cases h)
    · refine go_when (b := !(m.all fun c => decide (c ∈ [101, 104, 108, 103]))) (et_is (et_or (et_not (et_B (ev_isT (ev_var rfl) ev_c (.ty _) (.base (.str _)) (kit_ty (r := true) (by decide +kernel))))) fun _ => et_not (et_B (ev_allN (bs := m.map fun c => decide (c ∈ [101, 104, 108, 103]))
        (by rw [List.map_map]; exact el_mapS (fun c => V.bl (decide (c ∈ [101, 104, 108, 103]))) (ev_var rfl) (by omega) (fun _ => rfl) (fun c _ => ev_inT (ev_var rfl) ev_c))))) (by rw [List.all_map] <;> rfl)) (fun hb => ?_) (fun hb => ?_)
      · refine (show Go H (E (.ref (He.ga K "BadMarks")) none) from q0 ?_)
        unfold marksB
        rw [Bool.not_eq_true'] at hb
        rw [hb, Bool.false_and]
      · rw [Bool.not_eq_false'] at hb
        refine go_when (et_and (et_test (ev_inT ev_c (ev_var rfl))) fun _ => et_or (et_test (ev_inT ev_c (ev_var rfl))) fun _ => et_test (ev_inT ev_c (ev_var rfl))) (fun hc => ?_) (fun hc => go_next (q1 ?_))
        · refine (show Go H (E (.ref (He.ga K "BadMarks")) none) from q0 ?_)
          unfold marksB
          rw [hb, hc] <;> rfl
        · unfold marksB
          rw [hb, hc] <;> rfl
theorem sx_marks_bad {H : Hp} {v : V} (h : BadM K v H) : SpE (spCheckMarksX K) [v] H (.exc (He.ga K "BadMarks")) := fun H1 e Q E q => ⟨v, rfl, .inl ⟨badM_mono _ _ _ e h, q⟩⟩
theorem sx_marks_ok {H : Hp} {m : List Nat} (hm : marksB m = true) (hl : m.length ≤ 10000) : SpE (spCheckMarksX K) [.str (S m)] H (.val .non) := fun H1 e Q E q => ⟨_, rfl, .inr ⟨m, rfl, hm, hl, q⟩⟩
def spBadM (K : PySem.W.Frag) : Sp := S1x fun a H Q E => BadM K a H ∧ Go H (E (.ref (He.ga K "BadMarks")) none)
theorem sx_badM {H : Hp} {v : V} (h : BadM K v H) : SpE (spBadM K) [v] H (.exc (He.ga K "BadMarks")) := fun H1 e Q E q => ⟨v, rfl, badM_mono _ _ _ e h, q⟩
theorem okx_cases (T : Txt K mg) : Cal (CXn P w) P w K mg base 2 "cases" (spBadM K) :=
  calx_mk T.f_cases T.g_cases sc_cases (fun _ _ _ _ _ _ us hl => match us, hl with | [_], _ => rfl) lenx1 fun cdv A outer s H vs Q E hr hsp => by
    obtain ⟨a, rfl, hb, q⟩ := hsp
    exact ⟨_, (pss_cons (ps_expr (pe_kx (okx_check_marks T) hr (by decide) (by rfl) (L2N.takes_of rfl rfl rfl rfl) (pa_cons (pv 0) pa_nil)))
      (pss_cons (ps_ret (pe_k (ok_cases_of T) hr (by decide) (by rfl) (pa_cons (pv 0) pa_nil)))
      pss_nil)), go_dropX (ea_cons (ev_var rfl) ea_nil) (sx_marks_bad hb) q⟩
theorem okx_fewest (T : Txt K mg) : Cal (CXn P w) P w K mg base 2 "fewest" (spBadM K) :=
  calx_mk T.f_fewest T.g_fewest sc_fewest (fun _ _ _ _ _ _ us hl => match us, hl with | [_], _ => rfl) lenx1 fun cdv A outer s H vs Q E hr hsp => by
    obtain ⟨a, rfl, hb, q⟩ := hsp
    exact ⟨_, (pss_cons (ps_expr (pe_kx (okx_check_marks T) hr (by decide) (by rfl) (L2N.takes_of rfl rfl rfl rfl) (pa_cons (pv 0) pa_nil)))
      (pss_cons (ps_ret (pe_k (ok_weighings_for T) hr (by decide) (by rfl) (pa_cons (pe_k (ok_cases_of T) hr (by decide) (by rfl) (pa_cons (pv 0) pa_nil)) pa_nil)))
      pss_nil)), go_dropX (ea_cons (ev_var rfl) ea_nil) (sx_marks_bad hb) q⟩
/-! ### check_weighing -/
def weighR (K : PySem.W.Frag) (c : Int) (l r : Option (List V)) : Res := if weighO c l r = true then .val .non else .exc (He.ga K "BadWeighing")
def spCheckWeighingX (K : PySem.W.Frag) : Sp := S3x fun a b d H Q E => ∃ (c : Int) (l r : Option (List V)), a = .int c ∧ Thing K H b l ∧ Thing K H d r ∧ ends (weighR K c l r) H Q E
theorem okx_check_weighing (T : Txt K mg) : Cal (CXn P w) P w K mg base 4 "check_weighing" (spCheckWeighingX K) :=
  calx_mk T.f_check_weighing T.g_check_weighing sc_check_weighing (fun _ _ _ _ _ _ us hl => match us, hl with | [_, _, _], _ => rfl) lenx3 fun cdv A outer s H vs Q E hr hsp => by
    obtain ⟨a, b, d, rfl, c, l, r, rfl, h1, h2, q⟩ := hsp
    refine ⟨_, (pss_cons (ps_if (pt_not (pt_val (pe_k (ok_is_weighing T) hr (by decide) (by rfl) (pa_cons (pv 0) (pa_cons (pv 1) (pa_cons (pv 2) pa_nil)))))) (pss_cons (L2N.ps_raise rfl (L2N.takes_of rfl rfl rfl rfl) (L2N.pmk_own PySem.F.excBase_ValueError (T.x_BadWeighing).1 T.g_BadWeighing (T.x_BadWeighing).2.1 (raises_own (T.x_BadWeighing).2.2.1 (T.x_BadWeighing).2.2.2) rfl))
      pss_nil) pss_nil)
      pss_nil), ?_⟩
    unfold weighR at q
    refine go_when (et_not (et_B (ev_call0 (ea_cons (ev_var rfl) (ea_cons (ev_var rfl) (ea_cons (ev_var rfl) ea_nil))) (sv_is_weighing h1 h2)))) (fun hb => ?_) (fun hb => ?_)
    · rw [Bool.not_eq_true'] at hb
      rw [if_neg (by rw [hb]; exact Bool.false_ne_true)] at q
      exact (show Go H (E (.ref (He.ga K "BadWeighing")) none) from q)
    · rw [Bool.not_eq_false'] at hb
      rw [if_pos hb] at q
      exact go_next q
theorem sx_weigh_bad {H : Hp} {c : Int} {b d : V} {l r : Option (List V)} (h1 : Thing K H b l) (h2 : Thing K H d r) (h : weighO c l r = false) : SpE (spCheckWeighingX K) [.int c, b, d] H (.exc (He.ga K "BadWeighing")) := fun H1 e Q E q =>
  ⟨_, _, _, rfl, c, l, r, rfl, h1.mono e, h2.mono e, by unfold weighR; rw [if_neg (by rw [h]; exact Bool.false_ne_true)]; exact q⟩
theorem sx_weigh_ok {H : Hp} {n : Nat} {b d : V} {l r : List Int} (h : WPair K H n b d l r) : SpE (spCheckWeighingX K) [.int (n : Nat), b, d] H (.val .non) := fun H1 e Q E q =>
  ⟨_, _, _, rfl, (n : Nat), some (l.map V.int), some (r.map V.int), rfl, h.things.1.mono e, h.things.2.mono e, by unfold weighR; rw [weighO_ints, if_pos h.2.2.1]; exact q⟩
/-! ### behind, judged -/
/-- no outcome -/
def BadO (K : PySem.W.Frag) (v : V) (H : Hp) : Prop := (∃ t, TyX K H v t ∧ PySem.W.kitOne K t (.type "str") = some false) ∨ ∃ o, v = .str (S o) ∧ o ∉ outs
theorem badO_mono : Mono (BadO K) := fun v H H1 e h => by
  rcases h with ⟨t, h1, h2⟩ | h
  · exact .inl ⟨t, tyx_mono e h1, h2⟩
  · exact .inr h
theorem inV_notouts {o : List Nat} (h : o ∉ outs) : inV (.str (S o)) (outs.map fun o => V.str (S o)) = false := by
  unfold inV
  rw [List.any_map, List.any_eq_false]
  intro x hx q
  have q2 : (S x == S o) = true := q
  have : S x = S o := by simpa using q2
  exact h (S_inj this ▸ hx)
def spBehindX (K : PySem.W.Frag) : Sp := S4x fun a b d e H Q E => (BadM K a H ∧ Go H (E (.ref (He.ga K "BadMarks")) none)) ∨ ∃ m : List Nat, a = .str (S m) ∧ marksB m = true ∧ m.length ≤ 10000 ∧
  ((∃ l r, Thing K H b l ∧ Thing K H d r ∧ weighO (m.length : Nat) l r = false ∧ Go H (E (.ref (He.ga K "BadWeighing")) none)) ∨
   ∃ l r : List Int, WPair K H m.length b d l r ∧ ((BadO K e H ∧ Go H (E (.ref (He.ga K "BadOutcome")) none)) ∨ ∃ o : List Nat, e = .str (S o) ∧ o ∈ outs ∧ manyN m l r o = 0 ∧ Go H (E (.ref (He.ga K "Never")) none)))
theorem okx_behind (T : Txt K mg) : Cal (CXn P w) P w K mg base 5 "behind" (spBehindX K) :=
  calx_mk T.f_behind T.g_behind sc_behind (fun _ _ _ _ _ _ us hl => match us, hl with | [_, _, _, _], _ => rfl) lenx4 fun cdv A outer s H vs Q E hr hsp => by
    obtain ⟨a, b, d, e, rfl, hsp⟩ := hsp
    refine ⟨_, (pss_cons (ps_expr (pe_kx (okx_check_marks T) hr (by decide) (by rfl) (L2N.takes_of rfl rfl rfl rfl) (pa_cons (pv 0) pa_nil)))
      (pss_cons (ps_expr (pe_kx (okx_check_weighing T) hr (by decide) (by rfl) (L2N.takes_of rfl rfl rfl rfl) (pa_cons (pe_callB call_lenT (by rfl) T.n_len (by decide +kernel) (pa_cons (pv 0) pa_nil)) (pa_cons (pv 1) (pa_cons (pv 2) pa_nil)))))
      (pss_cons (ps_if (PW.pt (pw_or (pt_not (pt_val (pe_callB (call_isiK2 K) (by rfl) T.n_isinstance (by decide +kernel) (pa_cons (pv 3) (pa_cons (pe_gTy (n := "str") T.n_str) pa_nil))))) (pw_or1 (pt_cmpR (op_notInK K) (pv 3) (pe_gR T.g_OUTCOMES) rfl)))) (pss_cons (L2N.ps_raise rfl (L2N.takes_of rfl rfl rfl rfl) (L2N.pmk_own PySem.F.excBase_ValueError (T.x_BadOutcome).1 T.g_BadOutcome (T.x_BadOutcome).2.1 (raises_own (T.x_BadOutcome).2.2.1 (T.x_BadOutcome).2.2.2) rfl))
      pss_nil) pss_nil)
      (pss_cons (ps_if (pt_cmpR op_eqI (pe_k (ok_many_behind T) hr (by decide) (by rfl) (pa_cons (pv 0) (pa_cons (pv 1) (pa_cons (pv 2) (pa_cons (pv 3) pa_nil))))) pe_int (nomark _)) (pss_cons (L2N.ps_raise rfl (L2N.takes_of rfl rfl rfl rfl) (L2N.pmk_own PySem.F.excBase_ValueError (T.x_Never).1 T.g_Never (T.x_Never).2.1 (raises_own (T.x_Never).2.2.1 (T.x_Never).2.2.2) rfl))
      pss_nil) pss_nil)
      (pss_cons (ps_ret (pe_k (ok_behind_of T) hr (by decide) (by rfl) (pa_cons (pv 0) (pa_cons (pv 1) (pa_cons (pv 2) (pa_cons (pv 3) pa_nil))))))
      pss_nil))))), ?_⟩
    rcases hsp with ⟨hb, q⟩ | ⟨m, rfl, hm, hl, hsp⟩
    · exact go_dropX (ea_cons (ev_var rfl) ea_nil) (sx_marks_bad hb) q
    · refine go_dropX (r := .val .non) (ea_cons (ev_var rfl) ea_nil) (sx_marks_ok hm hl) ?_
      rcases hsp with ⟨l, r, h1, h2, h3, q⟩ | ⟨l, r, hw, hsp⟩
      · exact go_dropX (ea_cons (ev_lenT (ev_var rfl) (by omega)) (ea_cons (ev_var rfl) (ea_cons (ev_var rfl) ea_nil))) (sx_weigh_bad h1 h2 h3) q
      · refine go_dropX (r := .val .non) (ea_cons (ev_lenT (ev_var rfl) (by omega)) (ea_cons (ev_var rfl) (ea_cons (ev_var rfl) ea_nil))) (sx_weigh_ok hw) ?_
        rcases hsp with ⟨hb, q⟩ | ⟨o, rfl, ho, hz, q⟩
        · rcases hb with ⟨t, h1, h2⟩ | ⟨o, rfl, ho⟩
          · exact go_when (b := true) (et_or (b := true) (et_not (et_B (ev_isT (ev_var rfl) ev_c (.ty _) h1 h2))) fun h => by cases h) (fun _ => (show Go H (E (.ref (He.ga K "BadOutcome")) none) from q)) (fun h => by cases h)
          · refine go_when (b := true) (et_is (et_or (et_not (et_B (ev_isT (ev_var rfl) ev_c (.ty _) (.base (.str _)) (kit_ty (r := true) (by decide +kernel))))) fun _ => et_test (ev_in (neg := true) (ev_var rfl) ev_c (outs_at T H) rfl (by rfl))) ?_) (fun _ => (show Go H (E (.ref (He.ga K "BadOutcome")) none) from q)) (fun h => by cases h)
            rw [if_pos rfl, inV_notouts ho] <;> rfl
        · refine go_when (b := false) (et_is (et_or (et_not (et_B (ev_isT (ev_var rfl) ev_c (.ty _) (.base (.str _)) (kit_ty (r := true) (by decide +kernel))))) fun _ => et_test (ev_in (neg := true) (ev_var rfl) ev_c (outs_at T H) rfl (by rfl))) ?_) (fun hb => by cases hb) (fun _ => ?_)
          · rw [if_pos rfl, inV_outs ho] <;> rfl
          · exact go_when (b := true) (et_is (et_test (ev_eqI (ev_call0 (ea_cons (ev_var rfl) (ea_cons (ev_var rfl) (ea_cons (ev_var rfl) (ea_cons (ev_var rfl) ea_nil)))) (sv_many_behind hw.pair hl)) ev_c)) (decide_eq_true (by rw [hz] <;> rfl))) (fun _ => (show Go H (E (.ref (He.ga K "Never")) none) from q)) (fun h => by cases h)
theorem sx_behind_marks {H : Hp} {a b d e : V} (h : BadM K a H) : SpE (spBehindX K) [a, b, d, e] H (.exc (He.ga K "BadMarks")) := fun H1 e1 Q E q => ⟨a, b, d, e, rfl, .inl ⟨badM_mono _ _ _ e1 h, q⟩⟩
theorem sx_behind_weigh {H : Hp} {m : List Nat} {b d e : V} {l r : Option (List V)} (hm : marksB m = true) (hl : m.length ≤ 10000) (h1 : Thing K H b l) (h2 : Thing K H d r) (h3 : weighO (m.length : Nat) l r = false) : SpE (spBehindX K) [.str (S m), b, d, e] H (.exc (He.ga K "BadWeighing")) := fun H1 e1 Q E q =>
  ⟨_, b, d, e, rfl, .inr ⟨m, rfl, hm, hl, .inl ⟨l, r, h1.mono e1, h2.mono e1, h3, q⟩⟩⟩
theorem sx_behind_out {H : Hp} {m : List Nat} {b d e : V} {l r : List Int} (hm : marksB m = true) (hl : m.length ≤ 10000) (hw : WPair K H m.length b d l r) (h : BadO K e H) : SpE (spBehindX K) [.str (S m), b, d, e] H (.exc (He.ga K "BadOutcome")) := fun H1 e1 Q E q =>
  ⟨_, b, d, e, rfl, .inr ⟨m, rfl, hm, hl, .inr ⟨l, r, hw.mono e1, .inl ⟨badO_mono _ _ _ e1 h, q⟩⟩⟩⟩
theorem sx_behind_never {H : Hp} {m : List Nat} {b d : V} {l r : List Int} {o : List Nat} (hm : marksB m = true) (hl : m.length ≤ 10000) (hw : WPair K H m.length b d l r) (ho : o ∈ outs) (hz : manyN m l r o = 0) : SpE (spBehindX K) [.str (S m), b, d, .str (S o)] H (.exc (He.ga K "Never")) := fun H1 e1 Q E q =>
  ⟨_, b, d, _, rfl, .inr ⟨m, rfl, hm, hl, .inr ⟨l, r, hw.mono e1, .inr ⟨o, rfl, ho, hz, q⟩⟩⟩⟩
def spJudgedX (K : PySem.W.Frag) : Sp := S3x fun a b d H Q E => (BadM K a H ∧ Go H (E (.ref (He.ga K "BadMarks")) none)) ∨ ∃ (m : List Nat) (l r : Option (List V)), a = .str (S m) ∧ marksB m = true ∧ m.length ≤ 10000 ∧ Thing K H b l ∧ Thing K H d r ∧ weighO (m.length : Nat) l r = false ∧ Go H (E (.ref (He.ga K "BadWeighing")) none)
theorem okx_judged (T : Txt K mg) : Cal (CXn P w) P w K mg base 5 "judged" (spJudgedX K) :=
  calx_mk T.f_judged T.g_judged sc_judged (fun _ _ _ _ _ _ us hl => match us, hl with | [_, _, _], _ => rfl) lenx3 fun cdv A outer s H vs Q E hr hsp => by
    obtain ⟨a, b, d, rfl, hsp⟩ := hsp
    refine ⟨_, (pss_cons (ps_expr (pe_kx (okx_check_marks T) hr (by decide) (by rfl) (L2N.takes_of rfl rfl rfl rfl) (pa_cons (pv 0) pa_nil)))
      (pss_cons (ps_expr (pe_kx (okx_check_weighing T) hr (by decide) (by rfl) (L2N.takes_of rfl rfl rfl rfl) (pa_cons (pe_callB call_lenT (by rfl) T.n_len (by decide +kernel) (pa_cons (pv 0) pa_nil)) (pa_cons (pv 1) (pa_cons (pv 2) pa_nil)))))
      (pss_cons (ps_ret (pe_callTy call_tupOf (by rfl) T.n_tuple (by decide +kernel) (pa_cons (pe_lc (own := [("outcome", 3)]) rfl sc_judged.nd (pi_list (pe_gR T.g_OUTCOMES)) (blkOk_by (own := [("outcome", 3)]) (N := ["marks", "left", "right", "outcome"]) (sc := defScope s_judged) (by decide +kernel)) (fun _ _ _ _ _ => (pg_name (i := 3) sc_judged.nd rfl (Or.inl rfl))) (fun _ _ _ _ _ => pts_nil) (fun _ _ _ _ _ => (pe_k (ok_many_behind T) hr (by decide) (by rfl) (pa_cons (pv 0) (pa_cons (pv 1) (pa_cons (pv 2) (pa_cons (pv 3) pa_nil))))))) pa_nil)))
      pss_nil))), ?_⟩
    rcases hsp with ⟨hb, q⟩ | ⟨m, l, r, rfl, hm, hl, h1, h2, h3, q⟩
    · exact go_dropX (ea_cons (ev_var rfl) ea_nil) (sx_marks_bad hb) q
    · refine go_dropX (r := .val .non) (ea_cons (ev_var rfl) ea_nil) (sx_marks_ok hm hl) ?_
      exact go_dropX (ea_cons (ev_lenT (ev_var rfl) (by omega)) (ea_cons (ev_var rfl) (ea_cons (ev_var rfl) ea_nil))) (sx_weigh_bad h1 h2 h3) q
theorem sx_judged_marks {H : Hp} {a b d : V} (h : BadM K a H) : SpE (spJudgedX K) [a, b, d] H (.exc (He.ga K "BadMarks")) := fun H1 e1 Q E q => ⟨a, b, d, rfl, .inl ⟨badM_mono _ _ _ e1 h, q⟩⟩
theorem sx_judged_weigh {H : Hp} {m : List Nat} {b d : V} {l r : Option (List V)} (hm : marksB m = true) (hl : m.length ≤ 10000) (h1 : Thing K H b l) (h2 : Thing K H d r) (h3 : weighO (m.length : Nat) l r = false) : SpE (spJudgedX K) [.str (S m), b, d] H (.exc (He.ga K "BadWeighing")) := fun H1 e1 Q E q =>
  ⟨_, b, d, rfl, .inr ⟨m, l, r, rfl, hm, hl, h1.mono e1, h2.mono e1, h3, q⟩⟩
end Od

namespace Od
open PySem PySem.Spec PyProof.Rows L2 SX Evl
variable {P : Program} {w : World} {K : PySem.W.Frag} {mg : Str → Option Value} {base : Heap}
/-! ### power -/
def spPower : Sp := S1 fun a H Q => ∃ n : Nat, a = .int (n : Nat) ∧ n ≤ 1000 ∧ Go H (Q (.int ((3 ^ n : Nat) : Nat)))
theorem ok_power (T : Txt K mg) : Cal CX0 P w K mg base 1 "power" spPower :=
  cal_mk T.f_power T.g_power sc_power (fun _ _ _ _ _ _ us hl => match us, hl with | [_], _ => rfl) len1 fun cdv A outer s H vs Q E hr hsp => by
    obtain ⟨a, rfl, n, rfl, hn, q⟩ := hsp
    refine ⟨_, (pss_cons (ps_set (i := 1) sc_power.nd rfl (Or.inl rfl) pe_int)
      (pss_cons (ps_for PassesOwn.never rfl (pi_range1 (by rfl) T.n_range (pa_cons (pv 0) pa_nil)) (pg_name (i := 2) sc_power.nd rfl (Or.inl rfl)) (pss_cons (ps_aug (i := 1) sc_power.nd rfl (Or.inl rfl) pe_int iop_mul)
      pss_nil))
      (pss_cons (ps_ret (pv 1))
      pss_nil))), ?_⟩
    refine go_asg ev_c ?_
    refine go_forR (fun i σ Hk => (∃ z, σ = [some (.int (n : Nat)), some (.int ((3 ^ i : Nat) : Nat)), z]) ∧ Hk = H) (ea_cons (ev_var rfl) ea_nil) (by omega) ⟨⟨_, rfl⟩, rfl⟩ ?_ ?_
    · rintro i σ Hk hi ⟨⟨z, rfl⟩, rfl⟩
      refine go_augM rfl ev_c (.inr ⟨by decide, by decide⟩) (go_up rfl ?_)
      refine ⟨⟨some (.int (i : Nat)), ?_⟩, rfl⟩
      have e : (((3 ^ i : Nat) : Nat) : Int) * 3 = ((3 ^ (i + 1) : Nat) : Int) := by
        rw [Nat.pow_succ]
        omega
      show [some (V.int (n : Nat)), some (V.int ((((3 ^ i : Nat) : Nat) : Int) * 3)), some (V.int (i : Nat))] = _
      rw [e]
    · rintro σ Hk ⟨⟨z, rfl⟩, rfl⟩
      exact go_ret (ev_var rfl) q
theorem sv_power {H : Hp} {n : Nat} (hn : n ≤ 1000) : SpV spPower [.int (n : Nat)] H (.int ((3 ^ n : Nat) : Nat)) := sv1 fun H1 e Q q => ⟨n, rfl, hn, q⟩
end Od

namespace Od
open PySem PySem.Spec PyProof.Rows L2 SX Evl
variable {P : Program} {w : World} {K : PySem.W.Frag} {mg : Str → Option Value} {base : Heap}
/-! ### the classes -/
def spInit1 (C : Addr) : Sp := S2 fun a b H Q => ∃ p dx, a = .ref p ∧ H p = some (.ins C dx []) ∧ Go (upd H p (.ins C dx [("coin", b)])) (Q .non)
theorem ok_Heavy_init (T : Txt K mg) : MakX P w K mg base 1 "Heavy" (He.ga K "Heavy") (spInit1 (He.ga K "Heavy")) :=
  mak_mk T.f_Heavy_init T.k_Heavy T.g_Heavy sc_Heavy_init (fun _ _ _ _ _ _ us hl => match us, hl with | [_, _], _ => rfl) len2 fun cdv A outer s H vs Q E hr hsp => by
    obtain ⟨a, b, rfl, p, dx, rfl, hp, q⟩ := hsp
    exact ⟨_, (pss_cons (ps_fld (pv 0) (pv 1) rfl)
      pss_nil), go_fld (ev_var rfl) (ev_var rfl) hp T.cl_Heavy T.na_Heavy_coin (by decide) q⟩
theorem ok_Light_init (T : Txt K mg) : MakX P w K mg base 1 "Light" (He.ga K "Light") (spInit1 (He.ga K "Light")) :=
  mak_mk T.f_Light_init T.k_Light T.g_Light sc_Light_init (fun _ _ _ _ _ _ us hl => match us, hl with | [_, _], _ => rfl) len2 fun cdv A outer s H vs Q E hr hsp => by
    obtain ⟨a, b, rfl, p, dx, rfl, hp, q⟩ := hsp
    exact ⟨_, (pss_cons (ps_fld (pv 0) (pv 1) rfl)
      pss_nil), go_fld (ev_var rfl) (ev_var rfl) hp T.cl_Light T.na_Light_coin (by decide) q⟩
def spInit3 (K : PySem.W.Frag) (C : Addr) : Sp := S4 fun a b d e H Q => ∃ p dx p1 p2 xs ys, a = .ref p ∧ b = .ref p1 ∧ d = .ref p2 ∧ H p = some (.ins C dx []) ∧ SqL K H p1 xs ∧ SqL K H p2 ys ∧
  ∀ H2 l r, H l = none → H r = none → l ≠ r → (∀ x o, x ≠ p → H x = some o → H2 x = some o) → H2 l = some (.lst xs) → H2 r = some (.lst ys) → H2 p = some (.ins C dx [("left", .ref l), ("right", .ref r), ("many", e)]) → Q .non H2
theorem ok_Open_init (T : Txt K mg) : MakX P w K mg base 1 "Open" (He.ga K "Open") (spInit3 K (He.ga K "Open")) :=
  mak_mk T.f_Open_init T.k_Open T.g_Open sc_Open_init (fun _ _ _ _ _ _ us hl => match us, hl with | [_, _, _, _], _ => rfl) len4 fun cdv A outer s H vs Q E hr hsp => by
    obtain ⟨a, b, d, e, rfl, p, dx, p1, p2, xs, ys, rfl, rfl, rfl, hp, h1, h2, q⟩ := hsp
    refine ⟨_, (pss_cons (ps_fld (pv 0) (pe_callTy call_listOf (by rfl) T.n_list (by decide +kernel) (pa_cons (pv 1) pa_nil)) rfl)
      (pss_cons (ps_fld (pv 0) (pe_callTy call_listOf (by rfl) T.n_list (by decide +kernel) (pa_cons (pv 2) pa_nil)) rfl)
      (pss_cons (ps_fld (pv 0) (pv 3) rfl)
      pss_nil))), ?_⟩
    refine go_fldL (el_listOf (ev_var rfl) h1) (ev_var rfl) hp T.cl_Open T.na_Open_left (by decide) fun l hl => ?_
    have pl : p ≠ l := ne_of_none hp hl
    -- the second list's source stands
    have keep : ∀ (H3 : Hp) (f3 : List (Str × V)), SqL K H p2 ys → SqL K (upd (upd H l (.lst xs)) p (.ins (He.ga K "Open") dx f3)) p2 ys := fun _ f3 h => by
      have e1 : Ex H (upd H l (.lst xs)) := Ex.new hl
      rcases h with (h | ⟨o, h⟩) | h
      · have np : p2 ≠ p := ne_of h hp (by intro z; cases z)
        exact .inl (.inl (by rw [upd_ne np]; exact e1 _ _ h))
      · have np : p2 ≠ p := ne_of h hp (by intro z; cases z)
        exact .inl (.inr ⟨o, by rw [upd_ne np]; exact e1 _ _ h⟩)
      · exact .inr h
    refine go_fldL (el_listOf (ev_var rfl) (keep H _ h2)) (ev_var rfl) upd_same T.cl_Open T.na_Open_right (by show 1 < 1000; decide) fun r hR => ?_
    have rp : r ≠ p := fun z => by
      subst z
      rw [upd_same] at hR
      cases hR
    have rl : r ≠ l := fun z => by
      subst z
      rw [upd_ne rp, upd_same] at hR
      cases hR
    have r0 : H r = none := by
      rw [upd_ne rp, upd_ne rl] at hR
      exact hR
    rw [show putF "left" (.ref l) [] = ([("left", V.ref l)] : List (Str × V)) from rfl, fs_right]
    refine go_fld (ev_var rfl) (ev_var rfl) upd_same T.cl_Open T.na_Open_many (by show 2 < 1000; decide) (go_next ?_)
    rw [fs_many]
    intro H2 e2
    have at_ : ∀ x o, x ≠ p → (upd (upd H l (.lst xs)) r (.lst ys)) x = some o → H2 x = some o := fun x o hx h => by
      refine e2 x o ?_
      rw [upd_ne hx]
      by_cases hr2 : x = r
      · subst hr2
        rw [upd_ne hx, upd_same]
        rw [upd_same] at h
        exact h
      · rw [upd_ne hx, upd_ne hr2, upd_ne hx]
        rw [upd_ne hr2] at h
        exact h
    refine q H2 l r hl r0 rl.symm (fun x o hx h => at_ x o hx ?_) (at_ l _ pl.symm ?_) (at_ r _ rp upd_same) (e2 p _ ?_)
    · have xl : x ≠ l := ne_of_none h hl
      have xr : x ≠ r := ne_of_none h r0
      rw [upd_ne xr, upd_ne xl]
      exact h
    · rw [upd_ne rl.symm, upd_same]
    · exact upd_same
/-! what a class's call gives -/
section
variable {σ : L2.St} {H : Hp} {ta tb tc : TE} {tr : TA}
theorem er_make1 {C : Addr} {E : XK} {v : V} {i : Int} (h : Ev ta σ H (.int i)) (hv : v = .int i) : EvR (tMake C (spInit1 C) [] E (tCons ta tNil)) σ H (fun x H2 => ∃ p dx, x = .ref p ∧ H p = none ∧ H2 p = some (.ins C dx [("coin", .int i)])) := fun H1 e Q q =>
  h H1 e _ fun H2 e2 => fun x dx hx hd hne => ⟨.ref x, .int i, rfl, x, dx, rfl, upd_same, fun H3 e3 => by
    have e4 : Ex H2 H3 := fun b o hb => e3 b o (by rw [upd_ne (ne_of_none hb hx), upd_ne (ne_of_none hb hx), upd_ne (ne_of_none hb hd)]; exact hb)
    exact ⟨rfl, q _ H3 (e2.trans e4) ⟨x, dx, rfl, fresh_back (e.trans e2) hx, e3 x _ upd_same⟩⟩⟩
theorem er_make3 {C : Addr} {E : XK} {p1 p2 : Addr} {xs ys : List V} {n : Int} (h1 : Ev ta σ H (.ref p1)) (h2 : Ev tb σ H (.ref p2)) (h3 : Ev tc σ H (.int n)) (s1 : SqL K H p1 xs) (s2 : SqL K H p2 ys) :
    EvR (tMake C (spInit3 K C) [] E (tCons ta (tCons tb (tCons tc tNil)))) σ H (fun x H2 => ∃ p dx l r, x = .ref p ∧ H p = none ∧ H l = none ∧ H r = none ∧ l ≠ r ∧ H2 p = some (.ins C dx [("left", .ref l), ("right", .ref r), ("many", .int n)]) ∧ H2 l = some (.lst xs) ∧ H2 r = some (.lst ys)) := fun H1 e Q q =>
  h1 H1 e _ fun H2 e2 => h2 H2 (e.trans e2) _ fun H3 e3 => h3 H3 ((e.trans e2).trans e3) _ fun H4 e4 => by
    have ee : Ex H H4 := ((e.trans e2).trans e3).trans e4
    have e14 : Ex H1 H4 := (e2.trans e3).trans e4
    intro x dx hx hd hne
    have ex1 : Ex H4 (upd (upd H4 dx (.own x)) x (.ins C dx [])) := fun b o hb => by
      rw [upd_ne (ne_of_none hb hx), upd_ne (ne_of_none hb hd)]
      exact hb
    refine ⟨.ref x, .ref p1, .ref p2, .int n, rfl, x, dx, p1, p2, xs, ys, rfl, rfl, rfl, upd_same, ex_l ex1 (ex_l ee s1), ex_l ex1 (ex_l ee s2), fun H5 l r hl hR hlr keep k1 k2 k3 => ⟨rfl, ?_⟩⟩
    have l4 : H4 l = none := fresh_back ex1 hl
    have r4 : H4 r = none := fresh_back ex1 hR
    refine q _ H5 (e14.trans fun b o hb => keep b o (ne_of_none hb hx) (ex1 b o hb)) ⟨x, dx, l, r, rfl, fresh_back ee hx, fresh_back ee l4, fresh_back ee r4, hlr, k3, k1, k2⟩
theorem er_make0 {C : Addr} : EvR (tMake0 C) σ H (fun x H2 => ∃ p dx, x = .ref p ∧ H p = none ∧ H2 p = some (.ins C dx [])) := fun H1 e Q q x dx hx hd hne =>
  q _ _ (fun b o hb => by rw [upd_ne (ne_of_none hb hx), upd_ne (ne_of_none hb hd)]; exact hb) ⟨x, dx, rfl, fresh_back e hx, upd_same⟩
end
end Od

namespace Od
open PySem PySem.Spec PyProof.Rows L2 SX Evl
variable {P : Program} {w : World} {K : PySem.W.Frag} {mg : Str → Option Value} {base : Heap}
/-! ### of_either, of_tilted -/
/-- a pair of lists of ints -/
def PairT (H : Hp) (v : V) (q : List Int × List Int) : Prop := ∃ p pl pr, v = .ref p ∧ H p = some (.tup [.ref pl, .ref pr]) ∧ H pl = some (.lst (q.1.map V.int)) ∧ H pr = some (.lst (q.2.map V.int))
def SpR (sp : Sp) (vs : List V) (H : Hp) (R : V → Hp → Prop) : Prop := ∀ H1, Ex H H1 → ∀ Q : VK, (∀ v H2, Ex H1 H2 → R v H2 → Q v H2) → ∀ E, sp vs H1 Q E
theorem er_call {σ : L2.St} {H : Hp} {tr : TA} {vs : List V} {sp : Sp} {E : XK} {R : V → Hp → Prop} (h : EvA tr σ H vs) (hs : SpR sp (vs ++ []) H R) : EvR (tCall sp [] E tr) σ H R := fun H1 e Q q =>
  h H1 e _ fun H2 e2 => hs H2 (e.trans e2) Q (fun v H3 e3 r => q v H3 (e2.trans e3) r) E
def spOfEither (K : PySem.W.Frag) : Sp := S3 fun a b c H Q => ∃ (co : List Int) (bs : Int) (out : Nat) (pa : Addr), a = .ref pa ∧ SqL K H pa (co.map V.int) ∧ b = .int bs ∧ c = .int (out : Nat) ∧ co.length ≤ 10000 ∧ ∀ v H2, Ex H H2 → PairT H2 v (eitherL co bs out) → Q v H2
theorem map_take (co : List Int) (k : Nat) : (co.map V.int).take k = (co.take k).map V.int := List.map_take.symm
theorem map_drop (co : List Int) (k : Nat) : (co.map V.int).drop k = (co.drop k).map V.int := List.map_drop.symm
theorem el_slSpan {σ : L2.St} {H : Hp} {te : TE} {tl th : TO} {p : Addr} {xs : List Int} {a b : Nat} {j : Int} (h : Ev te σ H (.ref p)) (h1 : EvO tl σ H (some ((a : Nat) : Int))) (h2 : EvO th σ H (some j)) (hs : SqL K H p (xs.map V.int)) (hj : j = (a : Int) + (b : Int)) : EvL (tSl (rSlL K) te tl th) σ H (((xs.drop a).take b).map V.int) := by
  have z := el_slBoth h h1 h2 hs (by omega) (by omega)
  have e1 : ((a : Nat) : Int).toNat = a := by omega
  have e2 : (j - ((a : Nat) : Int)).toNat = b := by omega
  rw [e1, e2, map_drop, map_take] at z
  exact z
theorem ok_of_either (T : Txt K mg) : Cal CX0 P w K mg base 1 "of_either" (spOfEither K) :=
  cal_mk T.f_of_either T.g_of_either sc_of_either (fun _ _ _ _ _ _ us hl => match us, hl with | [_, _, _], _ => rfl) len3 fun cdv A outer s H vs Q E hr hsp => by
    obtain ⟨a, b, c, rfl, co, bs, out, pa, rfl, hp, rfl, rfl, hl, q⟩ := hsp
    refine ⟨_, (pss_cons (ps_set (i := 3) sc_of_either.nd rfl (Or.inl rfl) (pe_callB (call_maxI rfl) (by rfl) T.n_max (by decide +kernel) (pa_cons pe_int (pa_cons (pe_op op_divI (pe_op op_subI (pe_op op_addI (pe_op op_mulI pe_int (pe_callB (call_lenQK K) (by rfl) T.n_len (by decide +kernel) (pa_cons (pv 0) pa_nil))) pe_int) (pv 2)) pe_int) pa_nil))))
      (pss_cons (ps_set (i := 4) sc_of_either.nd rfl (Or.inl rfl) (pe_op op_divI (pe_op op_addI (pv 3) pe_int) pe_int))
      (pss_cons (ps_par (by rfl) sc_of_either.nd (i := 5) (j := 6) rfl rfl (by decide) rfl rfl (pa_cons (pe_slice (sl_listK K) (pv 0) po_none (po_some (pv 4))) (pa_cons (pe_slice (sl_listK K) (pv 0) (po_some (pv 4)) (po_some (pv 3))) pa_nil)) (by rfl))
      (pss_cons (ps_if (pt_cmpR op_ltI (pe_callB (call_lenQK K) (by rfl) T.n_len (by decide +kernel) (pa_cons (pv 6) pa_nil)) (pe_callB (call_lenQK K) (by rfl) T.n_len (by decide +kernel) (pa_cons (pv 5) pa_nil)) (nomark _)) (pss_cons (ps_set (i := 6) sc_of_either.nd rfl (Or.inl rfl) (pe_op op_cat (pv 6) (pe_lst (pa_cons (pv 1) pa_nil))))
      pss_nil) pss_nil)
      (pss_cons (ps_ret (pe_tup (pa_cons (pv 5) (pa_cons (pv 6) pa_nil))))
      pss_nil))))), ?_⟩
    have ln : (co.map V.int).length = co.length := List.length_map _
    refine go_asg (ev_max ev_c (ev_divI (ev_subI (ev_addI (ev_mulI ev_c (ev_lenQ (ev_var rfl) hp) (cmul_l (by decide) (by decide))) ev_c) (ev_var rfl)) ev_c ⟨by decide, by decide⟩)) ?_
    have e1 : max (0 : Int) ((2 * (((co.map V.int).length : Nat) : Int) + 2 - ((out : Nat) : Int)) / 2) = (((2 * co.length + 2 - out) / 2 : Nat) : Int) := by
      rw [ln]
      omega
    rw [e1]
    unfold eitherL at q
    dsimp only at q
    generalize (2 * co.length + 2 - out) / 2 = many at *
    refine go_asg (ev_divI (ev_addI (ev_var rfl) ev_c) ev_c ⟨by decide, by decide⟩) ?_
    have e2 : (((many : Nat) : Int) + 1) / 2 = (((many + 1) / 2 : Nat) : Int) := by omega
    rw [e2]
    have hh : (many + 1) / 2 ≤ many := by omega
    generalize (many + 1) / 2 = half at *
    refine go_parLL (el_slTo (ev_var rfl) (eo_some (ev_var rfl)) hp (by omega)) (el_slBoth (ev_var rfl) (eo_some (ev_var rfl)) (eo_some (ev_var rfl)) hp (by omega) (by omega)) fun pl pr hpl hpr hne => ?_
    have e3 : (((half : Nat) : Int)).toNat = half := by omega
    have e4 : ((((many : Nat) : Int)) - ((half : Nat) : Int)).toNat = many - half := by omega
    rw [e3, e4, map_take, map_drop, map_take]
    have l1 : (upd (upd H pl (.lst ((co.take half).map V.int))) pr (.lst (((co.drop half).take (many - half)).map V.int))) pl = some (.lst ((co.take half).map V.int)) := by rw [upd_ne hne, upd_same]
    have ex0 : Ex H (upd (upd H pl (.lst ((co.take half).map V.int))) pr (.lst (((co.drop half).take (many - half)).map V.int))) := (Ex.new hpl).trans (Ex.new (by rw [upd_ne (Ne.symm hne)]; exact hpr))
    have lens : ((co.drop half).take (many - half)).length ≤ 10000 := by rw [List.length_take, List.length_drop]; omega
    refine go_when (et_test (ev_ltI (ev_lenQ (ev_var rfl) (sq_of upd_same)) (ev_lenQ (ev_var rfl) (sq_of l1)))) (fun hb => ?_) (fun hb => ?_)
    · rw [List.length_map, List.length_map] at hb
      have hb2 : ((co.drop half).take (many - half)).length < (co.take half).length := by
        have := of_decide_eq_true hb
        omega
      rw [if_pos hb2] at q
      refine go_asgL (el_catN (ev_var rfl) (el_lst (ea_cons (ev_var rfl) ea_nil) (by simp)) upd_same (by rw [List.length_map]; show _ + 1 ≤ _; omega)) fun pz hpz => go_next ?_
      have exz := Ex.new (o := HO.lst ((((co.drop half).take (many - half)).map V.int) ++ [V.int bs])) hpz
      refine go_retU (eu_tup (ea_cons (ev_var rfl) (ea_cons (ev_var rfl) ea_nil)) (by simp)) fun p hp2 H2 e => ?_
      refine q (.ref p) H2 (((ex0.trans exz).trans (Ex.new hp2)).trans e) ⟨p, pl, pz, rfl, e _ _ upd_same, e _ _ (Ex.new hp2 _ _ (exz _ _ l1)), e _ _ (Ex.new hp2 _ _ ?_)⟩
      rw [upd_same, List.map_append] <;> rfl
    · rw [List.length_map, List.length_map] at hb
      have hb2 : ¬ ((co.drop half).take (many - half)).length < (co.take half).length := by
        have := of_decide_eq_false hb
        omega
      rw [if_neg hb2] at q
      refine go_retU (eu_tup (ea_cons (ev_var rfl) (ea_cons (ev_var rfl) ea_nil)) (by simp)) fun p hp2 H2 e => ?_
      exact q (.ref p) H2 ((ex0.trans (Ex.new hp2)).trans e) ⟨p, pl, pr, rfl, e _ _ upd_same, e _ _ (Ex.new hp2 _ _ l1), e _ _ (Ex.new hp2 _ _ upd_same)⟩
theorem sr_of_either {H : Hp} {co : List Int} {bs : Int} {out : Nat} {pa : Addr} (h : SqL K H pa (co.map V.int)) (hl : co.length ≤ 10000) : SpR (spOfEither K) [.ref pa, .int bs, .int (out : Nat)] H fun v H2 => PairT H2 v (eitherL co bs out) := fun H1 e Q q E =>
  ⟨_, _, _, rfl, co, bs, out, pa, rfl, ex_l e h, rfl, rfl, hl, q⟩
def spOfTilted (K : PySem.W.Frag) : Sp := S4 fun a b c d H Q => ∃ (h l : List Int) (bs : Int) (out : Nat) (pa pb : Addr), a = .ref pa ∧ SqL K H pa (h.map V.int) ∧ b = .ref pb ∧ SqL K H pb (l.map V.int) ∧ c = .int bs ∧ d = .int (out : Nat) ∧ h.length ≤ 10000 ∧ l.length ≤ 10000 ∧ ∀ v H2, Ex H H2 → PairT H2 v (tiltedL h l bs out) → Q v H2
theorem ok_of_tilted (T : Txt K mg) : Cal CX0 P w K mg base 1 "of_tilted" (spOfTilted K) :=
  cal_mk T.f_of_tilted T.g_of_tilted sc_of_tilted (fun _ _ _ _ _ _ us hl => match us, hl with | [_, _, _, _], _ => rfl) len4 fun cdv A outer s H vs Q E hr hsp => by
    obtain ⟨a, b, c, d, rfl, h, l, bs, out, pa, pb, rfl, ha, rfl, hb, rfl, rfl, hl1, hl2, q⟩ := hsp
    refine ⟨_, (pss_cons (ps_set (i := 4) sc_of_tilted.nd rfl (Or.inl rfl) (pe_callB (call_maxI rfl) (by rfl) T.n_max (by decide +kernel) (pa_cons pe_int (pa_cons (pe_op op_divI (pe_op op_subI (pe_op op_addI (pe_op op_addI (pe_callB (call_lenQK K) (by rfl) T.n_len (by decide +kernel) (pa_cons (pv 0) pa_nil)) (pe_callB (call_lenQK K) (by rfl) T.n_len (by decide +kernel) (pa_cons (pv 1) pa_nil))) pe_int) (pv 3)) pe_int) pa_nil))))
      (pss_cons (ps_set (i := 5) sc_of_tilted.nd rfl (Or.inl rfl) (pe_callB (call_minI rfl) (by rfl) T.n_min (by decide +kernel) (pa_cons (pv 4) (pa_cons (pe_op op_divI (pe_callB (call_lenQK K) (by rfl) T.n_len (by decide +kernel) (pa_cons (pv 0) pa_nil)) pe_int) pa_nil))))
      (pss_cons (ps_set (i := 6) sc_of_tilted.nd rfl (Or.inl rfl) (pe_callB (call_minI rfl) (by rfl) T.n_min (by decide +kernel) (pa_cons (pe_op op_subI (pv 4) (pv 5)) (pa_cons (pe_op op_divI (pe_callB (call_lenQK K) (by rfl) T.n_len (by decide +kernel) (pa_cons (pv 1) pa_nil)) pe_int) pa_nil))))
      (pss_cons (ps_if (pt_cmpR op_ltI (pe_op op_addI (pv 5) (pv 6)) (pv 4) (nomark _)) (pss_cons (ps_ret (pe_tup (pa_cons (pe_slice (sl_listK K) (pv 0) po_none (po_some pe_int)) (pa_cons (pe_lst (pa_cons (pv 2) pa_nil)) pa_nil))))
      pss_nil) pss_nil)
      (pss_cons (ps_set (i := 7) sc_of_tilted.nd rfl (Or.inl rfl) (pe_callB cr_sortedI (by rfl) T.n_sorted (by decide +kernel) (pa_cons (pe_op op_cat (pe_slice (sl_listK K) (pv 0) po_none (po_some (pv 5))) (pe_slice (sl_listK K) (pv 1) po_none (po_some (pv 6)))) pa_nil)))
      (pss_cons (ps_set (i := 8) sc_of_tilted.nd rfl (Or.inl rfl) (pe_callB cr_sortedI (by rfl) T.n_sorted (by decide +kernel) (pa_cons (pe_op op_cat (pe_slice (sl_listK K) (pv 0) (po_some (pv 5)) (po_some (pe_op op_mulI pe_int (pv 5)))) (pe_slice (sl_listK K) (pv 1) (po_some (pv 6)) (po_some (pe_op op_mulI pe_int (pv 6))))) pa_nil)))
      (pss_cons (ps_ret (pe_tup (pa_cons (pv 7) (pa_cons (pv 8) pa_nil))))
      pss_nil))))))), ?_⟩
    have lh : (h.map V.int).length = h.length := List.length_map _
    have ll : (l.map V.int).length = l.length := List.length_map _
    refine go_asg (ev_max ev_c (ev_divI (ev_subI (ev_addI (ev_addI (ev_lenQ (ev_var rfl) ha) (ev_lenQ (ev_var rfl) hb)) ev_c) (ev_var rfl)) ev_c ⟨by decide, by decide⟩)) ?_
    have e1 : max (0 : Int) (((((h.map V.int).length : Nat) : Int) + (((l.map V.int).length : Nat) : Int) + 1 - ((out : Nat) : Int)) / 2) = (((h.length + l.length + 1 - out) / 2 : Nat) : Int) := by
      rw [lh, ll]
      omega
    rw [e1]
    unfold tiltedL at q
    dsimp only at q
    generalize (h.length + l.length + 1 - out) / 2 = due at *
    refine go_asg (ev_min (ev_var rfl) (ev_divI (ev_lenQ (ev_var rfl) ha) ev_c ⟨by decide, by decide⟩)) ?_
    have e2 : min ((due : Nat) : Int) ((((h.map V.int).length : Nat) : Int) / 2) = ((min due (h.length / 2) : Nat) : Int) := by
      rw [lh]
      omega
    rw [e2]
    have hf : min due (h.length / 2) ≤ due := by omega
    generalize min due (h.length / 2) = first at *
    refine go_asg (ev_min (ev_subI (ev_var rfl) (ev_var rfl)) (ev_divI (ev_lenQ (ev_var rfl) hb) ev_c ⟨by decide, by decide⟩)) ?_
    have e3 : min (((due : Nat) : Int) - ((first : Nat) : Int)) ((((l.map V.int).length : Nat) : Int) / 2) = ((min (due - first) (l.length / 2) : Nat) : Int) := by
      rw [ll]
      omega
    rw [e3]
    generalize min (due - first) (l.length / 2) = second at *
    refine go_when (et_test (ev_ltI (ev_addI (ev_var rfl) (ev_var rfl)) (ev_var rfl))) (fun hc => ?_) (fun hc => ?_)
    · have hc2 : first + second < due := by
        have := of_decide_eq_true hc
        omega
      rw [if_pos hc2] at q
      intro H1 ex1
      -- the pair's two lists are new
      refine el_slTo (te := tVar 0) (ev_var rfl) (eo_some ev_c) ha (by decide) H1 ex1 _ fun pl H2 hpl ex2 h2 => ?_
      refine el_lst (ea_cons (ev_var rfl) ea_nil) (by simp) H2 (ex1.trans ex2) _ fun pr H3 hpr ex3 h3 => ?_
      refine ⟨sz_of (by simp), fun p hp2 => ?_⟩
      have e4 := Ex.new (o := HO.tup [V.ref pl, V.ref pr]) hp2
      refine q (.ref p) _ (((ex1.trans ex2).trans ex3).trans e4) ⟨p, pl, pr, rfl, upd_same, e4 _ _ (ex3 _ _ ?_), e4 _ _ h3⟩
      rw [h2, map_take] <;> rfl
    · have hc2 : ¬ first + second < due := by
        have := of_decide_eq_false hc
        omega
      rw [if_neg hc2] at q
      have t1 : (((first : Nat) : Int)).toNat = first := by omega
      have t2 : (((second : Nat) : Int)).toNat = second := by omega
      have t3 : (2 * ((first : Nat) : Int) - ((first : Nat) : Int)).toNat = first := by omega
      have t4 : (2 * ((second : Nat) : Int) - ((second : Nat) : Int)).toNat = second := by omega
      have lk : ∀ (x : List Int) (k : Nat), (x.take k).length ≤ x.length := fun x k => by rw [List.length_take]; omega
      have ld : ∀ (x : List Int) (k : Nat), (x.drop k).length ≤ x.length := fun x k => by rw [List.length_drop]; omega
      refine go_asgL (xs := (srt (h.take first ++ l.take second)).map V.int) (el_sortedN ?_) fun pl hpl => ?_
      · rw [List.map_append, ← map_take, ← map_take, ← t1, ← t2]
        refine el_catNN (el_slTo (ev_var rfl) (eo_some (ev_var rfl)) ha (by omega)) (el_slTo (ev_var rfl) (eo_some (ev_var rfl)) hb (by omega)) ?_
        rw [map_take, map_take, List.length_map, List.length_map]
        have := lk h first; have := lk l second
        rw [t1, t2]
        omega
      · have x1 := Ex.new (o := HO.lst ((srt (h.take first ++ l.take second)).map V.int)) hpl
        refine go_asgL (xs := (srt ((h.drop first).take first ++ (l.drop second).take second)).map V.int) (el_sortedN ?_) fun pr hpr => ?_
        · rw [List.map_append]
          refine el_catNN (el_slSpan (ev_var rfl) (eo_some (ev_var rfl)) (eo_some (ev_mulI ev_c (ev_var rfl) (cmul_l (by decide) (by decide)))) (ex_l x1 ha) (by omega)) (el_slSpan (ev_var rfl) (eo_some (ev_var rfl)) (eo_some (ev_mulI ev_c (ev_var rfl) (cmul_l (by decide) (by decide)))) (ex_l x1 hb) (by omega)) ?_
          rw [List.length_map, List.length_map]
          have := lk (h.drop first) first; have := lk (l.drop second) second; have := ld h first; have := ld l second
          omega
        · have x2 := Ex.new (o := HO.lst ((srt ((h.drop first).take first ++ (l.drop second).take second)).map V.int)) hpr
          refine go_retU (eu_tup (ea_cons (ev_var rfl) (ea_cons (ev_var rfl) ea_nil)) (by simp)) fun p hp2 H2 e => ?_
          exact q (.ref p) H2 (((x1.trans x2).trans (Ex.new hp2)).trans e) ⟨p, pl, pr, rfl, e _ _ upd_same, e _ _ (Ex.new hp2 _ _ (x2 _ _ upd_same)), e _ _ (Ex.new hp2 _ _ upd_same)⟩
theorem sr_of_tilted {H : Hp} {h l : List Int} {bs : Int} {out : Nat} {pa pb : Addr} (ha : SqL K H pa (h.map V.int)) (hb : SqL K H pb (l.map V.int)) (hl1 : h.length ≤ 10000) (hl2 : l.length ≤ 10000) : SpR (spOfTilted K) [.ref pa, .ref pb, .int bs, .int (out : Nat)] H fun v H2 => PairT H2 v (tiltedL h l bs out) := fun H1 e Q q E =>
  ⟨_, _, _, _, rfl, h, l, bs, out, pa, pb, rfl, ex_l e ha, rfl, ex_l e hb, rfl, rfl, hl1, hl2, q⟩
end Od

namespace Od
open PySem PySem.Spec PyProof.Rows L2 SX Evl
variable {P : Program} {w : World} {K : PySem.W.Frag} {mg : Str → Option Value} {base : Heap}
/-! ### told, of no marks -/
theorem okx_told (T : Txt K mg) : Cal (CXn P w) P w K mg base 3 "told" (spBadM K) :=
  calx_mk T.f_told T.g_told sc_told (fun _ _ _ _ _ _ us hl => match us, hl with | [_], _ => rfl) lenx1 fun cdv A outer s H vs Q E hr hsp => by
    obtain ⟨a, rfl, hb, q⟩ := hsp
    exact ⟨_, (pss_cons (ps_expr (pe_kx (okx_check_marks T) hr (by decide) (by rfl) (L2N.takes_of rfl rfl rfl rfl) (pa_cons (pv 0) pa_nil)))
      (pss_cons (ps_set (i := 1) sc_told.nd rfl (Or.inl rfl) (pe_k (ok_cases_of T) hr (by decide) (by rfl) (pa_cons (pv 0) pa_nil)))
      (pss_cons (ps_setLc (i := 2) (own := [("coin", 3), ("sign", 4)]) (by rfl) sc_told.nd rfl rfl (sw_true rfl rfl rfl (by decide +kernel)) (pi_enumS (by rfl) T.n_enumerate (pa_cons (pv 0) pa_nil)) (blkOk_by (own := [("coin", 3), ("sign", 4)]) (N := ["marks", "whole", "heavy", "coin", "sign", "light", "many", "either", "left", "right"]) (sc := defScope s_told) (by decide +kernel)) (fun _ _ _ _ _ => (pg_tupK K 2 rfl (pgs_cons (pg_name (i := 3) sc_told.nd rfl (Or.inl rfl)) (pgs_cons (pg_name (i := 4) sc_told.nd rfl (Or.inl rfl)) pgs_nil)))) (fun _ _ _ _ _ => (pts_one (pt_cmpR op_eqT (pv 4) (pe_strS k_h) (nomark _)))) (fun _ _ _ _ _ => (pv 3)))
      (pss_cons (ps_setLc (i := 5) (own := [("coin", 3), ("sign", 4)]) (by rfl) sc_told.nd rfl rfl (sw_true rfl rfl rfl (by decide +kernel)) (pi_enumS (by rfl) T.n_enumerate (pa_cons (pv 0) pa_nil)) (blkOk_by (own := [("coin", 3), ("sign", 4)]) (N := ["marks", "whole", "heavy", "coin", "sign", "light", "many", "either", "left", "right"]) (sc := defScope s_told) (by decide +kernel)) (fun _ _ _ _ _ => (pg_tupK K 2 rfl (pgs_cons (pg_name (i := 3) sc_told.nd rfl (Or.inl rfl)) (pgs_cons (pg_name (i := 4) sc_told.nd rfl (Or.inl rfl)) pgs_nil)))) (fun _ _ _ _ _ => (pts_one (pt_cmpR op_eqT (pv 4) (pe_strS k_l) (nomark _)))) (fun _ _ _ _ _ => (pv 3)))
      (pss_cons (ps_if (pt_cmpR op_gtI (pv 1) pe_int (nomark _)) (pss_cons (ps_set (i := 6) sc_told.nd rfl (Or.inl rfl) (pe_k (ok_weighings_for T) hr (by decide) (by rfl) (pa_cons (pv 1) pa_nil)))
      (pss_cons (ps_if (pt_cmpR (op_eqDK K hr.units) (pe_op op_cat (pv 2) (pv 5)) (pe_lst pa_nil) (nomark _)) (pss_cons (ps_setLc (i := 7) (own := [("coin", 3), ("sign", 4)]) (by rfl) sc_told.nd rfl rfl (sw_true rfl rfl rfl (by decide +kernel)) (pi_enumS (by rfl) T.n_enumerate (pa_cons (pv 0) pa_nil)) (blkOk_by (own := [("coin", 3), ("sign", 4)]) (N := ["marks", "whole", "heavy", "coin", "sign", "light", "many", "either", "left", "right"]) (sc := defScope s_told) (by decide +kernel)) (fun _ _ _ _ _ => (pg_tupK K 2 rfl (pgs_cons (pg_name (i := 3) sc_told.nd rfl (Or.inl rfl)) (pgs_cons (pg_name (i := 4) sc_told.nd rfl (Or.inl rfl)) pgs_nil)))) (fun _ _ _ _ _ => (pts_one (pt_cmpR op_eqT (pv 4) (pe_strS k_e) (nomark _)))) (fun _ _ _ _ _ => (pv 3)))
      (pss_cons (ps_asg (pe_k (ok_of_either T) hr (by decide) (by rfl) (pa_cons (pv 7) (pa_cons (pe_callB call_lenT (by rfl) T.n_len (by decide +kernel) (pa_cons (pv 0) pa_nil)) (pa_cons (pe_k (ok_power T) hr (by decide) (by rfl) (pa_cons (pe_op op_subI (pv 6) pe_int) pa_nil)) pa_nil)))) (pg_tupK K 2 rfl (pgs_cons (pg_name (i := 8) sc_told.nd rfl (Or.inl rfl)) (pgs_cons (pg_name (i := 9) sc_told.nd rfl (Or.inl rfl)) pgs_nil))))
      pss_nil)) (pss_cons (ps_asg (pe_k (ok_of_tilted T) hr (by decide) (by rfl) (pa_cons (pv 2) (pa_cons (pv 5) (pa_cons (pe_callB call_lenT (by rfl) T.n_len (by decide +kernel) (pa_cons (pv 0) pa_nil)) (pa_cons (pe_k (ok_power T) hr (by decide) (by rfl) (pa_cons (pe_op op_subI (pv 6) pe_int) pa_nil)) pa_nil))))) (pg_tupK K 2 rfl (pgs_cons (pg_name (i := 8) sc_told.nd rfl (Or.inl rfl)) (pgs_cons (pg_name (i := 9) sc_told.nd rfl (Or.inl rfl)) pgs_nil))))
      pss_nil))
      (pss_cons (ps_ret (pe_mkc (ok_Open_init T) hr (by decide) (by rfl) (pa_cons (pv 8) (pa_cons (pv 9) (pa_cons (pv 6) pa_nil)))))
      pss_nil))) pss_nil)
      (pss_cons (ps_if (pt_cmpR (op_neDK K hr.units) (pv 2) (pe_lst pa_nil) (nomark _)) (pss_cons (ps_ret (pe_mkc (ok_Heavy_init T) hr (by decide) (by rfl) (pa_cons (pe_ix (ix_listK K) (pv 2) pe_int (fun _ _ => rfl)) pa_nil)))
      pss_nil) pss_nil)
      (pss_cons (ps_if (pt_cmpR (op_neDK K hr.units) (pv 5) (pe_lst pa_nil) (nomark _)) (pss_cons (ps_ret (pe_mkc (ok_Light_init T) hr (by decide) (by rfl) (pa_cons (pe_ix (ix_listK K) (pv 5) pe_int (fun _ _ => rfl)) pa_nil)))
      pss_nil) pss_nil)
      (pss_cons (ps_ret (pe_make00 T.z_Nothing T.i_Nothing.hm (by rfl) T.g_Nothing))
      pss_nil)))))))), go_dropX (ea_cons (ev_var rfl) ea_nil) (sx_marks_bad hb) q⟩
/-! ### weighed -/
/-- whether it is a whole number -/
def WholeIs (K : PySem.W.Frag) (v : V) (b : Bool) (H : Hp) : Prop := ∃ (t : Value) (ki kb : Bool), TyX K H v t ∧ PySem.W.kitOne K t (.type "int") = some ki ∧ PySem.W.kitOne K t (.type "bool") = some kb ∧ (ki && !kb) = b
theorem whole_mono {v : V} {b : Bool} {H H1 : Hp} (e : Ex H H1) (h : WholeIs K v b H) : WholeIs K v b H1 := by
  obtain ⟨t, ki, kb, a, c⟩ := h
  exact ⟨t, ki, kb, tyx_mono e a, c⟩
theorem whole_int {i : Int} {H : Hp} : WholeIs K (.int i) true H := ⟨_, true, false, .base (.int i), kit_ty (by decide +kernel), kit_ty (by decide +kernel), rfl⟩
theorem sv_whole {H : Hp} {v : V} {b : Bool} (h : WholeIs K v b H) : SpV (spIsWhole K) [v] H (.bl b) := sv1 fun H1 e Q q => by
  obtain ⟨t, ki, kb, a, c, d, rfl⟩ := whole_mono e h
  exact ⟨t, ki, kb, a, c, d, q⟩
/-- no coins -/
inductive BadC (K : PySem.W.Frag) (H : Hp) : V → V → V → Prop where
  | c1 {a b c : V} : WholeIs K a false H → BadC K H a b c
  | c2 {i : Int} {b c : V} : i < 0 → BadC K H (.int i) b c
  | c3 {i : Int} {b c : V} : 0 ≤ i → WholeIs K b false H → BadC K H (.int i) b c
  | c4 {i j : Int} {c : V} : 0 ≤ i → ¬ (-1 ≤ j ∧ j < i) → BadC K H (.int i) (.int j) c
  | c5 {i j : Int} {c : V} {t : Value} : 0 ≤ i → -1 ≤ j → j < i → TyX K H c t → PySem.W.kitOne K t (.type "bool") = some false → BadC K H (.int i) (.int j) c
theorem badC_mono {H H1 : Hp} {a b c : V} (e : Ex H H1) (h : BadC K H a b c) : BadC K H1 a b c := by
  cases h with
  | c1 h => exact .c1 (whole_mono e h)
  | c2 h => exact .c2 h
  | c3 h1 h2 => exact .c3 h1 (whole_mono e h2)
  | c4 h1 h2 => exact .c4 h1 h2
  | c5 h1 h2 h3 h4 h5 => exact .c5 h1 h2 h3 (tyx_mono e h4) h5
def spWeighedX (K : PySem.W.Frag) : Sp := S5x fun a b c d f H Q E => (BadC K H a b c ∧ Go H (E (.ref (He.ga K "BadCoin")) none)) ∨ ∃ (i j : Int) (hv : Bool) (l r : Option (List V)), a = .int i ∧ b = .int j ∧ c = .bl hv ∧ 0 ≤ i ∧ -1 ≤ j ∧ j < i ∧ Thing K H d l ∧ Thing K H f r ∧ weighO i l r = false ∧ Go H (E (.ref (He.ga K "BadWeighing")) none)
theorem okx_weighed (T : Txt K mg) : Cal (CXn P w) P w K mg base 5 "weighed" (spWeighedX K) :=
  calx_mk T.f_weighed T.g_weighed sc_weighed (fun _ _ _ _ _ _ us hl => match us, hl with | [_, _, _, _, _], _ => rfl) lenx5 fun cdv A outer s H vs Q E hr hsp => by
    obtain ⟨a, b, c, d, f, rfl, hsp⟩ := hsp
    refine ⟨_, (pss_cons (ps_if (PW.pt (pw_or (pt_not (pt_val (pe_k (ok_is_whole T) hr (by decide) (by rfl) (pa_cons (pv 0) pa_nil)))) (pw_or (pt_cmpR op_ltI (pv 0) pe_int (nomark _)) (pw_or (pt_not (pt_val (pe_k (ok_is_whole T) hr (by decide) (by rfl) (pa_cons (pv 1) pa_nil)))) (pw_or (pt_not (pt_chain op_leI op_ltI (pe_un un_negI pe_int) (pv 1) (pv 0))) (pw_or1 (pt_not (pt_val (pe_callB (call_isiK2 K) (by rfl) T.n_isinstance (by decide +kernel) (pa_cons (pv 2) (pa_cons (pe_gTy (n := "bool") T.n_bool) pa_nil))))))))))) (pss_cons (L2N.ps_raise rfl (L2N.takes_of rfl rfl rfl rfl) (L2N.pmk_own PySem.F.excBase_ValueError (T.x_BadCoin).1 T.g_BadCoin (T.x_BadCoin).2.1 (raises_own (T.x_BadCoin).2.2.1 (T.x_BadCoin).2.2.2) rfl))
      pss_nil) pss_nil)
      (pss_cons (ps_expr (pe_kx (okx_check_weighing T) hr (by decide) (by rfl) (L2N.takes_of rfl rfl rfl rfl) (pa_cons (pv 0) (pa_cons (pv 3) (pa_cons (pv 4) pa_nil)))))
      (pss_cons (ps_if (pt_cmpR (op_inK K) (pv 1) (pv 3) rfl) (pss_cons (ps_ret (pe_ifExp (pt_val (pv 2)) (pe_strS k_left) (pe_strS k_right)))
      pss_nil) pss_nil)
      (pss_cons (ps_if (pt_cmpR (op_inK K) (pv 1) (pv 4) rfl) (pss_cons (ps_ret (pe_ifExp (pt_val (pv 2)) (pe_strS k_right) (pe_strS k_left)))
      pss_nil) pss_nil)
      (pss_cons (ps_ret (pe_strS k_even))
      pss_nil))))), ?_⟩
    rcases hsp with ⟨hb, q⟩ | ⟨i, j, hv, l, r, rfl, rfl, rfl, h0, h1, h2, t1, t2, hw, q⟩
    · have fin : ∀ {D : Ends} {tz : TS} {σ : L2.St}, Go H (tSeq (fun (_ : Ends) (σ : L2.St) (H : Hp) => (fun (_ : L2.St) (H : Hp) (Q : XK) => Q (.ref (He.ga K "BadCoin")) none H) σ H fun cls d H' => E cls d H') tz D σ) := fun {D tz σ} => q
      refine go_when (b := true) ?_ (fun _ => fin) (fun h => by cases h)
      cases hb with
      | c1 h =>
        exact et_or (a := true) (b := true) (et_is (et_not (et_B (ev_call0 (ea_cons (ev_var rfl) ea_nil) (sv_whole h)))) rfl) fun h => by cases h
      | c2 h =>
        exact et_or (a := false) (b := true) (et_is (et_not (et_B (ev_call0 (ea_cons (ev_var rfl) ea_nil) (sv_whole whole_int)))) rfl) fun _ => et_or (a := true) (b := true) (et_is (et_test (ev_ltI (ev_var rfl) ev_c)) (decide_eq_true h)) fun h => by cases h
      | c3 h0 h =>
        exact et_or (a := false) (b := true) (et_is (et_not (et_B (ev_call0 (ea_cons (ev_var rfl) ea_nil) (sv_whole whole_int)))) rfl) fun _ => et_or (a := false) (b := true) (et_is (et_test (ev_ltI (ev_var rfl) ev_c)) (decide_eq_false (by omega))) fun _ =>
          et_or (a := true) (b := true) (et_is (et_not (et_B (ev_call0 (ea_cons (ev_var rfl) ea_nil) (sv_whole h)))) rfl) fun h => by cases h
      | c4 h0 h =>
        exact et_or (a := false) (b := true) (et_is (et_not (et_B (ev_call0 (ea_cons (ev_var rfl) ea_nil) (sv_whole whole_int)))) rfl) fun _ => et_or (a := false) (b := true) (et_is (et_test (ev_ltI (ev_var rfl) ev_c)) (decide_eq_false (by omega))) fun _ =>
          et_or (a := false) (b := true) (et_is (et_not (et_B (ev_call0 (ea_cons (ev_var rfl) ea_nil) (sv_whole whole_int)))) rfl) fun _ => et_or (a := true) (b := true) (et_is (et_not (et_test (ev_leLt (ev_negI ev_c) (ev_var rfl) (ev_var rfl)))) (by
            rw [← Bool.decide_and, decide_eq_false h] <;> rfl)) fun h => by cases h
      | c5 h0 h1 h2 h4 h5 =>
        exact et_or (a := false) (b := true) (et_is (et_not (et_B (ev_call0 (ea_cons (ev_var rfl) ea_nil) (sv_whole whole_int)))) rfl) fun _ => et_or (a := false) (b := true) (et_is (et_test (ev_ltI (ev_var rfl) ev_c)) (decide_eq_false (by omega))) fun _ =>
          et_or (a := false) (b := true) (et_is (et_not (et_B (ev_call0 (ea_cons (ev_var rfl) ea_nil) (sv_whole whole_int)))) rfl) fun _ => et_or (a := false) (b := true) (et_is (et_not (et_test (ev_leLt (ev_negI ev_c) (ev_var rfl) (ev_var rfl)))) (by rw [decide_eq_true h1, decide_eq_true h2] <;> rfl)) fun _ =>
          et_is (et_not (et_B (ev_isT (ev_var rfl) ev_c (.ty _) h4 h5))) rfl
    · refine go_when (b := false) (et_is (et_or (a := false) (et_is (et_not (et_B (ev_call0 (ea_cons (ev_var rfl) ea_nil) (sv_whole whole_int)))) rfl) fun _ => et_or (a := false) (et_is (et_test (ev_ltI (ev_var rfl) ev_c)) (decide_eq_false (by omega))) fun _ =>
        et_or (a := false) (et_is (et_not (et_B (ev_call0 (ea_cons (ev_var rfl) ea_nil) (sv_whole whole_int)))) rfl) fun _ => et_or (a := false) (et_is (et_not (et_test (ev_leLt (ev_negI ev_c) (ev_var rfl) (ev_var rfl)))) (by rw [decide_eq_true h1, decide_eq_true h2] <;> rfl)) fun _ =>
        et_not (et_B (ev_isT (ev_var rfl) ev_c (.ty _) (.base (.bl _)) (kit_ty (r := true) (by decide +kernel))))) rfl) (fun hb => by cases hb) (fun _ => ?_)
      exact go_dropX (ea_cons (ev_var rfl) (ea_cons (ev_var rfl) (ea_cons (ev_var rfl) ea_nil))) (sx_weigh_bad t1 t2 hw) q
theorem sx_weighed_coin {H : Hp} {a b c d f : V} (h : BadC K H a b c) : SpE (spWeighedX K) [a, b, c, d, f] H (.exc (He.ga K "BadCoin")) := fun H1 e1 Q E q => ⟨a, b, c, d, f, rfl, .inl ⟨badC_mono e1 h, q⟩⟩
theorem sx_weighed_weigh {H : Hp} {i j : Int} {hv : Bool} {d f : V} {l r : Option (List V)} (h0 : 0 ≤ i) (h1 : -1 ≤ j) (h2 : j < i) (t1 : Thing K H d l) (t2 : Thing K H f r) (hw : weighO i l r = false) : SpE (spWeighedX K) [.int i, .int j, .bl hv, d, f] H (.exc (He.ga K "BadWeighing")) := fun H1 e1 Q E q =>
  ⟨_, _, _, d, f, rfl, .inr ⟨i, j, hv, l, r, rfl, rfl, rfl, h0, h1, h2, t1.mono e1, t2.mono e1, hw, q⟩⟩
/-! ### greatest, written -/
/-- as Thing, the list tracked -/
def ThingT (K : PySem.W.Frag) (H : Hp) (a : V) : Option (List V) → Prop
  | none => ∃ t, TyX K H a t ∧ PySem.W.kitOne K t (.type "list") = some false
  | some xs => ∃ p, a = .ref p ∧ H p = some (.lst xs) ∧ xs.all flatV = true ∧ xs.length ≤ 1000
theorem ThingT.mono {H H1 : Hp} {a : V} {o : Option (List V)} (e : Ex H H1) (h : ThingT K H a o) : ThingT K H1 a o := by
  cases o with
  | none =>
    obtain ⟨t, h1, h2⟩ := h
    exact ⟨t, tyx_mono e h1, h2⟩
  | some xs =>
    obtain ⟨p, h1, h2, h3⟩ := h
    exact ⟨p, h1, e _ _ h2, h3⟩
theorem ThingT.thing {H : Hp} {a : V} {o : Option (List V)} (h : ThingT K H a o) : Thing K H a o := by
  cases o with
  | none => exact h
  | some xs =>
    obtain ⟨p, h1, h2, h3, h4⟩ := h
    exact ⟨p, h1, sq_of h2, h3, by omega⟩
def maxL : List Int → Int
  | [] => 0
  | x :: r => max x (maxL r)
theorem maxL_ge : ∀ (l : List Int), (∀ y ∈ l, y ≤ maxL l) ∧ 0 ≤ maxL l ∧ maxL l ∈ 0 :: l
  | [] => ⟨(fun y hy => by cases hy), Int.le_refl _, List.mem_cons_self⟩
  | x :: r => by
    obtain ⟨h1, h2, h3⟩ := maxL_ge r
    refine ⟨fun y hy => ?_, ?_, ?_⟩
    · show y ≤ max x (maxL r)
      rcases List.mem_cons.mp hy with e | e
      · rw [e]; omega
      · have := h1 y e; omega
    · show 0 ≤ max x (maxL r); omega
    · show max x (maxL r) ∈ 0 :: x :: r
      by_cases h : maxL r ≤ x
      · have : max x (maxL r) = x := by omega
        rw [this]
        exact List.mem_cons_of_mem _ List.mem_cons_self
      · have : max x (maxL r) = maxL r := by omega
        rw [this]
        rcases List.mem_cons.mp h3 with e | e
        · rw [e]; exact List.mem_cons_self
        · exact List.mem_cons_of_mem _ (List.mem_cons_of_mem _ e)
def greatI (l r : Option (List V)) : Int := match l, r with
  | some l, some r => if (l ++ r).all isIntV = true then maxL ((l ++ r).map intOf) else 0
  | _, _ => 0
def spGreatest (K : PySem.W.Frag) : Sp := S2 fun a b H Q => ∃ l r, ThingT K H a l ∧ ThingT K H b r ∧ Go H (Q (.int (greatI l r)))
theorem ok_greatest (T : Txt K mg) : Cal CX0 P w K mg base 2 "greatest" (spGreatest K) :=
  cal_mk T.f_greatest T.g_greatest sc_greatest (fun _ _ _ _ _ _ us hl => match us, hl with | [_, _], _ => rfl) len2 fun cdv A outer s H vs Q E hr hsp => by
    obtain ⟨a, b, rfl, l, r, h1, h2, q⟩ := hsp
    refine ⟨_, (pss_cons (ps_if (PW.pt (pw_or (pt_not (pt_val (pe_callB (call_isiK2 K) (by rfl) T.n_isinstance (by decide +kernel) (pa_cons (pv 0) (pa_cons (pe_gTy (n := "list") T.n_list) pa_nil))))) (pw_or1 (pt_not (pt_val (pe_callB (call_isiK2 K) (by rfl) T.n_isinstance (by decide +kernel) (pa_cons (pv 1) (pa_cons (pe_gTy (n := "list") T.n_list) pa_nil)))))))) (pss_cons (ps_ret pe_int)
      pss_nil) pss_nil)
      (pss_cons (ps_if (pt_not (pt_val (pe_callB (cr_allK K rfl) (by rfl) T.n_all (by decide +kernel) (pa_cons (pe_lc (own := [("coin", 2)]) rfl sc_greatest.nd (pi_list (pe_op op_cat (pv 0) (pv 1))) (blkOk_by (own := [("coin", 2)]) (N := ["left", "right", "coin"]) (sc := defScope s_greatest) (by decide +kernel)) (fun _ _ _ _ _ => (pg_name (i := 2) sc_greatest.nd rfl (Or.inl rfl))) (fun _ _ _ _ _ => pts_nil) (fun _ _ _ _ _ => (pe_k (ok_is_whole T) hr (by decide) (by rfl) (pa_cons (pv 2) pa_nil)))) pa_nil)))) (pss_cons (ps_ret pe_int)
      pss_nil) pss_nil)
      (pss_cons (ps_ret (pe_callB (cr_max rfl) (by rfl) T.n_max (by decide +kernel) (pa_cons (pe_op op_cat (pe_op op_cat (pe_lst (pa_cons pe_int pa_nil)) (pv 0)) (pv 1)) pa_nil)))
      pss_nil))), ?_⟩
    cases l with
    | none =>
      obtain ⟨t, a1, a2⟩ := h1
      exact go_when (b := true) (et_or (b := true) (et_not (et_B (ev_isT (ev_var rfl) ev_c (.ty _) a1 a2))) fun h => by cases h) (fun _ => go_ret ev_c q) (fun h => by cases h)
    | some l =>
      obtain ⟨p1, rfl, hp1, f1, n1⟩ := h1
      cases r with
      | none =>
        obtain ⟨t, a1, a2⟩ := h2
        exact go_when (b := true) (et_is (et_or (et_not (et_B (ev_isT (ev_var rfl) ev_c (.ty _) (tyx_sql (sq_of hp1)) (kit_ty (r := true) (by decide +kernel))))) fun _ => et_not (et_B (ev_isT (ev_var rfl) ev_c (.ty _) a1 a2))) rfl) (fun _ => go_ret ev_c q) (fun h => by cases h)
      | some r =>
        obtain ⟨p2, rfl, hp2, f2, n2⟩ := h2
        refine go_when (b := false) (et_is (et_or (et_not (et_B (ev_isT (ev_var rfl) ev_c (.ty _) (tyx_sql (sq_of hp1)) (kit_ty (r := true) (by decide +kernel))))) fun _ => et_not (et_B (ev_isT (ev_var rfl) ev_c (.ty _) (tyx_sql (sq_of hp2)) (kit_ty (r := true) (by decide +kernel))))) rfl) (fun h => by cases h) (fun _ => ?_)
        have ff : ∀ x ∈ l ++ r, flatV x = true := fun x hx => by
          rcases List.mem_append.mp hx with z | z
          · exact List.all_eq_true.mp f1 x z
          · exact List.all_eq_true.mp f2 x z
        have eg : greatI (some l) (some r) = if (l ++ r).all isIntV = true then maxL ((l ++ r).map intOf) else 0 := rfl
        rw [eg] at q
        refine go_when (b := !(l ++ r).all isIntV) (et_is (et_not (et_B (ev_allN (bs := (l ++ r).map isIntV) ?_))) (by rw [List.all_map] <;> rfl)) (fun hb => ?_) (fun hb => ?_)
        · rw [List.map_map]
          exact el_mapN (l ++ r) _root_.id (fun x => V.bl (isIntV x)) .non (by rw [List.map_id]; exact el_cat (ev_var rfl) (ev_var rfl) hp1 hp2 (by omega)) (by rw [List.length_append]; omega) (fun _ => rfl) (fun x hx => ev_call0 (ea_cons (ev_var rfl) ea_nil) (sv_is_whole (ff x hx)))
        · rw [Bool.not_eq_true'] at hb
          rw [if_neg (by rw [hb]; exact Bool.false_ne_true)] at q
          exact go_ret ev_c q
        · rw [Bool.not_eq_false'] at hb
          rw [if_pos hb] at q
          have ei := ints_of hb
          obtain ⟨g1, g2, g3⟩ := maxL_ge ((l ++ r).map intOf)
          refine go_ret (ev_maxN (ns := 0 :: (l ++ r).map intOf) (m := maxL ((l ++ r).map intOf)) ?_ g3 fun y hy => ?_) q
          · rw [List.map_cons, ← ei]
            exact el_catNq (xs := .int 0 :: l) (el_catNq (xs := [.int 0]) (el_lst (ea_cons ev_c ea_nil) (by simp)) (ev_var rfl) hp1 (by show 1 + _ ≤ _; omega)) (ev_var rfl) hp2 (by rw [List.length_cons]; omega)
          · rcases List.mem_cons.mp hy with e | e
            · rw [e]; exact g2
            · exact g1 y e
theorem sv_greatest {H : Hp} {a b : V} {l r : Option (List V)} (h1 : ThingT K H a l) (h2 : ThingT K H b r) : SpV (spGreatest K) [a, b] H (.int (greatI l r)) := sv2 fun H1 e Q q => ⟨l, r, h1.mono e, h2.mono e, q⟩
def spWrittenX (K : PySem.W.Frag) : Sp := S2x fun a b H Q E => ∃ l r, ThingT K H a l ∧ ThingT K H b r ∧ (1000000000 ≤ greatI l r ∨ weighO (greatI l r) l r = false) ∧ Go H (E (.ref (He.ga K "BadWeighing")) none)
theorem okx_written (T : Txt K mg) : Cal (CXn P w) P w K mg base 4 "written" (spWrittenX K) :=
  calx_mk T.f_written T.g_written sc_written (fun _ _ _ _ _ _ us hl => match us, hl with | [_, _], _ => rfl) lenx2 fun cdv A outer s H vs Q E hr hsp => by
    obtain ⟨a, b, rfl, l, r, h1, h2, hb, q⟩ := hsp
    refine ⟨_, (pss_cons (ps_set (i := 2) sc_written.nd rfl (Or.inl rfl) (pe_k (ok_greatest T) hr (by decide) (by rfl) (pa_cons (pv 0) (pa_cons (pv 1) pa_nil))))
      (pss_cons (ps_if (PW.pt (pw_or (pt_cmpR op_geI (pv 2) (pe_gI T.c_MOST) (nomark _)) (pw_or1 (pt_not (pt_val (pe_k (ok_is_weighing T) hr (by decide) (by rfl) (pa_cons (pv 2) (pa_cons (pv 0) (pa_cons (pv 1) pa_nil))))))))) (pss_cons (L2N.ps_raise rfl (L2N.takes_of rfl rfl rfl rfl) (L2N.pmk_own PySem.F.excBase_ValueError (T.x_BadWeighing).1 T.g_BadWeighing (T.x_BadWeighing).2.1 (raises_own (T.x_BadWeighing).2.2.1 (T.x_BadWeighing).2.2.2) rfl))
      pss_nil) pss_nil)
      (pss_cons (ps_if (pt_cmpR (op_eqDK K hr.units) (pv 0) (pe_lst pa_nil) (nomark _)) (pss_cons (ps_ret (pe_strS k__2d_))
      pss_nil) pss_nil)
      (pss_cons (ps_ret (pe_op op_addT (pe_op op_addT (pe_m1 PySem.F.slot_str_join PySem.F.type_str_join mt_joinT (pe_strS k__20_) (pe_lc (own := [("coin", 3)]) rfl sc_written.nd (pi_list (pv 0)) (blkOk_by (own := [("coin", 3)]) (N := ["left", "right", "most", "coin"]) (sc := defScope s_written) (by decide +kernel)) (fun _ _ _ _ _ => (pg_name (i := 3) sc_written.nd rfl (Or.inl rfl))) (fun _ _ _ _ _ => pts_nil) (fun _ _ _ _ _ => (pe_callTy call_strI (by rfl) T.n_str (by decide +kernel) (pa_cons (pv 3) pa_nil))))) (pe_strS k__20__7c__20_)) (pe_m1 PySem.F.slot_str_join PySem.F.type_str_join mt_joinT (pe_strS k__20_) (pe_lc (own := [("coin", 3)]) rfl sc_written.nd (pi_list (pv 1)) (blkOk_by (own := [("coin", 3)]) (N := ["left", "right", "most", "coin"]) (sc := defScope s_written) (by decide +kernel)) (fun _ _ _ _ _ => (pg_name (i := 3) sc_written.nd rfl (Or.inl rfl))) (fun _ _ _ _ _ => pts_nil) (fun _ _ _ _ _ => (pe_callTy call_strI (by rfl) T.n_str (by decide +kernel) (pa_cons (pv 3) pa_nil)))))))
      pss_nil)))), ?_⟩
    refine go_asg (ev_call0 (ea_cons (ev_var rfl) (ea_cons (ev_var rfl) ea_nil)) (sv_greatest h1 h2)) ?_
    refine go_when (b := true) (et_is (et_or (et_test (ev_geI (ev_var rfl) ev_c)) fun _ => et_not (et_B (ev_call0 (ea_cons (ev_var rfl) (ea_cons (ev_var rfl) (ea_cons (ev_var rfl) ea_nil))) (sv_is_weighing h1.thing h2.thing)))) ?_) (fun _ => (show Go H (E (.ref (He.ga K "BadWeighing")) none) from q)) (fun h => by cases h)
    rcases hb with h | h
    · rw [decide_eq_true h] <;> rfl
    · rw [h]; simp
theorem sx_written {H : Hp} {a b : V} {l r : Option (List V)} (h1 : ThingT K H a l) (h2 : ThingT K H b r) (hb : 1000000000 ≤ greatI l r ∨ weighO (greatI l r) l r = false) : SpE (spWrittenX K) [a, b] H (.exc (He.ga K "BadWeighing")) := fun H1 e Q E q => ⟨a, b, rfl, l, r, h1.mono e, h2.mono e, hb, q⟩
end Od

namespace Od
open PySem PySem.Spec PyProof.Rows L2 SX Evl
variable {P : Program} {w : World} {K : PySem.W.Frag} {mg : Str → Option Value} {base : Heap}
/-! ### the asks -/
theorem EvX_if_dummy : True := True.intro
def EvX (E : XK) (te : TE) (σ : L2.St) (H : Hp) (r : Res) : Prop := ∀ H1, Ex H H1 → ∀ Q : VK, ends r H1 Q E → te σ H1 Q
theorem evx_call {σ : L2.St} {H : Hp} {ta : TA} {vs : List V} {sp : Sp} {E : L2.St → XK} {r : Res} (h : EvA ta σ H vs) (hs : SpE sp vs H r) : EvX (E σ) (tCallS sp E ta) σ H r := fun H1 e Q q => h H1 e _ fun H2 e2 => hs H2 (e.trans e2) Q (E σ) (q.mono e2)
theorem evx_if {σ : L2.St} {H : Hp} {t : TT} {ta tb : TE} {E : XK} {r : Res} {b : Bool} (h : EvT t σ H b) (h1 : b = true → EvX E ta σ H r) (h2 : b = false → EvX E tb σ H r) : EvX E (tIf t ta tb) σ H r := fun H1 e Q q => h H1 e _ fun H2 e2 => by
  cases b with
  | true => rw [if_pos rfl]; exact h1 rfl H2 (e.trans e2) Q (q.mono e2)
  | false => rw [if_neg Bool.false_ne_true]; exact h2 rfl H2 (e.trans e2) Q (q.mono e2)
theorem go_retE {σ : L2.St} {H : Hp} {te : TE} {E : XK} {r : Res} {D : Ends} {tz : TS} (h : EvX E te σ H r) (k : ends r H D.rt E) : Go H (tSeq (tRet te) tz D σ) := fun H1 e => h H1 e _ (k.mono e)
/-- a call, two of its arguments new lists -/
theorem evx_call1LL {σ : L2.St} {H : Hp} {t1 t2 t3 : TE} {a : V} {xs ys : List V} {sp : Sp} {E : L2.St → XK} {r : Res} (h1 : Ev t1 σ H a) (h2 : EvL t2 σ H xs) (h3 : EvL t3 σ H ys) (hs : ∀ p q H1, Ex H H1 → H1 p = some (.lst xs) → H1 q = some (.lst ys) → SpE sp [a, .ref p, .ref q] H1 r) :
    EvX (E σ) (tCallS sp E (tCons t1 (tCons t2 (tCons t3 tNil)))) σ H r := fun H1 e Q k => h1 H1 e _ fun H2 e2 => h2 H2 (e.trans e2) _ fun p H3 hp e3 h3' => h3 H3 ((e.trans e2).trans e3) _ fun q H4 hq e4 h4 =>
  hs p q H4 (((e.trans e2).trans e3).trans e4) (e4 _ _ h3') h4 H4 (Ex.refl H4) Q (E σ) (k.mono ((e2.trans e3).trans e4))
theorem evx_call1LL1 {σ : L2.St} {H : Hp} {t1 t2 t3 t4 : TE} {a d : V} {xs ys : List V} {sp : Sp} {E : L2.St → XK} {r : Res} (h1 : Ev t1 σ H a) (h2 : EvL t2 σ H xs) (h3 : EvL t3 σ H ys) (h4 : Ev t4 σ H d) (hs : ∀ p q H1, Ex H H1 → H1 p = some (.lst xs) → H1 q = some (.lst ys) → SpE sp [a, .ref p, .ref q, d] H1 r) :
    EvX (E σ) (tCallS sp E (tCons t1 (tCons t2 (tCons t3 (tCons t4 tNil))))) σ H r := fun H1 e Q k => h1 H1 e _ fun H2 e2 => h2 H2 (e.trans e2) _ fun p H3 hp e3 h3' => h3 H3 ((e.trans e2).trans e3) _ fun q H4 hq e4 h4' => h4 H4 (((e.trans e2).trans e3).trans e4) _ fun H5 e5 =>
  hs p q H5 ((((e.trans e2).trans e3).trans e4).trans e5) (e5 _ _ (e4 _ _ h3')) (e5 _ _ h4') H5 (Ex.refl H5) Q (E σ) (k.mono (((e2.trans e3).trans e4).trans e5))
theorem sole_nil {n : Nat} : weighB (n : Nat) [] [] = true := weigh_mk rfl rfl rfl fun x hx => by cases hx
theorem wp_nil {H : Hp} {n : Nat} {p q : Addr} (hp : H p = some (.lst [])) (hq : H q = some (.lst [])) : WPair K H n (.ref p) (.ref q) [] [] := ⟨⟨p, rfl, sq_of hp⟩, ⟨q, rfl, sq_of hq⟩, sole_nil, by simp, by simp⟩
theorem none_thing {H : Hp} : ThingT K H .non none := ⟨_, .base .non, kit_ty (by decide +kernel)⟩
/-- a pair of things -/
def PairTh (K : PySem.W.Frag) (v : V) (l r : Option (List V)) (H : Hp) : Prop := ∃ p x y, v = .ref p ∧ H p = some (.tup [x, y]) ∧ ThingT K H x l ∧ ThingT K H y r
theorem pairTh_mono {v : V} {l r : Option (List V)} {H H1 : Hp} (e : Ex H H1) (h : PairTh K v l r H) : PairTh K v l r H1 := by
  obtain ⟨p, x, y, a, b, c, d⟩ := h
  exact ⟨p, x, y, a, e _ _ b, c.mono e, d.mono e⟩
def spAskMarks (K : PySem.W.Frag) : Sp := S2x fun a b H Q E => ∃ i : Nat, a = .int (i : Nat) ∧ i < 5 ∧ BadM K b H ∧ Go H (E (.ref (He.ga K "BadMarks")) none)
theorem okx_law_with_marks (T : Txt K mg) : Cal (CXn P w) P w K mg base 6 "_law_with_marks" (spAskMarks K) :=
  calx_mk T.f_law_with_marks T.g_law_with_marks sc_law_with_marks (fun _ _ _ _ _ _ us hl => match us, hl with | [_, _], _ => rfl) lenx2 fun cdv A outer s H vs Q E hr hsp => by
    obtain ⟨a, b, rfl, i, rfl, hi, hb, q⟩ := hsp
    refine ⟨_, (pss_cons (ps_if (pt_cmpR op_ltI (pv 0) pe_int (nomark _)) (pss_cons (ps_ret (pe_ifExp (pt_cmpR op_eqI (pv 0) pe_int (nomark _)) (pe_kx (okx_cases T) hr (by decide) (by rfl) (L2N.takes_of rfl rfl rfl rfl) (pa_cons (pv 1) pa_nil)) (pe_ifExp (pt_cmpR op_eqI (pv 0) pe_int (nomark _)) (pe_kx (okx_fewest T) hr (by decide) (by rfl) (L2N.takes_of rfl rfl rfl rfl) (pa_cons (pv 1) pa_nil)) (pe_kx (okx_told T) hr (by decide) (by rfl) (L2N.takes_of rfl rfl rfl rfl) (pa_cons (pv 1) pa_nil)))))
      pss_nil) pss_nil)
      (pss_cons (ps_ret (pe_ifExp (pt_cmpR op_eqI (pv 0) pe_int (nomark _)) (pe_kx (okx_behind T) hr (by decide) (by rfl) (L2N.takes_of rfl rfl rfl rfl) (pa_cons (pv 1) (pa_cons pe_non (pa_cons pe_non (pa_cons pe_non pa_nil))))) (pe_kx (okx_judged T) hr (by decide) (by rfl) (L2N.takes_of rfl rfl rfl rfl) (pa_cons (pv 1) (pa_cons (pe_lst (pa_cons pe_int pa_nil)) (pa_cons (pe_lst pa_nil) pa_nil))))))
      pss_nil)), ?_⟩
    have cs : i = 0 ∨ i = 1 ∨ i = 2 ∨ i = 3 ∨ i = 4 := by omega
    refine go_when (b := decide (i < 3)) (et_is (et_test (ev_ltI (ev_var rfl) ev_c)) (decide_eq_decide.mpr ⟨fun h => by omega, fun h => by omega⟩)) (fun h => ?_) (fun h => ?_)
    · exact go_retE (r := .exc (He.ga K "BadMarks")) (evx_if (et_test (ev_eqI (ev_var rfl) ev_c)) (fun _ => evx_call (ea_cons (ev_var rfl) ea_nil) (sx_badM hb)) fun _ => evx_if (et_test (ev_eqI (ev_var rfl) ev_c)) (fun _ => evx_call (ea_cons (ev_var rfl) ea_nil) (sx_badM hb)) fun _ => evx_call (ea_cons (ev_var rfl) ea_nil) (sx_badM hb)) q
    · exact go_retE (r := .exc (He.ga K "BadMarks")) (evx_if (et_test (ev_eqI (ev_var rfl) ev_c)) (fun _ => evx_call (ea_cons (ev_var rfl) (ea_cons ev_c (ea_cons ev_c (ea_cons ev_c ea_nil)))) (sx_behind_marks hb)) fun _ => evx_call1LL (ev_var rfl) (el_lst (ea_cons ev_c ea_nil) (by simp)) (el_lst ea_nil (by simp)) fun p q H1 e hp hq => sx_judged_marks (badM_mono _ _ _ e hb)) q
theorem sx_ask_marks {H : Hp} {i : Nat} {v : V} (hi : i < 5) (h : BadM K v H) : SpE (spAskMarks K) [.int (i : Nat), v] H (.exc (He.ga K "BadMarks")) := fun H1 e Q E q => ⟨_, v, rfl, i, rfl, hi, badM_mono _ _ _ e h, q⟩
def spAskPair (K : PySem.W.Frag) : Sp := S2x fun a b H Q E => ∃ (m : List Nat) (l r : Option (List V)), a = .str (S m) ∧ marksB m = true ∧ m.length ≤ 10000 ∧ PairTh K b l r H ∧ weighO (m.length : Nat) l r = false ∧ Go H (E (.ref (He.ga K "BadWeighing")) none)
theorem okx_law_with_weighing (T : Txt K mg) : Cal (CXn P w) P w K mg base 6 "_law_with_weighing" (spAskPair K) :=
  calx_mk T.f_law_with_weighing T.g_law_with_weighing sc_law_with_weighing (fun _ _ _ _ _ _ us hl => match us, hl with | [_, _], _ => rfl) lenx2 fun cdv A outer s H vs Q E hr hsp => by
    obtain ⟨a, b, rfl, m, l, r, rfl, hm, hl, ⟨p, x, y, rfl, hp, h1, h2⟩, hw, q⟩ := hsp
    refine ⟨_, (pss_cons (ps_ret (pe_kx (okx_behind T) hr (by decide) (by rfl) (L2N.takes_of rfl rfl rfl rfl) (pa_cons (pv 0) (pa_cons (pe_ix (ix_tupK K) (pv 1) pe_int (fun _ _ => rfl)) (pa_cons (pe_ix (ix_tupK K) (pv 1) pe_int (fun _ _ => rfl)) (pa_cons (pe_strS k_no) pa_nil))))))
      pss_nil), ?_⟩
    exact go_retX (r := .exc (He.ga K "BadWeighing")) (ea_cons (ev_var rfl) (ea_cons (ev_ixT (n := 0) (ev_var rfl) ev_c (st_of hp) rfl) (ea_cons (ev_ixT (n := 1) (ev_var rfl) ev_c (st_of hp) rfl) (ea_cons ev_c ea_nil)))) (sx_behind_weigh hm hl h1.thing h2.thing hw) q
theorem okx_law_with_judged (T : Txt K mg) : Cal (CXn P w) P w K mg base 6 "_law_with_judged" (spAskPair K) :=
  calx_mk T.f_law_with_judged T.g_law_with_judged sc_law_with_judged (fun _ _ _ _ _ _ us hl => match us, hl with | [_, _], _ => rfl) lenx2 fun cdv A outer s H vs Q E hr hsp => by
    obtain ⟨a, b, rfl, m, l, r, rfl, hm, hl, ⟨p, x, y, rfl, hp, h1, h2⟩, hw, q⟩ := hsp
    refine ⟨_, (pss_cons (ps_ret (pe_kx (okx_judged T) hr (by decide) (by rfl) (L2N.takes_of rfl rfl rfl rfl) (pa_cons (pv 0) (pa_cons (pe_ix (ix_tupK K) (pv 1) pe_int (fun _ _ => rfl)) (pa_cons (pe_ix (ix_tupK K) (pv 1) pe_int (fun _ _ => rfl)) pa_nil)))))
      pss_nil), ?_⟩
    exact go_retX (r := .exc (He.ga K "BadWeighing")) (ea_cons (ev_var rfl) (ea_cons (ev_ixT (n := 0) (ev_var rfl) ev_c (st_of hp) rfl) (ea_cons (ev_ixT (n := 1) (ev_var rfl) ev_c (st_of hp) rfl) ea_nil))) (sx_judged_weigh hm hl h1.thing h2.thing hw) q
theorem sx_ask_pair {H : Hp} {m : List Nat} {l r : Option (List V)} {v : V} (hm : marksB m = true) (hl : m.length ≤ 10000) (h : PairTh K v l r H) (hw : weighO (m.length : Nat) l r = false) : SpE (spAskPair K) [.str (S m), v] H (.exc (He.ga K "BadWeighing")) := fun H1 e Q E q => ⟨_, v, rfl, m, l, r, rfl, hm, hl, pairTh_mono e h, hw, q⟩
def spAskWeighed (K : PySem.W.Frag) : Sp := S2x fun a b H Q E => ∃ (n : Nat) (l r : Option (List V)), a = .int (n : Nat) ∧ PairTh K b l r H ∧ weighO (n : Nat) l r = false ∧ Go H (E (.ref (He.ga K "BadWeighing")) none)
theorem okx_law_with_weighed (T : Txt K mg) : Cal (CXn P w) P w K mg base 6 "_law_with_weighed" (spAskWeighed K) :=
  calx_mk T.f_law_with_weighed T.g_law_with_weighed sc_law_with_weighed (fun _ _ _ _ _ _ us hl => match us, hl with | [_, _], _ => rfl) lenx2 fun cdv A outer s H vs Q E hr hsp => by
    obtain ⟨a, b, rfl, n, l, r, rfl, ⟨p, x, y, rfl, hp, h1, h2⟩, hw, q⟩ := hsp
    refine ⟨_, (pss_cons (ps_ret (pe_kx (okx_weighed T) hr (by decide) (by rfl) (L2N.takes_of rfl rfl rfl rfl) (pa_cons (pv 0) (pa_cons (pe_un un_negI pe_int) (pa_cons pe_bl (pa_cons (pe_ix (ix_tupK K) (pv 1) pe_int (fun _ _ => rfl)) (pa_cons (pe_ix (ix_tupK K) (pv 1) pe_int (fun _ _ => rfl)) pa_nil)))))))
      pss_nil), ?_⟩
    exact go_retX (r := .exc (He.ga K "BadWeighing")) (ea_cons (ev_var rfl) (ea_cons (ev_negI ev_c) (ea_cons ev_c (ea_cons (ev_ixT (n := 0) (ev_var rfl) ev_c (st_of hp) rfl) (ea_cons (ev_ixT (n := 1) (ev_var rfl) ev_c (st_of hp) rfl) ea_nil))))) (sx_weighed_weigh (i := ((n : Nat) : Int)) (j := -1) (by omega) (by omega) (by omega) h1.thing h2.thing hw) q
theorem sx_ask_weighed {H : Hp} {n : Nat} {l r : Option (List V)} {v : V} (h : PairTh K v l r H) (hw : weighO (n : Nat) l r = false) : SpE (spAskWeighed K) [.int (n : Nat), v] H (.exc (He.ga K "BadWeighing")) := fun H1 e Q E q => ⟨_, v, rfl, n, l, r, rfl, pairTh_mono e h, hw, q⟩
def spAskWritten (K : PySem.W.Frag) : Sp := S2x fun a b H Q E => ∃ l r, PairTh K b l r H ∧ (1000000000 ≤ greatI l r ∨ weighO (greatI l r) l r = false) ∧ Go H (E (.ref (He.ga K "BadWeighing")) none)
theorem okx_law_with_written (T : Txt K mg) : Cal (CXn P w) P w K mg base 6 "_law_with_written" (spAskWritten K) :=
  calx_mk T.f_law_with_written T.g_law_with_written sc_law_with_written (fun _ _ _ _ _ _ us hl => match us, hl with | [_, _], _ => rfl) lenx2 fun cdv A outer s H vs Q E hr hsp => by
    obtain ⟨a, b, rfl, l, r, ⟨p, x, y, rfl, hp, h1, h2⟩, hw, q⟩ := hsp
    refine ⟨_, (pss_cons (ps_ret (pe_kx (okx_written T) hr (by decide) (by rfl) (L2N.takes_of rfl rfl rfl rfl) (pa_cons (pe_ix (ix_tupK K) (pv 1) pe_int (fun _ _ => rfl)) (pa_cons (pe_ix (ix_tupK K) (pv 1) pe_int (fun _ _ => rfl)) pa_nil))))
      pss_nil), ?_⟩
    exact go_retX (r := .exc (He.ga K "BadWeighing")) (ea_cons (ev_ixT (n := 0) (ev_var rfl) ev_c (st_of hp) rfl) (ea_cons (ev_ixT (n := 1) (ev_var rfl) ev_c (st_of hp) rfl) ea_nil)) (sx_written h1 h2 hw) q
theorem sx_ask_written {H : Hp} {l r : Option (List V)} {v a : V} (h : PairTh K v l r H) (hw : 1000000000 ≤ greatI l r ∨ weighO (greatI l r) l r = false) : SpE (spAskWritten K) [a, v] H (.exc (He.ga K "BadWeighing")) := fun H1 e Q E q => ⟨a, v, rfl, l, r, pairTh_mono e h, hw, q⟩
def spAskOutcome (K : PySem.W.Frag) : Sp := S2x fun a b H Q E => ∃ m : List Nat, a = .str (S m) ∧ marksB m = true ∧ m.length ≤ 10000 ∧ ((BadO K b H ∧ Go H (E (.ref (He.ga K "BadOutcome")) none)) ∨ ∃ o, b = .str (S o) ∧ o ∈ outs ∧ manyN m [] [] o = 0 ∧ Go H (E (.ref (He.ga K "Never")) none))
theorem okx_law_with_outcome (T : Txt K mg) : Cal (CXn P w) P w K mg base 6 "_law_with_outcome" (spAskOutcome K) :=
  calx_mk T.f_law_with_outcome T.g_law_with_outcome sc_law_with_outcome (fun _ _ _ _ _ _ us hl => match us, hl with | [_, _], _ => rfl) lenx2 fun cdv A outer s H vs Q E hr hsp => by
    obtain ⟨a, b, rfl, m, rfl, hm, hl, hsp⟩ := hsp
    refine ⟨_, (pss_cons (ps_ret (pe_kx (okx_behind T) hr (by decide) (by rfl) (L2N.takes_of rfl rfl rfl rfl) (pa_cons (pv 0) (pa_cons (pe_lst pa_nil) (pa_cons (pe_lst pa_nil) (pa_cons (pv 1) pa_nil))))))
      pss_nil), ?_⟩
    rcases hsp with ⟨hb, q⟩ | ⟨o, rfl, ho, hz, q⟩
    · exact go_retE (r := .exc (He.ga K "BadOutcome")) (evx_call1LL1 (xs := []) (ys := []) (ev_var rfl) (el_lst ea_nil (by simp)) (el_lst ea_nil (by simp)) (ev_var rfl) fun p q H1 e hp hq => sx_behind_out hm hl (wp_nil hp hq) (badO_mono _ _ _ e hb)) q
    · exact go_retE (r := .exc (He.ga K "Never")) (evx_call1LL1 (xs := []) (ys := []) (ev_var rfl) (el_lst ea_nil (by simp)) (el_lst ea_nil (by simp)) (ev_var rfl) fun p q H1 e hp hq => sx_behind_never hm hl (wp_nil hp hq) ho hz) q
theorem sx_ask_out {H : Hp} {m : List Nat} {v : V} (hm : marksB m = true) (hl : m.length ≤ 10000) (h : BadO K v H) : SpE (spAskOutcome K) [.str (S m), v] H (.exc (He.ga K "BadOutcome")) := fun H1 e Q E q => ⟨_, v, rfl, m, rfl, hm, hl, .inl ⟨badO_mono _ _ _ e h, q⟩⟩
theorem sx_ask_never {H : Hp} {m : List Nat} {o : List Nat} (hm : marksB m = true) (hl : m.length ≤ 10000) (ho : o ∈ outs) (hz : manyN m [] [] o = 0) : SpE (spAskOutcome K) [.str (S m), .str (S o)] H (.exc (He.ga K "Never")) := fun H1 e Q E q => ⟨_, _, rfl, m, rfl, hm, hl, .inr ⟨o, rfl, ho, hz, q⟩⟩
def spAskCoins (K : PySem.W.Frag) : Sp := S2x fun a b H Q E => BadC K H a b (.bl true) ∧ Go H (E (.ref (He.ga K "BadCoin")) none)
theorem okx_law_with_coins (T : Txt K mg) : Cal (CXn P w) P w K mg base 6 "_law_with_coins" (spAskCoins K) :=
  calx_mk T.f_law_with_coins T.g_law_with_coins sc_law_with_coins (fun _ _ _ _ _ _ us hl => match us, hl with | [_, _], _ => rfl) lenx2 fun cdv A outer s H vs Q E hr hsp => by
    obtain ⟨a, b, rfl, hb, q⟩ := hsp
    exact ⟨_, (pss_cons (ps_ret (pe_kx (okx_weighed T) hr (by decide) (by rfl) (L2N.takes_of rfl rfl rfl rfl) (pa_cons (pv 0) (pa_cons (pv 1) (pa_cons pe_bl (pa_cons pe_non (pa_cons pe_non pa_nil)))))))
      pss_nil), go_retX (r := .exc (He.ga K "BadCoin")) (ea_cons (ev_var rfl) (ea_cons (ev_var rfl) (ea_cons ev_c (ea_cons ev_c (ea_cons ev_c ea_nil))))) (sx_weighed_coin hb) q⟩
theorem sx_ask_coins {H : Hp} {a b : V} (h : BadC K H a b (.bl true)) : SpE (spAskCoins K) [a, b] H (.exc (He.ga K "BadCoin")) := fun H1 e Q E q => ⟨a, b, rfl, badC_mono e h, q⟩
def spAskTruth (K : PySem.W.Frag) : Sp := S2x fun a b H Q E => BadC K H a (.int (-1)) b ∧ Go H (E (.ref (He.ga K "BadCoin")) none)
theorem okx_law_with_truth (T : Txt K mg) : Cal (CXn P w) P w K mg base 6 "_law_with_truth" (spAskTruth K) :=
  calx_mk T.f_law_with_truth T.g_law_with_truth sc_law_with_truth (fun _ _ _ _ _ _ us hl => match us, hl with | [_, _], _ => rfl) lenx2 fun cdv A outer s H vs Q E hr hsp => by
    obtain ⟨a, b, rfl, hb, q⟩ := hsp
    exact ⟨_, (pss_cons (ps_ret (pe_kx (okx_weighed T) hr (by decide) (by rfl) (L2N.takes_of rfl rfl rfl rfl) (pa_cons (pv 0) (pa_cons (pe_un un_negI pe_int) (pa_cons (pv 1) (pa_cons pe_non (pa_cons pe_non pa_nil)))))))
      pss_nil), go_retX (r := .exc (He.ga K "BadCoin")) (ea_cons (ev_var rfl) (ea_cons (ev_negI ev_c) (ea_cons (ev_var rfl) (ea_cons ev_c (ea_cons ev_c ea_nil))))) (sx_weighed_coin hb) q⟩
theorem sx_ask_truth {H : Hp} {a b : V} (h : BadC K H a (.int (-1)) b) : SpE (spAskTruth K) [a, b] H (.exc (He.ga K "BadCoin")) := fun H1 e Q E q => ⟨a, b, rfl, badC_mono e h, q⟩
end Od

namespace Od
open PySem PySem.Spec PyProof.Rows L2 SX Evl
variable {P : Program} {w : World} {K : PySem.W.Frag} {mg : Str → Option Value} {base : Heap}
/-! ### law_kinds -/
inductive Cl where
  | marks | weighing | outcome | never | coin
def clA (K : PySem.W.Frag) : Cl → Addr
  | .marks => He.ga K "BadMarks"
  | .weighing => He.ga K "BadWeighing"
  | .outcome => He.ga K "BadOutcome"
  | .never => He.ga K "Never"
  | .coin => He.ga K "BadCoin"
def kindsL : Cl → List Bool
  | .marks => [true, false, false, false, false, false, true]
  | .weighing => [false, true, false, false, false, false, true]
  | .outcome => [false, false, true, false, false, false, true]
  | .never => [false, false, false, true, false, false, true]
  | .coin => [false, false, false, false, true, false, true]
/-- the first three, the next three -/
theorem kinds_split (c : Cl) : ∃ a1 a2 a3 b1 b2 b3, kindsL c = ([a1, a2, a3] ++ [b1, b2, b3]) ++ [true] ∧ ∀ (K : PySem.W.Frag) (mg : Str → Option Value), Txt K mg → PySem.W.kitOne K (.ref (clA K c)) (.ref (He.ga K "BadMarks")) = some a1 ∧ PySem.W.kitOne K (.ref (clA K c)) (.ref (He.ga K "BadWeighing")) = some a2 ∧
    PySem.W.kitOne K (.ref (clA K c)) (.ref (He.ga K "BadOutcome")) = some a3 ∧ PySem.W.kitOne K (.ref (clA K c)) (.ref (He.ga K "Never")) = some b1 ∧ PySem.W.kitOne K (.ref (clA K c)) (.ref (He.ga K "BadCoin")) = some b2 ∧ PySem.W.kitOne K (.ref (clA K c)) (.ref (He.ga K "BadText")) = some b3 ∧
    PySem.W.kitOne K (.ref (clA K c)) (.type "ValueError") = some true ∧ ExcC K (clA K c) ∧ PySem.W.exmOne K (.ref (clA K c)) (.ref (He.ga K "CoinError")) = some true := by
  cases c with
  | marks => exact ⟨_, _, _, _, _, _, rfl, fun K mg T => ⟨T.t_BadMarks_BadMarks, T.t_BadMarks_BadWeighing, T.t_BadMarks_BadOutcome, T.t_BadMarks_Never, T.t_BadMarks_BadCoin, T.t_BadMarks_BadText, T.t_BadMarks_ValueError, T.ec_BadMarks, T.e_BadMarks_CoinError⟩⟩
  | weighing => exact ⟨_, _, _, _, _, _, rfl, fun K mg T => ⟨T.t_BadWeighing_BadMarks, T.t_BadWeighing_BadWeighing, T.t_BadWeighing_BadOutcome, T.t_BadWeighing_Never, T.t_BadWeighing_BadCoin, T.t_BadWeighing_BadText, T.t_BadWeighing_ValueError, T.ec_BadWeighing, T.e_BadWeighing_CoinError⟩⟩
  | outcome => exact ⟨_, _, _, _, _, _, rfl, fun K mg T => ⟨T.t_BadOutcome_BadMarks, T.t_BadOutcome_BadWeighing, T.t_BadOutcome_BadOutcome, T.t_BadOutcome_Never, T.t_BadOutcome_BadCoin, T.t_BadOutcome_BadText, T.t_BadOutcome_ValueError, T.ec_BadOutcome, T.e_BadOutcome_CoinError⟩⟩
  | never => exact ⟨_, _, _, _, _, _, rfl, fun K mg T => ⟨T.t_Never_BadMarks, T.t_Never_BadWeighing, T.t_Never_BadOutcome, T.t_Never_Never, T.t_Never_BadCoin, T.t_Never_BadText, T.t_Never_ValueError, T.ec_Never, T.e_Never_CoinError⟩⟩
  | coin => exact ⟨_, _, _, _, _, _, rfl, fun K mg T => ⟨T.t_BadCoin_BadMarks, T.t_BadCoin_BadWeighing, T.t_BadCoin_BadOutcome, T.t_BadCoin_Never, T.t_BadCoin_BadCoin, T.t_BadCoin_BadText, T.t_BadCoin_ValueError, T.ec_BadCoin, T.e_BadCoin_CoinError⟩⟩
def tKinds (K : PySem.W.Frag) (ta : TA) (a : Addr) (cls : Value) (d : Option Addr) : TE := fun σ H Q => ta σ H fun vs H1 => vs = [.ref a] ∧ ∃ c : Cl, cls = .ref (clA K c) ∧ d = none ∧ NewL ((kindsL c).map V.bl) H1 Q
theorem kinds_walk (T : Txt K mg) {A : Around} {outer : List Env} {s : Shared} {H : Hp} {Q : VK} {E : XK} {p : Addr × Obj} {cdv : Value} {c : Cl} (hz : Zc (.ref (clA K c)) none p.2) (hf : ∃ vs, p.2.data = .fields vs) (q : NewL ((kindsL c).map V.bl) H Q) :
    ∃ t, PSs (L2H.cxH CX0 P w K mg base ["_law_error", "_law_found"] "_law_kinds" (defScope s_law_kinds) (He.ga K "_law_kinds") cdv A outer s H E p) (defBody s_law_kinds) t ∧ t { nx := fun _ H' => Q .non H', rt := Q } (L2.start ["_law_error", "_law_found"] [.ref p.1]) H := by
  obtain ⟨a1, a2, a3, b1, b2, b3, ek, h⟩ := kinds_split c
  obtain ⟨h1, h2, h3, h4, h5, h6, h7, C, _⟩ := h K mg T
  refine ⟨_, (pss_cons (ps_set (i := 1) sc_law_kinds.nd rfl (Or.inl rfl) (pe_lst (pa_cons (pe_callB (call_isP (p := p) K List.mem_cons_self) (by rfl) T.n_isinstance (by decide +kernel) (pa_cons (pv 0) (pa_cons (pe_gR T.g_BadMarks) pa_nil))) (pa_cons (pe_callB (call_isP (p := p) K List.mem_cons_self) (by rfl) T.n_isinstance (by decide +kernel) (pa_cons (pv 0) (pa_cons (pe_gR T.g_BadWeighing) pa_nil))) (pa_cons (pe_callB (call_isP (p := p) K List.mem_cons_self) (by rfl) T.n_isinstance (by decide +kernel) (pa_cons (pv 0) (pa_cons (pe_gR T.g_BadOutcome) pa_nil))) pa_nil)))))
      (pss_cons (ps_set (i := 1) sc_law_kinds.nd rfl (Or.inl rfl) (pe_op op_cat (pv 1) (pe_lst (pa_cons (pe_callB (call_isP (p := p) K List.mem_cons_self) (by rfl) T.n_isinstance (by decide +kernel) (pa_cons (pv 0) (pa_cons (pe_gR T.g_Never) pa_nil))) (pa_cons (pe_callB (call_isP (p := p) K List.mem_cons_self) (by rfl) T.n_isinstance (by decide +kernel) (pa_cons (pv 0) (pa_cons (pe_gR T.g_BadCoin) pa_nil))) (pa_cons (pe_callB (call_isP (p := p) K List.mem_cons_self) (by rfl) T.n_isinstance (by decide +kernel) (pa_cons (pv 0) (pa_cons (pe_gR T.g_BadText) pa_nil))) pa_nil))))))
      (pss_cons (ps_ret (pe_op op_cat (pv 1) (pe_lst (pa_cons (pe_callB (call_isP (p := p) K List.mem_cons_self) (by rfl) T.n_isinstance (by decide +kernel) (pa_cons (pv 0) (pa_cons (pe_gTy (n := "ValueError") T.n_ValueError) pa_nil))) pa_nil))))
      pss_nil))), Go.here (H := H) ?_⟩
  refine go_asgL (xs := [a1, a2, a3].map V.bl) (el_lst (ea_cons (ev_isP hz hf C (ev_var rfl) ev_c (.own _) h1) (ea_cons (ev_isP hz hf C (ev_var rfl) ev_c (.own _) h2) (ea_cons (ev_isP hz hf C (ev_var rfl) ev_c (.own _) h3) ea_nil))) (by simp)) fun x hx => ?_
  refine go_asgL (xs := ([a1, a2, a3] ++ [b1, b2, b3]).map V.bl) (el_catN (xs := [a1, a2, a3].map V.bl) (ys := [b1, b2, b3].map V.bl) (ev_var rfl) (el_lst (ea_cons (ev_isP hz hf C (ev_var rfl) ev_c (.own _) h4) (ea_cons (ev_isP hz hf C (ev_var rfl) ev_c (.own _) h5) (ea_cons (ev_isP hz hf C (ev_var rfl) ev_c (.own _) h6) ea_nil))) (by simp)) upd_same (by simp)) fun y hy => ?_
  refine go_retL (xs := (kindsL c).map V.bl) (by rw [ek, List.map_append]; exact el_catN (ys := [true].map V.bl) (ev_var rfl) (el_lst (ea_cons (ev_isP hz hf C (ev_var rfl) ev_c (.ty _) h7) ea_nil) (by simp)) upd_same (by simp)) (q.mono ((Ex.new hx).trans (Ex.new hy)))
theorem pe_kinds {X : Cx} {j : Nat} {a : Addr} {oe : Obj} {pn : List (Addr × Obj)} {cls : Value} {d : Option Addr} {e : Expr} {ta : TA} {p pos : Pos} (T : Txt X.K X.mg) (hr : Room j X.A) (hk : 1 ≤ j) (hg : Gl (X.suite a ((a, oe) :: pn)) "_law_kinds") (hz : L2N.Zn cls d oe) (hf : ∃ vs, oe.data = .fields vs) (ha : PA (X.suite a ((a, oe) :: pn)) [e] ta)
    (hdb : (("_law_kinds" : Str) == ("__debug__" : Str)) = false := by decide) (he : starEach [e] X.env = (false, eval e X.env) :: starEach [] X.env := by rfl) (hpl : (backTo pos (starEach [] X.env)).any (·.1) = false := by rfl) :
    PE (X.suite a ((a, oe) :: pn)) (.Call (.Name "_law_kinds" p) [e] [] pos) (tKinds X.K ta a cls d) := by
  refine ⟨fun pins s σ H Q I h => ?_⟩
  obtain ⟨fd, F⟩ := T.f_law_kinds
  have hm := T.g_law_kinds
  have kp := F.kp
  have hb := F.bindsN (ps := ["_law_error"]) (fun _ _ _ _ _ _ us hl => match us, hl with | [_], _ => rfl)
  obtain ⟨oc, od, dV, kV, doc, pm, an, cdv, ct, osl, efd, lk, hcd, _, _⟩ := F.ex
  subst efd
  refine wpAny_Call_Name_kw (ld_glob I hg hm ?_ hdb)
  refine PySem.W.callWith_K (h₀ := X.base) I.ok.mod.kin kp (thn (ha.run pos pins s σ H _ I h) fun us s1 ⟨vs, H1, I1, r, ev, c, ec, ed, q⟩ => ⟨I1.kIn, ?_⟩) he hpl
  subst ev ec ed
  have P1 := I1.pin (a, oe) (List.mem_append_left _ List.mem_cons_self)
  have hpin : L2H.PinOk (X.suite a ((a, oe) :: pn)).stack H1 s1 (a, oe) := ⟨P1.1, P1.2.1, fun hm => (List.mem_cons.mp (I1.stkSub a hm)).elim P1.2.2.1 P1.2.2.2.1, P1.2.2.2.2⟩
  have hl : us.length = (["_law_error"] : List Str).length := by rw [← r.length] <;> rfl
  have b := hb s1 us I1.kIn (by rw [List.append_nil]; exact hl)
  rw [List.append_nil] at b
  have rh : L2H.RoomH 1 (X.suite a ((a, oe) :: pn)).A := L2H.RoomH.mono ⟨hr.dp, hr.un⟩ hk
  refine wpAny_call (codeAny_mono (run_suite (CX := CX0) (k := 0) (Q := Q) (E := fun _ _ _ => False) lk hcd sc_law_kinds rfl rh hpin I1.env0 b r (kinds_walk T hz.zc hf q)) fun r2 s2 hq => ?_)
  match r2, hq with
  | .error e2, hq => exact False.elim hq
  | .ok (.ret u), hq => exact I1.after hq
  | .ok .next, hq => exact False.elim hq
  | .ok .brk, hq => exact False.elim hq
  | .ok .cont, hq => exact False.elim hq
end Od

namespace Od
open PySem PySem.Spec PyProof.Rows L2 SX Evl
variable {P : Program} {w : World} {K : PySem.W.Frag} {mg : Str → Option Value} {base : Heap}
/-! ### law_told, law_all -/
def spToldF (P : Program) (w : World) (K : PySem.W.Frag) (mg : Str → Option Value) (base : Heap) : Sp := S3 fun a b d H Q => ∃ (f : Addr) (sp : Sp) (c : Cl), a = .ref f ∧ HeldX P w K mg base 8 f sp ∧ SpE sp [b, d] H (.exc (clA K c)) ∧ NewL ((kindsL c).map V.bl) H Q
theorem go_retKinds {ta : TA} {σ : L2.St} {H : Hp} {x : Addr} {c : Cl} {vs : List V} {tz : TS} {D : Ends} (h : EvA ta σ H vs) (hv : vs = [.ref x]) (q : NewL ((kindsL c).map V.bl) H D.rt) : Go H (tSeq (tRet (tKinds K ta x (.ref (clA K c)) none)) tz D σ) := fun H1 e => h H1 e _ fun H2 e2 => ⟨hv, c, rfl, rfl, q.mono (e.trans e2)⟩
theorem ok_law_told (T : Txt K mg) : Cal CX0 P w K mg base 9 "_law_told" (spToldF P w K mg base) :=
  cal_mk T.f_law_told T.g_law_told sc_law_told (fun _ _ _ _ _ _ us hl => match us, hl with | [_, _, _], _ => rfl) len3 fun cdv A outer s H vs Q E hr hsp => by
    obtain ⟨a, b, d, rfl, f, sp, c, rfl, hf, hx, q⟩ := hsp
    refine ⟨_, (pss_cons (L2N.ps_try_as (i := 3) (tb := fun W => (tSeq (tDrop (tCallF 0 (HeldX P w K mg base 8) W (tCons (tVar 1) (tCons (tVar 2) tNil)))) tNext)) (ts := fun a cls d => (tSeq (tRet (tKinds K (tCons (tVar 3) tNil) a cls d)) tNext)) (Wout := fun _ _ _ _ => False) rfl rfl sc_law_told.nd rfl rfl ⟨rfl, by decide, .inl T.g_CoinError⟩ takesN0 (fun W pn xe tk po => by exact (pss_cons (ps_expr (pe_callF (F := HeldX P w K mg base 8) (fun _ _ h => h) hr (i := 0) rfl (Or.inl rfl) tk (pa_cons (pv 1) (pa_cons (pv 2) pa_nil))))
      pss_nil)) (fun a oe cls d pn hz hf => by exact (pss_cons (ps_ret (pe_kinds T hr (by decide) (by rfl) hz hf (pa_cons (pv 3) pa_nil)))
      pss_nil)))
      (pss_cons (ps_ret (pe_lst pa_nil))
      pss_nil)), ?_⟩
    refine go_tryAs (tb := fun W => tSeq (tDrop (tCallF 0 (HeldX P w K mg base 8) W (tCons (tVar 1) (tCons (tVar 2) tNil)))) tNext) (go_dropF (r := .exc (clA K c)) rfl hf (ea_cons (ev_var rfl) (ea_cons (ev_var rfl) ea_nil)) hx ?_)
    obtain ⟨_, _, _, _, _, _, _, h⟩ := kinds_split c
    obtain ⟨_, _, _, _, _, _, _, _, he⟩ := h K mg T
    refine w_meets he fun x H1 e1 hx1 => ?_
    exact go_retKinds (σ := [some (.ref f), some b, some d, some (.ref x)]) (vs := [.ref x]) (ea_cons (ev_var rfl) ea_nil) rfl (q.mono e1)
theorem sl_told {H : Hp} {f : Addr} {sp : Sp} {c : Cl} {b d : V} (hf : HeldX P w K mg base 8 f sp) (hx : SpE sp [b, d] H (.exc (clA K c))) : SpL (spToldF P w K mg base) [.ref f, b, d] H ((kindsL c).map V.bl) := sl3 fun H1 e Q q => ⟨f, sp, c, rfl, hf, hx.mono e, q⟩
def spAll (P : Program) (w : World) (K : PySem.W.Frag) (mg : Str → Option Value) (base : Heap) : Sp := S4 fun a b c d H Q => ∃ (f : Addr) (sp : Sp) (cl : Cl) (n : Nat) (q : Addr), a = .ref f ∧ HeldX P w K mg base 8 f sp ∧ ListR (fun x H2 => SpE sp [b, x] H2 (.exc (clA K cl))) n c H ∧ n ≤ 1000 ∧ d = .ref q ∧ SqL K H q ((kindsL cl).map V.bl) ∧ Go H (Q (.bl true))
theorem ok_law_all (T : Txt K mg) : Cal CX0 P w K mg base 10 "_law_all" (spAll P w K mg base) :=
  cal_mk T.f_law_all T.g_law_all sc_law_all (fun _ _ _ _ _ _ us hl => match us, hl with | [_, _, _, _], _ => rfl) len4 fun cdv A outer s H vs Q E hr hsp => by
    obtain ⟨a, b, c, d, rfl, f, sp, cl, n, q1, rfl, hf, ⟨p, xs, rfl, hp, hl, hx⟩, hn, rfl, hd, q⟩ := hsp
    refine ⟨_, (pss_cons (ps_ret (pe_callB (cr_allK K rfl) (by rfl) T.n_all (by decide +kernel) (pa_cons (pe_lc (own := [("_law_thing", 4)]) rfl sc_law_all.nd (pi_list (pv 2)) (blkOk_by (own := [("_law_thing", 4)]) (N := ["_law_ask", "_law_one", "_law_things", "_law_due", "_law_thing"]) (sc := defScope s_law_all) (by decide +kernel)) (fun _ _ _ _ _ => (pg_name (i := 4) sc_law_all.nd rfl (Or.inl rfl))) (fun _ _ _ _ _ => pts_nil) (fun _ _ _ _ _ => (pe_cmpR (op_eqDK K hr.units) (pe_k (ok_law_told (P := P) (w := w) (base := base) T) hr (by decide) (by rfl) (pa_cons (pv 0) (pa_cons (pv 1) (pa_cons (pv 4) pa_nil)))) (pv 3) (nomark _)))) pa_nil)))
      pss_nil), ?_⟩
    refine go_ret (ev_is (ev_allN (bs := xs.map fun _ => true) ?_) ?_) q
    · rw [List.map_map]
      exact el_mapU (f := fun _ => V.bl true) (ev_var rfl) (sq_of hp) (by omega) (fun _ => rfl) fun x hx1 => ev_eqBs (el_call0 (ea_cons (ev_var rfl) (ea_cons (ev_var rfl) (ea_cons (ev_var rfl) ea_nil))) (sl_told hf (hx x hx1))) (ev_var rfl) hd
    · rw [List.all_map]
      have : xs.all (_root_.id ∘ fun _ => true) = true := List.all_eq_true.mpr fun _ _ => rfl
      rw [this]
theorem sv_all {H : Hp} {f : Addr} {sp : Sp} {cl : Cl} {n : Nat} {q : Addr} {b c : V} (mo : ∀ v H1 H2, Ex H1 H2 → SpE sp [b, v] H1 (.exc (clA K cl)) → SpE sp [b, v] H2 (.exc (clA K cl))) (hf : HeldX P w K mg base 8 f sp) (hx : ListR (fun x H2 => SpE sp [b, x] H2 (.exc (clA K cl))) n c H) (hn : n ≤ 1000) (hd : SqL K H q ((kindsL cl).map V.bl)) : SpV (spAll P w K mg base) [.ref f, b, c, .ref q] H (.bl true) :=
  sv4 fun H1 e Q k => ⟨f, sp, cl, n, q, rfl, hf, listR_mono mo _ _ _ e hx, hn, rfl, ex_l e hd, k⟩
/-- a call of law_all on a list just displayed -/
theorem ev_all {σ : L2.St} {H : Hp} {t1 t2 t3 t4 : TE} {E : XK} {f : Addr} {sp : Sp} {cl : Cl} {n : Nat} {q : Addr} {b : V} {R : V → Hp → Prop} (hf : HeldX P w K mg base 8 f sp) (h1 : Ev t1 σ H (.ref f)) (h2 : Ev t2 σ H b) (h3 : EvR t3 σ H (ListR R n)) (hR : ∀ x H1, Ex H H1 → R x H1 → SpE sp [b, x] H1 (.exc (clA K cl))) (hn : n ≤ 1000) (h4 : Ev t4 σ H (.ref q)) (hd : SqL K H q ((kindsL cl).map V.bl)) :
    Ev (tCall (spAll P w K mg base) [] E (tCons t1 (tCons t2 (tCons t3 (tCons t4 tNil))))) σ H (.bl true) := fun H1 e Q k => h1 H1 e _ fun H2 e2 => h2 H2 (e.trans e2) _ fun H3 e3 => h3 H3 ((e.trans e2).trans e3) _ fun v H4 e4 r => h4 H4 (((e.trans e2).trans e3).trans e4) _ fun H5 e5 => by
  have e15 := (((e.trans e2).trans e3).trans e4).trans e5
  have r4 : ListR (fun x H2 => SpE sp [b, x] H2 (.exc (clA K cl))) n v H4 := r.imp fun x rx => hR x H4 (((e.trans e2).trans e3).trans e4) rx
  exact sv_all (fun v H1 H2 e h => h.mono e) hf (listR_mono (fun v H1 H2 e (h : SpE sp [b, v] H1 (.exc (clA K cl))) => h.mono e) _ _ _ e5 r4) hn (ex_l e15 hd) H5 (Ex.refl H5) Q (fun H6 e6 => k H6 ((((e2.trans e3).trans e4).trans e5).trans e6)) E
end Od

namespace Od
open PySem PySem.Spec PyProof.Rows L2 SX Evl
variable {P : Program} {w : World} {K : PySem.W.Frag} {mg : Str → Option Value} {base : Heap}
/-! ### pairs of things -/
def BT (v : V) (o : Option (List V)) (H : Hp) : Prop := (o = none ∧ (v = .non ∨ (∃ m, v = .str (S m)) ∨ ∃ p, v = .ref p ∧ H p = some (.tup []))) ∨ ∃ p xs, o = some xs ∧ v = .ref p ∧ H p = some (.lst xs) ∧ xs.all flatV = true ∧ xs.length ≤ 1000
theorem bt_thing {v : V} {o : Option (List V)} {H : Hp} (h : BT v o H) : ThingT K H v o := by
  rcases h with ⟨rfl, rfl | ⟨m, rfl⟩ | ⟨p, rfl, h⟩⟩ | ⟨p, xs, rfl, rfl, h1, h2, h3⟩
  · exact none_thing
  · exact ⟨_, .base (.str _), kit_ty (by decide +kernel)⟩
  · exact ⟨_, tyx_sqt (st_of h), kit_ty (by decide +kernel)⟩
  · exact ⟨p, rfl, h1, h2, h3⟩
theorem bt_mono {o : Option (List V)} : Mono fun v H => BT v o H := fun v H H1 e h => by
  rcases h with ⟨rfl, rfl | ⟨m, rfl⟩ | ⟨p, rfl, h⟩⟩ | ⟨p, xs, rfl, rfl, h1, h2, h3⟩
  · exact .inl ⟨rfl, .inl rfl⟩
  · exact .inl ⟨rfl, .inr (.inl ⟨m, rfl⟩)⟩
  · exact .inl ⟨rfl, .inr (.inr ⟨p, rfl, e _ _ h⟩)⟩
  · exact .inr ⟨p, xs, rfl, rfl, e _ _ h1, h2, h3⟩
theorem bt_upd {v : V} {o : Option (List V)} {H : Hp} {l : Addr} {ys zs : List V} (hl : H l = some (.lst ys)) (hy : ys.all flatV = false) (h : BT v o H) : BT v o (upd H l (.lst zs)) := by
  rcases h with ⟨rfl, rfl | ⟨m, rfl⟩ | ⟨p, rfl, h⟩⟩ | ⟨p, xs, rfl, rfl, h1, h2, h3⟩
  · exact .inl ⟨rfl, .inl rfl⟩
  · exact .inl ⟨rfl, .inr (.inl ⟨m, rfl⟩)⟩
  · refine .inl ⟨rfl, .inr (.inr ⟨p, rfl, ?_⟩)⟩
    rw [upd_ne (fun q => by rw [q, hl] at h; cases h)]
    exact h
  · refine .inr ⟨p, xs, rfl, rfl, ?_, h2, h3⟩
    rw [upd_ne (fun q => by
      rw [q, hl] at h1
      cases h1
      rw [h2] at hy
      cases hy)]
    exact h1
def BadPr (C : Option (List V) → Option (List V) → Prop) (v : V) (H : Hp) : Prop := ∃ p x y l r, v = .ref p ∧ H p = some (.tup [x, y]) ∧ BT x l H ∧ BT y r H ∧ C l r
theorem badPr_mono {C : Option (List V) → Option (List V) → Prop} : Mono (BadPr C) := fun v H H1 e ⟨p, x, y, l, r, a, b, c, d, f⟩ => ⟨p, x, y, l, r, a, e _ _ b, bt_mono _ _ _ e c, bt_mono _ _ _ e d, f⟩
theorem badPr_upd {C : Option (List V) → Option (List V) → Prop} {v : V} {H : Hp} {l : Addr} {ys zs : List V} (hl : H l = some (.lst ys)) (hy : ys.all flatV = false) (h : BadPr C v H) : BadPr C v (upd H l (.lst zs)) := by
  obtain ⟨p, x, y, l1, r1, rfl, b, c, d, f⟩ := h
  refine ⟨p, x, y, l1, r1, rfl, ?_, bt_upd hl hy c, bt_upd hl hy d, f⟩
  rw [upd_ne (fun q => by rw [q, hl] at b; cases b)]
  exact b
theorem badPr_imp {C C2 : Option (List V) → Option (List V) → Prop} {v : V} {H : Hp} (w : ∀ l r, C l r → C2 l r) (h : BadPr C v H) : BadPr C2 v H := by
  obtain ⟨p, x, y, l1, r1, rfl, b, c, d, f⟩ := h
  exact ⟨p, x, y, l1, r1, rfl, b, c, d, w _ _ f⟩
theorem er_pair {σ : L2.St} {H : Hp} {ta tb : TE} {l r : Option (List V)} {C : Option (List V) → Option (List V) → Prop} (h1 : EvR ta σ H fun v H => BT v l H) (h2 : EvR tb σ H fun v H => BT v r H) (hc : C l r) : EvR (tTup (tCons ta (tCons tb tNil))) σ H (BadPr C) :=
  (er_tup2 bt_mono bt_mono h1 h2).weak fun v H2 e ⟨p, x, y, a, b, c, d⟩ => ⟨p, x, y, l, r, a, b, c, d, hc⟩
section
variable {σ : L2.St} {H : Hp} {te : TE}
theorem er_non (h : Ev te σ H .non) : EvR te σ H fun v H => BT v none H := er_ev h fun H1 e => .inl ⟨rfl, .inl rfl⟩
theorem er_str {m : List Nat} (h : Ev te σ H (.str (S m))) : EvR te σ H fun v H => BT v none H := er_ev h fun H1 e => .inl ⟨rfl, .inr (.inl ⟨m, rfl⟩)⟩
theorem er_lstT {xs : List V} (h : EvL te σ H xs) (hf : xs.all flatV = true) (hl : xs.length ≤ 1000) : EvR te σ H fun v H => BT v (some xs) H := er_lst h fun p H1 e hp => .inr ⟨p, xs, rfl, rfl, hp, hf, hl⟩
theorem er_tup0 : EvR (tTup tNil) σ H fun v H => BT v none H := fun H1 e Q q => ⟨sz_of (by simp), fun p hp => q (.ref p) _ (Ex.new hp) (.inl ⟨rfl, .inr (.inr ⟨p, rfl, upd_same⟩)⟩)⟩
/-- a list of one, of two -/
theorem er_l0 : EvR (tLst tNil) σ H fun v H => BT v (some []) H := er_lstT (el_lst ea_nil (by simp)) rfl (by simp)
theorem er_l1 {x : V} (h : Ev te σ H x) (hf : flatV x = true) : EvR (tLst (tCons te tNil)) σ H fun v H => BT v (some [x]) H := er_lstT (el_lst (ea_cons h ea_nil) (by simp)) (by simp [hf]) (by simp)
theorem er_l2 {ta : TE} {x y : V} (h : Ev te σ H x) (h2 : Ev ta σ H y) (hf : flatV x = true) (hf2 : flatV y = true) : EvR (tLst (tCons te (tCons ta tNil))) σ H fun v H => BT v (some [x, y]) H := er_lstT (el_lst (ea_cons h (ea_cons h2 ea_nil)) (by simp)) (by simp [hf, hf2]) (by simp)
/-- a list displayed, given a name: it is new -/
theorem go_asgLU {tr : TA} {n i : Nat} {R : V → Hp → Prop} {tz : TS} {D : Ends} (mo : Mono R) (h : EvAU tr σ H n R) (hn : n ≤ 100000) (k : ∀ p vs H2, H p = none → Ex H H2 → H2 p = some (.lst vs) → vs.length = n → (∀ x ∈ vs, R x H2) → Go H2 (tz D (σ.set i (some (.ref p))))) :
    Go H (tSeq (tAsg (tLst tr) (gName i)) tz D σ) := fun H1 e => h H1 e _ fun vs H2 e2 hl ha => ⟨sz_of (by omega), fun p hp => k p vs _ (fresh_back (e.trans e2) hp) ((e.trans e2).trans (Ex.new hp)) upd_same hl (fun x hx => mo _ _ _ (Ex.new hp) (ha x hx)) _ (Ex.refl _)⟩
end
theorem not_flat {C : Option (List V) → Option (List V) → Prop} {H : Hp} {vs : List V} (hn : vs ≠ []) (h : ∀ x ∈ vs, BadPr C x H) : vs.all flatV = false := by
  cases vs with
  | nil => exact absurd rfl hn
  | cons x r =>
    obtain ⟨p, _, _, _, _, rfl, _⟩ := h x List.mem_cons_self
    rfl
abbrev C1 (l r : Option (List V)) : Prop := ∀ c : Int, weighO c l r = false
def C3 (l r : Option (List V)) : Prop := 1000000000 ≤ greatI l r ∨ weighO (greatI l r) l r = false
theorem c1_none {l r : Option (List V)} (h : l = none ∨ r = none) : C1 l r := fun c => by
  rcases h with rfl | rfl
  · rfl
  · cases l <;> rfl
theorem c_ints {c : Int} {l r : List Int} (h : weighB c l r = false) : weighO c (some (l.map V.int)) (some (r.map V.int)) = false := by rw [weighO_ints, h]
theorem c1_00 : C1 (some [.int 0]) (some []) := fun c => c_ints (l := [0]) (r := []) (by simp [weighB])
theorem c1_01 : C1 (some [.int 0]) (some [.int 0]) := fun c => c_ints (l := [0]) (r := [0]) (by simp [weighB])
theorem c1_flat {x : V} {r : Option (List V)} (h : isIntV x = false) : C1 (some [x]) r := fun c => by
  cases r with
  | none => rfl
  | some r => simp [weighO, sideV, h]
theorem c1_neg {j : Int} {r : List Int} (h : j < 0) : C1 (some [.int j]) (some (r.map V.int)) := fun c => c_ints (l := [j]) (by simp [weighB, sideN, riseB]; intro a; omega)
theorem c1_neg2 {j : Int} {l : List Int} (h : j < 0) : C1 (some (l.map V.int)) (some [.int j]) := fun c => c_ints (r := [j]) (by simp [weighB, sideN, riseB]; intro _ a; omega)
end Od

namespace Od
open PySem PySem.Spec PyProof.Rows L2 SX Evl
variable {P : Program} {w : World} {K : PySem.W.Frag} {mg : Str → Option Value} {base : Heap}
theorem c1_1000 : C1 (some [.int 1, .int 0]) (some [.int 2, .int 3]) := fun c => c_ints (l := [1, 0]) (r := [2, 3]) (by simp [weighB, sideN, riseB])
theorem c1_0012 : C1 (some [.int 0, .int 0]) (some [.int 1, .int 2]) := fun c => c_ints (l := [0, 0]) (r := [1, 2]) (by simp [weighB, sideN, riseB])
theorem c1_0112 : C1 (some [.int 0, .int 1]) (some [.int 1, .int 2]) := fun c => c_ints (l := [0, 1]) (r := [1, 2]) (by simp [weighB])
theorem c1_2311 : C1 (some [.int 2, .int 3]) (some [.int 1, .int 1]) := fun c => c_ints (l := [2, 3]) (r := [1, 1]) (by simp [weighB, sideN, riseB])
theorem c2_high {n : Nat} {i : Int} {r : List Int} (h : (n : Int) < i) : weighO (n : Nat) (some [.int i]) (some (r.map V.int)) = false := c_ints (l := [i]) (by simp [weighB, sideN, riseB]; intro a b; omega)
theorem c2_high2 {n : Nat} {i : Int} {l : List Int} (h : (n : Int) < i) : weighO (n : Nat) (some (l.map V.int)) (some [.int i]) = false := c_ints (r := [i]) (by simp [weighB, sideN, riseB]; intro _ a b; omega)
theorem c3_far {far : Nat} : C3 (some [.int (1000000000 + (far : Nat))]) (some [.int 0]) := .inl (by
  show 1000000000 ≤ max (1000000000 + ((far : Nat) : Int)) (max 0 0)
  omega)
theorem rep_flat6 (k : Nat) (c : Nat) : (List.replicate k [c]).flatten = List.replicate k c := by
  induction k with
  | zero => rfl
  | succ k ih => rw [List.replicate_succ, List.flatten_cons, ih, List.replicate_succ] <;> rfl
theorem eeee_marks (k : Nat) : marksB ([101, 101, 101, 101] ++ List.replicate k 103) = true := by
  refine marks_mk (fun c hc => ?_) fun _ => ⟨fun h => ?_, fun h => ?_⟩
  · rcases List.mem_append.mp hc with z | z
    · simp at z; omega
    · have := (List.mem_replicate.mp z).2; omega
  · rcases List.mem_append.mp h with z | z
    · simp at z
    · have := (List.mem_replicate.mp z).2; omega
  · rcases List.mem_append.mp h with z | z
    · simp at z
    · have := (List.mem_replicate.mp z).2; omega
def spWeighRight (K : PySem.W.Frag) : Sp := S4 fun a b c d H Q => ∃ (m : List Nat) (q : Addr) (far : Nat), a = .str (S m) ∧ marksB m = true ∧ m.length ≤ 1000 ∧ b = .int (m.length : Nat) ∧ c = .ref q ∧ SqL K H q ((kindsL .weighing).map V.bl) ∧ d = .int (far : Nat) ∧ Go H (Q (.bl true))
theorem ok_law_weighings_right (T : Txt K mg) : Cal CX0 P w K mg base 11 "_law_weighings_right" (spWeighRight K) :=
  cal_mk T.f_law_weighings_right T.g_law_weighings_right sc_law_weighings_right (fun _ _ _ _ _ _ us hl => match us, hl with | [_, _, _, _], _ => rfl) len4 fun cdv A outer s H vs Q E hr hsp => by
    obtain ⟨a, b, c, d, rfl, m, qd, far, rfl, hm, hl, rfl, rfl, hd, rfl, q⟩ := hsp
    refine ⟨_, (pss_cons (ps_set (i := 4) sc_law_weighings_right.nd rfl (Or.inl rfl) (pe_lst (pa_cons (pe_tup (pa_cons pe_non (pa_cons (pe_lst pa_nil) pa_nil))) (pa_cons (pe_tup (pa_cons (pe_lst pa_nil) (pa_cons pe_non pa_nil))) (pa_cons (pe_tup (pa_cons (pe_tup pa_nil) (pa_cons (pe_tup pa_nil) pa_nil))) (pa_cons (pe_tup (pa_cons (pe_lst (pa_cons pe_int pa_nil)) (pa_cons (pe_lst pa_nil) pa_nil))) (pa_cons (pe_tup (pa_cons (pe_lst (pa_cons pe_int pa_nil)) (pa_cons (pe_lst (pa_cons pe_int pa_nil)) pa_nil))) (pa_cons (pe_tup (pa_cons (pe_lst (pa_cons (pe_strS k_0) pa_nil)) (pa_cons (pe_lst (pa_cons pe_int pa_nil)) pa_nil))) (pa_cons (pe_tup (pa_cons (pe_lst (pa_cons pe_bl pa_nil)) (pa_cons (pe_lst (pa_cons pe_int pa_nil)) pa_nil))) (pa_cons (pe_tup (pa_cons (pe_strS k_0) (pa_cons (pe_strS k_1) pa_nil))) pa_nil))))))))))
      (pss_cons (ps_expr (pe_bm PySem.F.plainAttrs_list PySem.F.slot_list_append PySem.F.type_list_append mt_append (pv 4) (pa_cons (pe_tup (pa_cons (pe_lst (pa_cons pe_non pa_nil)) (pa_cons (pe_lst (pa_cons pe_int pa_nil)) pa_nil))) pa_nil)))
      (pss_cons (ps_set (i := 5) sc_law_weighings_right.nd rfl (Or.inl rfl) (pe_lst (pa_cons (pe_tup (pa_cons (pe_lst (pa_cons (pe_un un_negI pe_int) pa_nil)) (pa_cons (pe_lst (pa_cons pe_int pa_nil)) pa_nil))) (pa_cons (pe_tup (pa_cons (pe_lst (pa_cons pe_int pa_nil)) (pa_cons (pe_lst (pa_cons (pe_op op_subI (pe_un un_negI pe_int) (pv 3)) pa_nil)) pa_nil))) pa_nil))))
      (pss_cons (ps_set (i := 6) sc_law_weighings_right.nd rfl (Or.inl rfl) (pe_lst (pa_cons (pe_tup (pa_cons (pe_lst (pa_cons pe_int (pa_cons pe_int pa_nil))) (pa_cons (pe_lst (pa_cons pe_int (pa_cons pe_int pa_nil))) pa_nil))) (pa_cons (pe_tup (pa_cons (pe_lst (pa_cons pe_int (pa_cons pe_int pa_nil))) (pa_cons (pe_lst (pa_cons pe_int (pa_cons pe_int pa_nil))) pa_nil))) (pa_cons (pe_tup (pa_cons (pe_lst (pa_cons pe_int (pa_cons pe_int pa_nil))) (pa_cons (pe_lst (pa_cons pe_int (pa_cons pe_int pa_nil))) pa_nil))) (pa_cons (pe_tup (pa_cons (pe_lst (pa_cons pe_int (pa_cons pe_int pa_nil))) (pa_cons (pe_lst (pa_cons pe_int (pa_cons pe_int pa_nil))) pa_nil))) pa_nil))))))
      (pss_cons (ps_for PassesOwn.never rfl (pi_list (pe_op op_cat (pe_op op_cat (pv 4) (pv 5)) (pe_lst (pa_cons (pe_tup (pa_cons (pe_lst (pa_cons (pe_op op_addI (pv 1) pe_int) pa_nil)) (pa_cons (pe_lst (pa_cons pe_int pa_nil)) pa_nil))) (pa_cons (pe_tup (pa_cons (pe_lst (pa_cons pe_int pa_nil)) (pa_cons (pe_lst (pa_cons (pe_op op_addI (pe_op op_addI (pv 1) pe_int) (pv 3)) pa_nil)) pa_nil))) pa_nil))))) (pg_name (i := 7) sc_law_weighings_right.nd rfl (Or.inl rfl)) (pss_cons (ps_if (PW.pt (pw_or (pt_cmpR (op_neDK K hr.units) (pe_k (ok_law_told (P := P) (w := w) (base := base) T) hr (by decide) (by rfl) (pa_cons (pe_gR T.g_law_with_weighing) (pa_cons (pv 0) (pa_cons (pv 7) pa_nil)))) (pv 2) (nomark _)) (pw_or1 (pt_cmpR (op_neDK K hr.units) (pe_k (ok_law_told (P := P) (w := w) (base := base) T) hr (by decide) (by rfl) (pa_cons (pe_gR T.g_law_with_judged) (pa_cons (pv 0) (pa_cons (pv 7) pa_nil)))) (pv 2) (nomark _))))) (pss_cons (ps_ret pe_bl)
      pss_nil) pss_nil)
      (pss_cons (ps_if (pt_cmpR (op_neDK K hr.units) (pe_k (ok_law_told (P := P) (w := w) (base := base) T) hr (by decide) (by rfl) (pa_cons (pe_gR T.g_law_with_weighed) (pa_cons (pv 1) (pa_cons (pv 7) pa_nil)))) (pv 2) (nomark _)) (pss_cons (ps_ret pe_bl)
      pss_nil) pss_nil)
      pss_nil)))
      (pss_cons (ps_if (pt_not (pt_val (pe_k (ok_law_all (P := P) (w := w) (base := base) T) hr (by decide) (by rfl) (pa_cons (pe_gR T.g_law_with_judged) (pa_cons (pe_op op_addT (pe_strS k_eeee) (pe_op op_mulT (pe_strS k_g) (pv 1))) (pa_cons (pv 6) (pa_cons (pv 2) pa_nil))))))) (pss_cons (ps_ret pe_bl)
      pss_nil) pss_nil)
      (pss_cons (ps_ret (pe_k (ok_law_all (P := P) (w := w) (base := base) T) hr (by decide) (by rfl) (pa_cons (pe_gR T.g_law_with_written) (pa_cons pe_int (pa_cons (pe_op op_cat (pe_op op_cat (pe_op op_cat (pv 4) (pv 5)) (pv 6)) (pe_lst (pa_cons (pe_tup (pa_cons (pe_lst (pa_cons (pe_op op_addI pe_int (pv 3)) pa_nil)) (pa_cons (pe_lst (pa_cons pe_int pa_nil)) pa_nil))) pa_nil))) (pa_cons (pv 2) pa_nil))))))
      pss_nil))))))), ?_⟩
    refine go_asgLU (R := BadPr C1) (n := 8) badPr_mono (eau_cons badPr_mono (er_pair (er_non ev_c) er_l0 (c1_none (.inl rfl))) (eau_cons badPr_mono (er_pair er_l0 (er_non ev_c) (c1_none (.inr rfl))) (eau_cons badPr_mono (er_pair er_tup0 er_tup0 (c1_none (.inl rfl))) (eau_cons badPr_mono (er_pair (er_l1 ev_c rfl) er_l0 c1_00)
      (eau_cons badPr_mono (er_pair (er_l1 ev_c rfl) (er_l1 ev_c rfl) c1_01) (eau_cons badPr_mono (er_pair (er_l1 ev_c rfl) (er_l1 ev_c rfl) (c1_flat rfl)) (eau_cons badPr_mono (er_pair (er_l1 ev_c rfl) (er_l1 ev_c rfl) (c1_flat rfl)) (eau_cons badPr_mono (er_pair (er_str ev_c) (er_str ev_c) (c1_none (.inl rfl))) eau_nil)))))))) (by decide) fun p vs H2 fp e2 hp hn hx => ?_
    refine go_appR (R := BadPr C1) hp (ev_var rfl) (er_pair (er_l1 ev_c rfl) (er_l1 ev_c rfl) (c1_flat rfl)) (by omega) fun v H3 e3 rv => ?_
    have hp3 := e3 _ _ hp
    have nf : vs.all flatV = false := not_flat (by intro z; rw [z] at hn; cases hn) hx
    have L9 : ListR (BadPr C1) 9 (.ref p) (upd H3 p (.lst (vs ++ [v]))) := ⟨p, _, rfl, upd_same, by rw [List.length_append, hn] <;> rfl, fun x hx2 => by
      rcases List.mem_append.mp hx2 with z | z
      · exact badPr_upd hp3 nf (badPr_mono _ _ _ e3 (hx x z))
      · rw [List.mem_singleton.mp z]; exact badPr_upd hp3 nf rv⟩
    have e4 : Ex H (upd H3 p (.lst (vs ++ [v]))) := fun b u hu => by rw [upd_ne (ne_of_none hu fp)]; exact e3 _ _ (e2 _ _ hu)
    generalize upd H3 p (.lst (vs ++ [v])) = H4 at *
    refine go_asgR (R := ListR (BadPr C1) 2) (er_lstU badPr_mono (eau_cons badPr_mono (er_pair (er_l1 (ev_negI ev_c) rfl) (er_l1 ev_c rfl) (c1_neg (r := [0]) (by decide))) (eau_cons badPr_mono (er_pair (er_l1 ev_c rfl) (er_l1 (ev_subI (ev_negI ev_c) (ev_var rfl)) rfl) (c1_neg2 (l := [0]) (by omega))) eau_nil)) (by decide)) fun lo H5 e5 hlo => ?_
    refine go_asgR (R := ListR (BadPr C1) 4) (er_lstU badPr_mono (eau_cons badPr_mono (er_pair (er_l2 ev_c ev_c rfl rfl) (er_l2 ev_c ev_c rfl rfl) c1_1000) (eau_cons badPr_mono (er_pair (er_l2 ev_c ev_c rfl rfl) (er_l2 ev_c ev_c rfl rfl) c1_0012) (eau_cons badPr_mono (er_pair (er_l2 ev_c ev_c rfl rfl) (er_l2 ev_c ev_c rfl rfl) c1_0112)
      (eau_cons badPr_mono (er_pair (er_l2 ev_c ev_c rfl rfl) (er_l2 ev_c ev_c rfl rfl) c1_2311) eau_nil)))) (by decide)) fun mo H6 e6 hmo => ?_
    have hL := listR_mono badPr_mono _ _ _ (e5.trans e6) L9
    have hlo := listR_mono badPr_mono _ _ _ e6 hlo
    have eA := (e4.trans e5).trans e6
    have hdA := ex_l eA hd
    refine go_forU2 (R := BadPr fun l r => weighO (m.length : Nat) l r = false) (n := 13) badPr_mono (er_catU (n := 11) (m := 2) badPr_mono (er_catU (n := 9) (m := 2) badPr_mono (er_ev (ev_var rfl) fun H1 e => (listR_mono badPr_mono _ _ _ e hL).imp fun x hx => badPr_imp (fun l r h => h _) hx) (er_ev (ev_var rfl) fun H1 e => (listR_mono badPr_mono _ _ _ e hlo).imp fun x hx => badPr_imp (fun l r h => h _) hx) (by decide))
      (er_lstU badPr_mono (eau_cons badPr_mono (er_pair (er_l1 (ev_addI (ev_var rfl) ev_c) rfl) (er_l1 ev_c rfl) (c2_high (r := [0]) (by omega))) (eau_cons badPr_mono (er_pair (er_l1 ev_c rfl) (er_l1 (ev_addI (ev_addI (ev_var rfl) ev_c) (ev_var rfl)) rfl) (c2_high2 (l := [0]) (by omega))) eau_nil)) (by decide)) (by decide))
      (fun σ => ∃ y, σ = [some (.str (S m)), some (.int (m.length : Nat)), some (.ref qd), some (.int (far : Nat)), some (.ref p), some lo, some mo, y]) ⟨_, rfl⟩ ?_ ?_
    · rintro x σ' Hk ek rx ⟨y, rfl⟩ H0 a0 e0
      obtain ⟨px, x1, x2, l, r, rfl, b1, b2, b3, b4⟩ := rx
      have pt : PairTh K (.ref px) l r Hk := ⟨px, x1, x2, rfl, b1, bt_thing b2, bt_thing b3⟩
      have hdk := ex_l ek hdA
      refine go_when (b := false) (et_is (et_or (et_test (ev_neBs (el_call0 (ea_cons ev_c (ea_cons (ev_var rfl) (ea_cons (ev_var rfl) ea_nil))) (sl_told (c := .weighing) (held_of (okx_law_with_weighing T) T.g_law_with_weighing (by decide)) (sx_ask_pair hm (by omega) pt b4))) (ev_var rfl) hdk)) fun _ =>
        et_test (ev_neBs (el_call0 (ea_cons ev_c (ea_cons (ev_var rfl) (ea_cons (ev_var rfl) ea_nil))) (sl_told (c := .weighing) (held_of (okx_law_with_judged T) T.g_law_with_judged (by decide)) (sx_ask_pair hm (by omega) pt b4))) (ev_var rfl) hdk)) rfl) (fun h => by cases h) (fun _ => ?_)
      exact go_when (b := false) (et_test (ev_neBs (el_call0 (ea_cons ev_c (ea_cons (ev_var rfl) (ea_cons (ev_var rfl) ea_nil))) (sl_told (c := .weighing) (held_of (okx_law_with_weighed T) T.g_law_with_weighed (by decide)) (sx_ask_weighed pt b4))) (ev_var rfl) hdk)) (fun h => by cases h) (fun _ => go_next (go_up rfl ⟨⟨_, rfl⟩, e0⟩))
    · rintro σ' Hk ek ⟨y, rfl⟩
      have hdk := ex_l ek hdA
      have hL := listR_mono badPr_mono _ _ _ ek hL
      have hlo := listR_mono badPr_mono _ _ _ ek hlo
      have hmo := listR_mono badPr_mono _ _ _ ek hmo
      refine go_when (b := false) (et_is (et_not (et_B (ev_all (R := BadPr C1) (n := 4) (cl := .weighing) (held_of (okx_law_with_judged T) T.g_law_with_judged (by decide)) ev_c (b := .str (S ([101, 101, 101, 101] ++ List.replicate m.length 103))) (ev_addT ev_c (ev_is (ev_mulT (m := [103]) ev_c (ev_var rfl) (by omega) (by omega) (by decide)) (by rw [Int.toNat_natCast, rep_flat6])) (by simp; omega)) (er_ev (ev_var rfl) fun H1 e => listR_mono badPr_mono _ _ _ e hmo)
        (fun x H1 e ⟨px, x1, x2, l, r, ex, b1, b2, b3, b4⟩ => sx_ask_pair (eeee_marks _) (by simp; omega) ⟨px, x1, x2, ex, b1, bt_thing b2, bt_thing b3⟩ (b4 _)) (by decide) (ev_var rfl) hdk))) rfl) (fun h => by cases h) (fun _ => ?_)
      refine go_ret (ev_all (R := BadPr C3) (n := 16) (cl := .weighing) (held_of (okx_law_with_written T) T.g_law_with_written (by decide)) ev_c (b := .int 0) ev_c (er_catU (n := 15) (m := 1) badPr_mono (er_catU (n := 11) (m := 4) badPr_mono (er_catU (n := 9) (m := 2) badPr_mono (er_ev (ev_var rfl) fun H1 e => (listR_mono badPr_mono _ _ _ e hL).imp fun x hx => badPr_imp (fun l r h => .inr (h _)) hx) (er_ev (ev_var rfl) fun H1 e => (listR_mono badPr_mono _ _ _ e hlo).imp fun x hx => badPr_imp (fun l r h => .inr (h _)) hx) (by decide)) (er_ev (ev_var rfl) fun H1 e => (listR_mono badPr_mono _ _ _ e hmo).imp fun x hx => badPr_imp (fun l r h => .inr (h _)) hx) (by decide))
        (er_lstU badPr_mono (eau_cons badPr_mono (er_pair (er_l1 (ev_addI ev_c (ev_var rfl)) rfl) (er_l1 ev_c rfl) c3_far) eau_nil) (by decide)) (by decide))
        (fun x H1 e ⟨px, x1, x2, l, r, ex, b1, b2, b3, b4⟩ => sx_ask_written ⟨px, x1, x2, ex, b1, bt_thing b2, bt_thing b3⟩ b4) (by decide) (ev_var rfl) hdk) (q.mono (eA.trans ek))
theorem sv_weighRight {H : Hp} {m : List Nat} {q : Addr} {far : Nat} (hm : marksB m = true) (hl : m.length ≤ 1000) (hd : SqL K H q ((kindsL .weighing).map V.bl)) : SpV (spWeighRight K) [.str (S m), .int (m.length : Nat), .ref q, .int (far : Nat)] H (.bl true) := sv4 fun H1 e Q k => ⟨m, q, far, rfl, hm, hl, rfl, rfl, ex_l e hd, rfl, k⟩
end Od

namespace Od
open PySem PySem.Spec PyProof.Rows L2 SX Evl
variable {P : Program} {w : World} {K : PySem.W.Frag} {mg : Str → Option Value} {base : Heap}
/-! ### cases, fewest -/
def spCases : Sp := S1 fun a H Q => ∃ m : List Nat, a = .str (S m) ∧ marksB m = true ∧ m.length ≤ 10000 ∧ Go H (Q (.int (casesN m : Nat)))
theorem ok_cases (T : Txt K mg) : Cal CX0 P w K mg base 2 "cases" spCases :=
  cal_mk T.f_cases T.g_cases sc_cases (fun _ _ _ _ _ _ us hl => match us, hl with | [_], _ => rfl) len1 fun cdv A outer s H vs Q E hr hsp => by
    obtain ⟨a, rfl, m, rfl, hm, hl, q⟩ := hsp
    refine ⟨_, (pss_cons (ps_expr (pe_k (ok_check_marks T) hr (by decide) (by rfl) (pa_cons (pv 0) pa_nil)))
      (pss_cons (ps_ret (pe_k (ok_cases_of T) hr (by decide) (by rfl) (pa_cons (pv 0) pa_nil)))
      pss_nil)), ?_⟩
    exact go_drop (ev_call0 (ea_cons (ev_var rfl) ea_nil) (sv_check_marks hm hl)) (go_ret (ev_call0 (ea_cons (ev_var rfl) ea_nil) sv_cases_of) q)
theorem sv_cases {H : Hp} {m : List Nat} (hm : marksB m = true) (hl : m.length ≤ 10000) : SpV spCases [.str (S m)] H (.int (casesN m : Nat)) := sv1 fun H1 e Q q => ⟨m, rfl, hm, hl, q⟩
def spFewest : Sp := S1 fun a H Q => ∃ m : List Nat, a = .str (S m) ∧ marksB m = true ∧ m.length ≤ 10000 ∧ Go H (Q (.int (wf (casesN m) : Nat)))
theorem ok_fewest (T : Txt K mg) : Cal CX0 P w K mg base 2 "fewest" spFewest :=
  cal_mk T.f_fewest T.g_fewest sc_fewest (fun _ _ _ _ _ _ us hl => match us, hl with | [_], _ => rfl) len1 fun cdv A outer s H vs Q E hr hsp => by
    obtain ⟨a, rfl, m, rfl, hm, hl, q⟩ := hsp
    refine ⟨_, (pss_cons (ps_expr (pe_k (ok_check_marks T) hr (by decide) (by rfl) (pa_cons (pv 0) pa_nil)))
      (pss_cons (ps_ret (pe_k (ok_weighings_for T) hr (by decide) (by rfl) (pa_cons (pe_k (ok_cases_of T) hr (by decide) (by rfl) (pa_cons (pv 0) pa_nil)) pa_nil)))
      pss_nil)), ?_⟩
    exact go_drop (ev_call0 (ea_cons (ev_var rfl) ea_nil) (sv_check_marks hm hl)) (go_ret (ev_call0 (ea_cons (ev_call0 (ea_cons (ev_var rfl) ea_nil) sv_cases_of) ea_nil) sv_weighings_for) q)
theorem sv_fewest {H : Hp} {m : List Nat} (hm : marksB m = true) (hl : m.length ≤ 10000) : SpV spFewest [.str (S m)] H (.int (wf (casesN m) : Nat)) := sv1 fun H1 e Q q => ⟨m, rfl, hm, hl, q⟩
end Od

namespace Od
open PySem PySem.Spec PyProof.Rows L2 SX Evl
variable {P : Program} {w : World} {K : PySem.W.Frag} {mg : Str → Option Value} {base : Heap}
theorem eu_tupOf {σ : L2.St} {H : Hp} {ta : TE} {xs : List V} (ha : EvL ta σ H xs) : EvU (tCB (rTupOf K) (tCons ta tNil)) σ H xs := fun H1 e Q q => ha H1 e _ fun p H2 hp e2 h2 => ⟨p, xs, rfl, sq_of h2, fun l hl => q l _ (fresh_back e2 hl) (e2.trans (Ex.new hl)) upd_same⟩
/-! ### judged -/
def spJudged (K : PySem.W.Frag) : Sp := S3 fun a b d H Q => ∃ (m : List Nat) (l r : List Int), a = .str (S m) ∧ marksB m = true ∧ m.length ≤ 10000 ∧ WPair K H m.length b d l r ∧ NewU ((outs.map fun o => ((manyN m l r o : Nat) : Int)).map V.int) H Q
theorem ok_judged (T : Txt K mg) : Cal CX0 P w K mg base 5 "judged" (spJudged K) :=
  cal_mk T.f_judged T.g_judged sc_judged (fun _ _ _ _ _ _ us hl => match us, hl with | [_, _, _], _ => rfl) len3 fun cdv A outer s H vs Q E hr hsp => by
    obtain ⟨a, b, d, rfl, m, l, r, rfl, hm, hl, hw, q⟩ := hsp
    refine ⟨_, (pss_cons (ps_expr (pe_k (ok_check_marks T) hr (by decide) (by rfl) (pa_cons (pv 0) pa_nil)))
      (pss_cons (ps_expr (pe_k (ok_check_weighing T) hr (by decide) (by rfl) (pa_cons (pe_callB call_lenT (by rfl) T.n_len (by decide +kernel) (pa_cons (pv 0) pa_nil)) (pa_cons (pv 1) (pa_cons (pv 2) pa_nil)))))
      (pss_cons (ps_ret (pe_callTy call_tupOf (by rfl) T.n_tuple (by decide +kernel) (pa_cons (pe_lc (own := [("outcome", 3)]) rfl sc_judged.nd (pi_list (pe_gR T.g_OUTCOMES)) (blkOk_by (own := [("outcome", 3)]) (N := ["marks", "left", "right", "outcome"]) (sc := defScope s_judged) (by decide +kernel)) (fun _ _ _ _ _ => (pg_name (i := 3) sc_judged.nd rfl (Or.inl rfl))) (fun _ _ _ _ _ => pts_nil) (fun _ _ _ _ _ => (pe_k (ok_many_behind T) hr (by decide) (by rfl) (pa_cons (pv 0) (pa_cons (pv 1) (pa_cons (pv 2) (pa_cons (pv 3) pa_nil))))))) pa_nil)))
      pss_nil))), ?_⟩
    refine go_drop (ev_call0 (ea_cons (ev_var rfl) ea_nil) (sv_check_marks hm hl)) ?_
    refine go_drop (ev_call0 (ea_cons (ev_lenT (ev_var rfl) (by omega)) (ea_cons (ev_var rfl) (ea_cons (ev_var rfl) ea_nil))) (sv_check_weighing hw)) ?_
    refine go_retU (eu_tupOf (xs := (outs.map fun o => ((manyN m l r o : Nat) : Int)).map V.int) ?_) q
    rw [List.map_map]
    exact el_mapL outs (fun o => V.str (S o)) (fun o => V.int (manyN m l r o : Nat)) [] ev_c (outs_at T H) (by decide) (fun _ => rfl) fun o _ => ev_call0 (ea_cons (ev_var rfl) (ea_cons (ev_var rfl) (ea_cons (ev_var rfl) (ea_cons (ev_var rfl) ea_nil)))) (sv_many_behind hw.pair hl)
theorem eu_judged {σ : L2.St} {H : Hp} {tr : TA} {m : List Nat} {b d : V} {l r : List Int} {E : XK} (h : EvA tr σ H [.str (S m), b, d]) (hm : marksB m = true) (hl : m.length ≤ 10000) (hw : WPair K H m.length b d l r) : EvU (tCall (spJudged K) [] E tr) σ H ((outs.map fun o => ((manyN m l r o : Nat) : Int)).map V.int) := fun H1 e Q q =>
  h H1 e _ fun H2 e2 => ⟨_, _, _, rfl, m, l, r, rfl, hm, hl, hw.mono (e.trans e2), fun p hp H3 e3 => q p H3 (fresh_back e2 hp) ((e2.trans (Ex.new hp)).trans e3) (e3 _ _ upd_same)⟩
theorem shaped_tup (ns : List Int) : SeqAt.shaped (.tuple (ns.map PyData.int)) = true := by
  unfold SeqAt.shaped
  rw [Bool.and_eq_true]
  refine ⟨?_, ?_⟩
  · unfold PyData.canLay0
    exact lay_ints ns
  · simp [PyData.depth, depth_ints ns]
theorem eqv_tup (ns : List Int) : PyData.eqv (.tuple (ns.map PyData.int)) (.tuple (ns.map PyData.int)) = true := by
  unfold PyData.eqv
  rw [eqv_intsAll, decide_eq_true rfl]
theorem ev_eqUU {σ : L2.St} {H : Hp} {ta tb : TE} {ns : List Int} (h1 : EvU ta σ H (ns.map V.int)) (h2 : EvU tb σ H (ns.map V.int)) : Ev (tOp (rEqD K) ta tb) σ H (.bl true) := fun H1 e Q q => h1 H1 e _ fun p H2 hp e2 k2 => h2 H2 (e.trans e2) _ fun p' H3 hp' e3 k3 =>
  ⟨.tuple (ns.map PyData.int), .tuple (ns.map PyData.int), .tup (st_of (e3 _ _ k2)) (dpAll_ints ns), .tup (st_of k3) (dpAll_ints ns), shaped_tup ns, shaped_tup ns, by rw [eqv_tup]; exact q H3 (e2.trans e3)⟩
theorem wp_nil6 {H : Hp} {p q : Addr} (hp : H p = some (.lst [])) (hq : H q = some (.lst [])) : WPair K H ([] : List Nat).length (.ref p) (.ref q) [] [] := ⟨⟨p, rfl, sq_of hp⟩, ⟨q, rfl, sq_of hq⟩, rfl, by simp, by simp⟩
theorem eu_judged0 {σ : L2.St} {H : Hp} {te : TE} {E : XK} (h1 : Ev te σ H (.str (S []))) : EvU (tCall (spJudged K) [] E (tCons te (tCons (tLst tNil) (tCons (tLst tNil) tNil)))) σ H ([(0 : Int), 0, 1].map V.int) := by
  intro H1 e Q q
  have nl : EvL (tLst tNil) σ H [] := el_lst (vs := []) ea_nil (by simp)
  have eo : (outs.map fun o => ((manyN [] [] [] o : Nat) : Int)) = [0, 0, 1] := by decide +kernel
  refine h1 H1 e _ fun H2 e2 => ?_
  refine nl H2 (e.trans e2) _ fun a H3 ha e3 h3 => ?_
  refine nl H3 ((e.trans e2).trans e3) _ fun b H4 hb e4 h4 => ?_
  refine ⟨_, _, _, rfl, [], [], [], rfl, rfl, by simp, wp_nil6 (e4 _ _ h3) h4, ?_⟩
  rw [eo]
  exact fun p hp H5 e5 => q p H5 (fresh_back ((e2.trans e3).trans e4) hp) ((((e2.trans e3).trans e4).trans (Ex.new hp)).trans e5) (e5 _ _ upd_same)
/-! ### written, of two lists -/
def nines : List Nat := [57, 57, 57, 57, 57, 57, 57, 57, 57]
def spWritten0 : Sp := S2 fun a b H Q => ∃ p1 p2, a = .ref p1 ∧ b = .ref p2 ∧ H p1 = some (.lst [.int 0]) ∧ H p2 = some (.lst [.int 999999999]) ∧ Go H (Q (.str (S ([48, 32, 124, 32] ++ nines))))
theorem el_str1 {σ : L2.St} {H : Hp} {tl : TE} {i : Int} {m : List Nat} {p : Addr} {j : Nat} (hm : (toString i : Str) = S m) (hi : i.natAbs.log2 < 1920) (h : Ev tl σ H (.ref p)) (hp : H p = some (.lst [.int i])) (hw : ∀ x, wipe ((wipe σ [j]).set j (some x)) [j] = wipe σ [j]) (hv : ((wipe σ [j]).set j (some (.int i)))[j]? = some (some (.int i))) :
    EvL (tLc (iList K tl) (gName j) tYes (tCB rStrI2 (tCons (tVar j) tNil)) [j]) σ H ([m].map fun y => .str (S y)) :=
  el_mapL [i] V.int (fun _ => .str (S m)) 0 h (sq_of hp) (by simp) hw fun x hx => by
    rw [List.mem_singleton.mp hx]
    exact ev_is (ev_strI (ev_var hv) hi) (by rw [hm])
theorem ok_written (T : Txt K mg) : Cal CX0 P w K mg base 4 "written" spWritten0 :=
  cal_mk T.f_written T.g_written sc_written (fun _ _ _ _ _ _ us hl => match us, hl with | [_, _], _ => rfl) len2 fun cdv A outer s H vs Q E hr hsp => by
    obtain ⟨a, b, rfl, p1, p2, rfl, rfl, h1, h2, q⟩ := hsp
    refine ⟨_, (pss_cons (ps_set (i := 2) sc_written.nd rfl (Or.inl rfl) (pe_k (ok_greatest T) hr (by decide) (by rfl) (pa_cons (pv 0) (pa_cons (pv 1) pa_nil))))
      (pss_cons (ps_if (PW.pt (pw_or (pt_cmpR op_geI (pv 2) (pe_gI T.c_MOST) (nomark _)) (pw_or1 (pt_not (pt_val (pe_k (ok_is_weighing T) hr (by decide) (by rfl) (pa_cons (pv 2) (pa_cons (pv 0) (pa_cons (pv 1) pa_nil))))))))) (pss_cons ps_never
      pss_nil) pss_nil)
      (pss_cons (ps_if (pt_cmpR (op_eqDK K hr.units) (pv 0) (pe_lst pa_nil) (nomark _)) (pss_cons (ps_ret (pe_strS k__2d_))
      pss_nil) pss_nil)
      (pss_cons (ps_ret (pe_op op_addT (pe_op op_addT (pe_m1 PySem.F.slot_str_join PySem.F.type_str_join mt_joinT (pe_strS k__20_) (pe_lc (own := [("coin", 3)]) rfl sc_written.nd (pi_list (pv 0)) (blkOk_by (own := [("coin", 3)]) (N := ["left", "right", "most", "coin"]) (sc := defScope s_written) (by decide +kernel)) (fun _ _ _ _ _ => (pg_name (i := 3) sc_written.nd rfl (Or.inl rfl))) (fun _ _ _ _ _ => pts_nil) (fun _ _ _ _ _ => (pe_callTy call_strI (by rfl) T.n_str (by decide +kernel) (pa_cons (pv 3) pa_nil))))) (pe_strS k__20__7c__20_)) (pe_m1 PySem.F.slot_str_join PySem.F.type_str_join mt_joinT (pe_strS k__20_) (pe_lc (own := [("coin", 3)]) rfl sc_written.nd (pi_list (pv 1)) (blkOk_by (own := [("coin", 3)]) (N := ["left", "right", "most", "coin"]) (sc := defScope s_written) (by decide +kernel)) (fun _ _ _ _ _ => (pg_name (i := 3) sc_written.nd rfl (Or.inl rfl))) (fun _ _ _ _ _ => pts_nil) (fun _ _ _ _ _ => (pe_callTy call_strI (by rfl) T.n_str (by decide +kernel) (pa_cons (pv 3) pa_nil)))))))
      pss_nil)))), ?_⟩
    have t1 : ThingT K H (.ref p1) (some [.int 0]) := ⟨p1, rfl, h1, rfl, by simp⟩
    have t2 : ThingT K H (.ref p2) (some [.int 999999999]) := ⟨p2, rfl, h2, rfl, by simp⟩
    refine go_asg (v := .int 999999999) (ev_is (ev_call0 (ea_cons (ev_var rfl) (ea_cons (ev_var rfl) ea_nil)) (sv_greatest t1 t2)) rfl) ?_
    refine go_when (b := false) (et_is (et_or (et_test (ev_geI (ev_var rfl) ev_c)) fun _ => et_not (et_B (ev_call0 (ea_cons (ev_var rfl) (ea_cons (ev_var rfl) (ea_cons (ev_var rfl) ea_nil))) (sv_is_weighing t1.thing t2.thing)))) (by rfl)) (fun h => by cases h) (fun _ => ?_)
    refine go_when (b := false) (et_is (et_test (ev_eqRN (xs := [0]) (ys := []) (ev_var rfl) (el_lst ea_nil (by simp)) (sq_of h1))) rfl) (fun h => by cases h) (fun _ => ?_)
    exact go_ret (ev_addT (a := [48, 32, 124, 32]) (b := nines) (ev_addT (a := [48]) (b := [32, 124, 32]) (ev_join (ys := [[48]]) ev_c (el_str1 (by decide +kernel) (by decide) (ev_var rfl) h1 (fun _ => rfl) rfl) (by decide)) ev_c (by decide)) (ev_join (ys := [nines]) ev_c (el_str1 (by decide +kernel) (by decide +kernel) (ev_var rfl) h2 (fun _ => rfl) rfl) (by decide)) (by decide)) q
theorem ev_written0 {σ : L2.St} {H : Hp} {E : XK} {ta tb : TE} (h1 : EvL ta σ H [.int 0]) (h2 : EvL tb σ H [.int 999999999]) : Ev (tCall spWritten0 [] E (tCons ta (tCons tb tNil))) σ H (.str (S ([48, 32, 124, 32] ++ nines))) := fun H1 e Q q => h1 H1 e _ fun p H2 hp e2 k2 => h2 H2 (e.trans e2) _ fun p' H3 hp' e3 k3 =>
  ⟨_, _, rfl, p, p', rfl, rfl, e3 _ _ k2, k3, fun H4 e4 => q H4 ((e2.trans e3).trans e4)⟩
end Od

namespace Od
open PySem PySem.Spec PyProof.Rows L2 SX Evl
variable {P : Program} {w : World} {K : PySem.W.Frag} {mg : Str → Option Value} {base : Heap}
/-! ### law_cell_at, law_draw -/
def spCellAt (K : PySem.W.Frag) : Sp := S2 fun a b H Q => ∃ (p : Addr) (xs : List Int) (k : Nat), a = .ref p ∧ SqL K H p (xs.map V.int) ∧ b = .int (k : Nat) ∧ Go H (Q (.int (xs.getD k 0)))
theorem ok_law_cell_at (T : Txt K mg) : Cal CX0 P w K mg base 1 "_law_cell_at" (spCellAt K) :=
  cal_mk T.f_law_cell_at T.g_law_cell_at sc_law_cell_at (fun _ _ _ _ _ _ us hl => match us, hl with | [_, _], _ => rfl) len2 fun cdv A outer s H vs Q E hr hsp => by
    obtain ⟨a, b, rfl, p, xs, k, rfl, hp, rfl, q⟩ := hsp
    refine ⟨_, (pss_cons (ps_if (pt_cmpR op_ltI (pv 1) (pe_callB (call_lenQK K) (by rfl) T.n_len (by decide +kernel) (pa_cons (pv 0) pa_nil)) (nomark _)) (pss_cons (ps_ret (pe_ix (ix_listK K) (pv 0) (pv 1) (fun _ _ => rfl)))
      pss_nil) pss_nil)
      (pss_cons (ps_ret pe_int)
      pss_nil)), ?_⟩
    refine go_when (et_test (ev_ltI (ev_var rfl) (ev_lenQ (ev_var rfl) hp))) (fun hb => ?_) (fun hb => ?_)
    · have h := of_decide_eq_true hb
      rw [List.length_map] at h
      have h2 : k < xs.length := by omega
      refine go_ret (ev_ixL (n := k) (ev_var rfl) (ev_var rfl) hp ?_) q
      rw [List.getElem?_map, List.getElem?_eq_getElem h2, List.getD_eq_getElem?_getD, List.getElem?_eq_getElem h2]
      rfl
    · have h := of_decide_eq_false hb
      rw [List.length_map] at h
      have e : xs.getD k 0 = 0 := by rw [List.getD_eq_getElem?_getD, List.getElem?_eq_none (by omega)]; rfl
      rw [e] at q
      exact go_ret ev_c q
theorem sv_cell_at {H : Hp} {p : Addr} {xs : List Int} {k : Nat} (h : SqL K H p (xs.map V.int)) : SpV (spCellAt K) [.ref p, .int (k : Nat)] H (.int (xs.getD k 0)) := sv2 fun H1 e Q q => ⟨p, xs, k, rfl, ex_l e h, rfl, q⟩
def spDraw : Sp := S3 fun a b c H Q => ∃ (x : Int) (k : Nat) (many : Int), a = .int x ∧ b = .int (k : Nat) ∧ c = .int many ∧ 0 < many ∧ Go H (Q (.int (drawI x k many)))
theorem ok_law_draw (T : Txt K mg) : Cal CX0 P w K mg base 1 "_law_draw" spDraw :=
  cal_mk T.f_law_draw T.g_law_draw sc_law_draw (fun _ _ _ _ _ _ us hl => match us, hl with | [_, _, _], _ => rfl) len3 fun cdv A outer s H vs Q E hr hsp => by
    obtain ⟨a, b, c, rfl, x, k, many, rfl, rfl, rfl, hm, q⟩ := hsp
    refine ⟨_, (pss_cons (ps_set (i := 3) sc_law_draw.nd rfl (Or.inl rfl) (pe_tup (pa_cons pe_int (pa_cons pe_int (pa_cons pe_int (pa_cons pe_int (pa_cons pe_int (pa_cons pe_int (pa_cons pe_int (pa_cons pe_int (pa_cons pe_int (pa_cons pe_int (pa_cons pe_int (pa_cons pe_int (pa_cons pe_int (pa_cons pe_int (pa_cons pe_int (pa_cons pe_int pa_nil))))))))))))))))))
      (pss_cons (ps_ret (pe_op op_modI (pe_op op_modI (pe_op op_addI (pe_op op_mulI (pv 0) pe_int) (pe_op op_mulI (pv 1) pe_int)) (pe_ix (ix_tupK K) (pv 3) (pe_op op_modI (pv 1) pe_int) (fun _ _ => rfl))) (pv 2)))
      pss_nil)), ?_⟩
    refine go_asgU (xs := primes.map V.int) (eu_tup (ea_cons ev_c (ea_cons ev_c (ea_cons ev_c (ea_cons ev_c (ea_cons ev_c (ea_cons ev_c (ea_cons ev_c (ea_cons ev_c (ea_cons ev_c (ea_cons ev_c (ea_cons ev_c (ea_cons ev_c (ea_cons ev_c (ea_cons ev_c (ea_cons ev_c (ea_cons ev_c ea_nil)))))))))))))))) (by decide)) fun p hp => ?_
    have hk : k % 16 < 16 := Nat.mod_lt _ (by decide)
    refine go_ret (ev_modI (ev_modI (ev_addI (ev_mulI (ev_var rfl) ev_c (.inr ⟨by decide, by decide⟩)) (ev_mulI (ev_var rfl) ev_c (.inr ⟨by decide, by decide⟩))) (ev_ixT (n := k % 16) (ev_var rfl) (ev_is (ev_modI (ev_var rfl) ev_c (by decide)) (by congr 1)) (st_of upd_same) (primes_at _ hk)) (primes_pos _ hk)) (ev_var rfl) hm) (q.mono (Ex.new hp))
theorem sv_draw {H : Hp} {x : Int} {k : Nat} {many : Int} (h : 0 < many) : SpV spDraw [.int x, .int (k : Nat), .int many] H (.int (drawI x k many)) := sv3 fun H1 e Q q => ⟨x, k, many, rfl, rfl, rfl, h, q⟩
end Od

namespace Od
open PySem PySem.Spec PyProof.Rows L2 SX Evl
variable {P : Program} {w : World} {K : PySem.W.Frag} {mg : Str → Option Value} {base : Heap}
/-! ### law_marks -/
def tabS : List (List Nat) := [[101, 101, 101, 103], [104, 108, 103], [104, 104, 104, 108], [101, 103], [103, 103, 103, 108]]
def kindI (xs : List Int) : Nat := (drawI (xs.getD 0 0) 6 5).toNat
def signsL (xs : List Int) : List Nat := tabS.getD (kindI xs) []
def markAt (xs : List Int) (k : Nat) : Nat := (signsL xs).getD (drawI (xs.getD k 0) (k % 5 + 1) ((signsL xs).length : Nat)).toNat 0
def marksL (xs : List Int) : List Nat := (List.range xs.length).map fun k => markAt xs k
theorem kind_lt (xs : List Int) : kindI xs < 5 := by
  have a := draw_0 (c := xs.getD 0 0) (k := 6) (many := 5) (by decide)
  have b := draw_lt (c := xs.getD 0 0) (k := 6) (many := 5) (by decide)
  unfold kindI
  omega
theorem tab_at : ∀ i, i < 5 → 0 < (tabS.getD i []).length ∧ (tabS.getD i []).length ≤ 4 ∧ (∀ c ∈ tabS.getD i [], c = 101 ∨ c = 104 ∨ c = 108 ∨ c = 103) ∧ (101 ∈ tabS.getD i [] → ¬ 104 ∈ tabS.getD i [] ∧ ¬ 108 ∈ tabS.getD i []) := by decide
theorem marks_len (xs : List Int) : (marksL xs).length = xs.length := by
  unfold marksL
  rw [List.length_map, List.length_range]
theorem mark_mem (xs : List Int) (k : Nat) : markAt xs k ∈ signsL xs := by
  have h := (tab_at _ (kind_lt xs)).1
  have a := draw_0 (c := xs.getD k 0) (k := k % 5 + 1) (many := ((signsL xs).length : Nat)) (by unfold signsL; omega)
  have b := draw_lt (c := xs.getD k 0) (k := k % 5 + 1) (many := ((signsL xs).length : Nat)) (by unfold signsL; omega)
  exact get_mem (by omega)
theorem marks_ok (xs : List Int) : marksB (marksL xs) = true := by
  obtain ⟨_, _, h1, h2⟩ := tab_at _ (kind_lt xs)
  have sub : ∀ c ∈ marksL xs, c ∈ signsL xs := fun c hc => by
    obtain ⟨k, _, rfl⟩ := List.mem_map.mp hc
    exact mark_mem xs k
  exact marks_mk (fun c hc => h1 c (sub c hc)) fun h => ⟨fun q => (h2 (sub _ h)).1 (sub _ q), fun q => (h2 (sub _ h)).2 (sub _ q)⟩
def spLawMarks (K : PySem.W.Frag) : Sp := S1 fun a H Q => ∃ (p : Addr) (xs : List Int), a = .ref p ∧ SqL K H p (xs.map V.int) ∧ xs.length ≤ 1000 ∧ Go H (Q (.str (S (marksL xs))))
theorem ok_law_marks (T : Txt K mg) : Cal CX0 P w K mg base 2 "_law_marks" (spLawMarks K) :=
  cal_mk T.f_law_marks T.g_law_marks sc_law_marks (fun _ _ _ _ _ _ us hl => match us, hl with | [_], _ => rfl) len1 fun cdv A outer s H vs Q E hr hsp => by
    obtain ⟨a, rfl, p, xs, rfl, hp, hl, q⟩ := hsp
    refine ⟨_, (pss_cons (ps_set (i := 1) sc_law_marks.nd rfl (Or.inl rfl) (pe_k (ok_law_draw T) hr (by decide) (by rfl) (pa_cons (pe_k (ok_law_cell_at T) hr (by decide) (by rfl) (pa_cons (pv 0) (pa_cons pe_int pa_nil))) (pa_cons pe_int (pa_cons pe_int pa_nil)))))
      (pss_cons (ps_set (i := 2) sc_law_marks.nd rfl (Or.inr rfl) (pe_ix (ix_tupK K) (pe_tup (pa_cons (pe_strS k_eeeg) (pa_cons (pe_strS k_hlg) (pa_cons (pe_strS k_hhhl) (pa_cons (pe_strS k_eg) (pa_cons (pe_strS k_gggl) pa_nil)))))) (pv 1) (fun _ _ => rfl)))
      (pss_cons (ps_ret (pe_m1 PySem.F.slot_str_join PySem.F.type_str_join mt_joinT (pe_strS k_empty) (pe_lc (own := [("_law_k", 3)]) rfl sc_law_marks.nd (pi_range1 (by rfl) T.n_range (pa_cons (pe_callB (call_lenQK K) (by rfl) T.n_len (by decide +kernel) (pa_cons (pv 0) pa_nil)) pa_nil)) (blkOk_by (own := [("_law_k", 3)]) (N := ["_law_script", "_law_kind", "_law_signs", "_law_k"]) (sc := defScope s_law_marks) (by decide +kernel)) (fun _ _ _ _ _ => (pg_name (i := 3) sc_law_marks.nd rfl (Or.inl rfl))) (fun _ _ _ _ _ => pts_nil) (fun _ _ _ _ _ => (pe_ix ix_str (pv 2) (pe_k (ok_law_draw T) hr (by decide) (by rfl) (pa_cons (pe_ix (ix_listK K) (pv 0) (pv 3) (fun _ _ => rfl)) (pa_cons (pe_op op_addI (pe_op op_modI (pv 3) pe_int) pe_int) (pa_cons (pe_callB call_lenT (by rfl) T.n_len (by decide +kernel) (pa_cons (pv 2) pa_nil)) pa_nil)))) (fun _ _ => rfl))))))
      pss_nil))), ?_⟩
    have ek : drawI (xs.getD 0 0) 6 5 = ((kindI xs : Nat) : Int) := by
      have a := draw_0 (c := xs.getD 0 0) (k := 6) (many := 5) (by decide)
      unfold kindI
      omega
    obtain ⟨h0, h4, _⟩ := tab_at _ (kind_lt xs)
    refine go_asg (ev_is (ev_call0 (ea_cons (ev_call0 (ea_cons (ev_var rfl) (ea_cons ev_c ea_nil)) (sv_cell_at (k := 0) hp)) (ea_cons ev_c (ea_cons ev_c ea_nil))) (sv_draw (k := 6) (by decide))) (by rw [ek])) ?_
    refine go_asg (v := .str (S (signsL xs))) (ev_ixU (xs := tabS.map fun t => .str (S t)) (n := kindI xs) (eu_tup (ea_cons ev_c (ea_cons ev_c (ea_cons ev_c (ea_cons ev_c (ea_cons ev_c ea_nil))))) (by decide)) (ev_var rfl) ?_) ?_
    · rw [List.getElem?_map]
      unfold signsL
      have hk := kind_lt xs
      rw [List.getD_eq_getElem?_getD, List.getElem?_eq_getElem (by exact hk)]
      rfl
    · have ml : (marksL xs).length ≤ 1000 := by rw [marks_len]; exact hl
      refine go_ret (ev_joinOne (List.range xs.length) (markAt xs) ev_c ?_ (by rw [List.length_range]; omega)) q
      refine el_mapR (fun k => V.str (S [markAt xs k])) (ea_cons (ev_is (ev_lenQ (ev_var rfl) hp) (by rw [List.length_map])) ea_nil) (by omega) (fun _ => rfl) fun k hk => ?_
      have hs : 0 < ((signsL xs).length : Nat) := h0
      have a := draw_0 (c := xs.getD k 0) (k := k % 5 + 1) (many := ((signsL xs).length : Nat)) (by omega)
      have b := draw_lt (c := xs.getD k 0) (k := k % 5 + 1) (many := ((signsL xs).length : Nat)) (by omega)
      have hs4 : (signsL xs).length ≤ 4 := h4
      refine ev_ixS (n := (drawI (xs.getD k 0) (k % 5 + 1) ((signsL xs).length : Nat)).toNat) (ev_var rfl) (ev_is (ev_call0 (ea_cons (ev_ixL (n := k) (v := .int (xs.getD k 0)) (ev_var rfl) (ev_var rfl) hp ?_) (ea_cons (ev_is (ev_addI (ev_modI (ev_var rfl) ev_c (by decide)) ev_c) (w := .int ((k % 5 + 1 : Nat) : Int)) (by congr 1)) (ea_cons (ev_lenT (ev_var rfl) (by omega)) ea_nil))) (sv_draw (by omega))) ?_) (by omega) (by omega)
      · rw [List.getElem?_map, List.getElem?_eq_getElem hk, List.getD_eq_getElem?_getD, List.getElem?_eq_getElem hk]
        rfl
      · congr 1
        omega
theorem sv_law_marks {H : Hp} {p : Addr} {xs : List Int} (h : SqL K H p (xs.map V.int)) (hl : xs.length ≤ 1000) : SpV (spLawMarks K) [.ref p] H (.str (S (marksL xs))) := sv1 fun H1 e Q q => ⟨p, xs, rfl, ex_l e h, hl, q⟩
/-! ### law_cases -/
theorem ok_law_cases (T : Txt K mg) : Cal CX0 P w K mg base 1 "_law_cases" spCasesOf :=
  cal_mk T.f_law_cases T.g_law_cases sc_law_cases (fun _ _ _ _ _ _ us hl => match us, hl with | [_], _ => rfl) len1 fun cdv A outer s H vs Q E hr hsp => by
    obtain ⟨a, rfl, m, rfl, q⟩ := hsp
    refine ⟨_, (pss_cons (ps_set (i := 1) sc_law_cases.nd rfl (Or.inl rfl) (pe_op op_addI (pe_op op_addI (pe_op op_mulI pe_int (pe_m1 PySem.F.slot_str_count PySem.F.type_str_count mt_countT (pv 0) (pe_strS k_e))) (pe_m1 PySem.F.slot_str_count PySem.F.type_str_count mt_countT (pv 0) (pe_strS k_h))) (pe_m1 PySem.F.slot_str_count PySem.F.type_str_count mt_countT (pv 0) (pe_strS k_l))))
      (pss_cons (ps_ret (pe_ifExp (PW.pt (pw_or (pt_cmpR op_inT (pe_strS k_h) (pv 0) rfl) (pw_or1 (pt_cmpR op_inT (pe_strS k_l) (pv 0) rfl)))) (pv 1) (pe_op op_addI (pv 1) pe_int)))
      pss_nil)), ?_⟩
    refine go_asg (ev_addI (ev_addI (ev_mulI ev_c (ev_countT (ev_var rfl) ev_c) (cmul_l (by decide) (by decide))) (ev_countT (ev_var rfl) ev_c)) (ev_countT (ev_var rfl) ev_c)) ?_
    refine go_ret (ev_if (b := tiltB m) (et_or (et_test (ev_inT ev_c (ev_var rfl))) fun _ => et_test (ev_inT ev_c (ev_var rfl))) (fun hb => ?_) (fun hb => ?_)) q
    · refine ev_is (ev_var rfl) ?_
      unfold casesN
      rw [hb]
      simp
    · refine ev_is (ev_addI (ev_var rfl) ev_c) ?_
      unfold casesN
      rw [hb]
      simp
theorem sv_law_cases {H : Hp} {m : List Nat} : SpV spCasesOf [.str (S m)] H (.int (casesN m : Nat)) := sv_cases_of
/-! ### law_power -/
def spLawPower : Sp := S1 fun a H Q => ∃ n : Nat, a = .int (n : Nat) ∧ n ≤ 1000 ∧ Go H (Q (.int ((3 ^ n : Nat) : Nat)))
theorem ok_law_power (T : Txt K mg) : Cal CX0 P w K mg base 1 "_law_power" spLawPower :=
  cal_mk T.f_law_power T.g_law_power sc_law_power (fun _ _ _ _ _ _ us hl => match us, hl with | [_], _ => rfl) len1 fun cdv A outer s H vs Q E hr hsp => by
    obtain ⟨a, rfl, n, rfl, hn, q⟩ := hsp
    refine ⟨_, (pss_cons (ps_set (i := 1) sc_law_power.nd rfl (Or.inl rfl) pe_int)
      (pss_cons (ps_for PassesOwn.never rfl (pi_range1 (by rfl) T.n_range (pa_cons (pv 0) pa_nil)) (pg_name (i := 2) sc_law_power.nd rfl (Or.inl rfl)) (pss_cons (ps_set (i := 1) sc_law_power.nd rfl (Or.inl rfl) (pe_op op_mulI pe_int (pv 1)))
      pss_nil))
      (pss_cons (ps_ret (pv 1))
      pss_nil))), ?_⟩
    refine go_asg ev_c ?_
    refine go_forR (fun i σ Hk => (∃ z, σ = [some (.int (n : Nat)), some (.int ((3 ^ i : Nat) : Nat)), z]) ∧ Hk = H) (ea_cons (ev_var rfl) ea_nil) (by omega) ⟨⟨_, rfl⟩, rfl⟩ ?_ ?_
    · rintro i σ Hk hi ⟨⟨z, rfl⟩, rfl⟩
      refine go_asg (ev_mulI ev_c (ev_var rfl) (cmul_l (by decide) (by decide))) (go_up rfl ?_)
      refine ⟨⟨some (.int (i : Nat)), ?_⟩, rfl⟩
      have e : 3 * (((3 ^ i : Nat) : Nat) : Int) = ((3 ^ (i + 1) : Nat) : Int) := by
        rw [Nat.pow_succ]
        omega
      show [some (V.int (n : Nat)), some (V.int (3 * (((3 ^ i : Nat) : Nat) : Int))), some (V.int (i : Nat))] = _
      rw [e]
    · rintro σ Hk ⟨⟨z, rfl⟩, rfl⟩
      exact go_ret (ev_var rfl) q
theorem sv_law_power {H : Hp} {n : Nat} (hn : n ≤ 1000) : SpV spLawPower [.int (n : Nat)] H (.int ((3 ^ n : Nat) : Nat)) := sv1 fun H1 e Q q => ⟨n, rfl, hn, q⟩
/-! ### law_whole -/
theorem ok_law_whole (T : Txt K mg) : Cal CX0 P w K mg base 1 "_law_whole" (spIsWhole K) :=
  cal_mk T.f_law_whole T.g_law_whole sc_law_whole (fun _ _ _ _ _ _ us hl => match us, hl with | [_], _ => rfl) len1 fun cdv A outer s H vs Q E hr hsp => by
    obtain ⟨a, rfl, t, ki, kb, ht, h1, h2, q⟩ := hsp
    refine ⟨_, (pss_cons (ps_ret (pe_and (pe_callB (call_isiK2 K) (by rfl) T.n_isinstance (by decide +kernel) (pa_cons (pv 0) (pa_cons (pe_gTy (n := "int") T.n_int) pa_nil))) (pe_one (pe_not (pe_callB (call_isiK2 K) (by rfl) T.n_isinstance (by decide +kernel) (pa_cons (pv 0) (pa_cons (pe_gTy (n := "bool") T.n_bool) pa_nil)))))))
      pss_nil), ?_⟩
    exact go_ret (ev_andV (ev_isT (ev_var rfl) ev_c (.ty _) ht h1) fun _ => ev_notV (ev_isT (ev_var rfl) ev_c (.ty _) ht h2)) q
end Od

namespace Od
open PySem PySem.Spec PyProof.Rows L2 SX Evl
variable {P : Program} {w : World} {K : PySem.W.Frag} {mg : Str → Option Value} {base : Heap}
/-! ### law -/
def clAt : Nat → Cl
  | 0 => .marks
  | 1 => .weighing
  | 2 => .outcome
  | 3 => .never
  | _ => .coin
section
variable {σ : L2.St} {H : Hp} {te ta : TE}
theorem bad_ty {v : V} {t : Value} (h : Ev te σ H v) (ht : ∀ H1, TyX K H1 v t) (hk : PySem.W.kitOne K t (.type "str") = some false) : EvR te σ H (BadM K) := er_ev h fun H1 e => .inl ⟨t, ht H1, hk⟩
theorem bad_str {m : List Nat} (h : Ev te σ H (.str (S m))) (hm : marksB m = false) (hl : m.length ≤ 10000) : EvR te σ H (BadM K) := er_ev h fun H1 e => .inr ⟨m, rfl, hm, hl⟩
theorem bad_lst {xs : List V} (h : EvL te σ H xs) : EvR te σ H (BadM K) := er_lst h fun p H1 e hp => .inl ⟨_, tyx_sql (sq_of hp), kit_ty (by decide +kernel)⟩
theorem bad_tup {xs : List V} (h : EvU te σ H xs) : EvR te σ H (BadM K) := fun H1 e Q q => h H1 e _ fun p H2 hp e2 h2 => q (.ref p) H2 e2 (.inl ⟨_, tyx_sqt (st_of h2), kit_ty (by decide +kernel)⟩)
theorem bo_ty {v : V} {t : Value} (h : Ev te σ H v) (ht : ∀ H1, TyX K H1 v t) (hk : PySem.W.kitOne K t (.type "str") = some false) : EvR te σ H (BadO K) := er_ev h fun H1 e => .inl ⟨t, ht H1, hk⟩
theorem bo_str {m : List Nat} (h : Ev te σ H (.str (S m))) (hm : m ∉ outs) : EvR te σ H (BadO K) := er_ev h fun H1 e => .inr ⟨m, rfl, hm⟩
theorem bo_lst {xs : List V} (h : EvL te σ H xs) : EvR te σ H (BadO K) := er_lst h fun p H1 e hp => .inl ⟨_, tyx_sql (sq_of hp), kit_ty (by decide +kernel)⟩
end
theorem marks_not {m : List Nat} (h : ¬ ((∀ c ∈ m, c = 101 ∨ c = 104 ∨ c = 108 ∨ c = 103) ∧ (101 ∈ m → ¬ 104 ∈ m ∧ ¬ 108 ∈ m))) : marksB m = false := by
  cases e : marksB m with
  | false => rfl
  | true => exact absurd (marks_un e) h
theorem bad_el (m : List Nat) : marksB (m ++ [101, 108]) = false := marks_not fun h => (h.2 (by simp)).2 (by simp)
theorem bad_q (a b : List Nat) : marksB (a ++ [63] ++ b) = false := marks_not fun h => by
  have := h.1 63 (by simp)
  omega
theorem whole_not {v : V} {t : Value} {H : Hp} (h : TyX K H v t) (h1 : PySem.W.kitOne K t (.type "int") = some false) {kb : Bool} (h2 : PySem.W.kitOne K t (.type "bool") = some kb) : WholeIs K v false H := ⟨t, false, kb, h, h1, h2, rfl⟩
theorem whole_bool {b : Bool} {H : Hp} : WholeIs K (.bl b) false H := ⟨_, true, true, .base (.bl b), kit_ty (by decide +kernel), kit_ty (by decide +kernel), rfl⟩
theorem whole_non {H : Hp} : WholeIs K .non false H := whole_not (.base .non) (kit_ty (by decide +kernel)) (kb := false) (kit_ty (by decide +kernel))
theorem whole_str {m : List Nat} {H : Hp} : WholeIs K (.str (S m)) false H := whole_not (.base (.str _)) (kit_ty (by decide +kernel)) (kb := false) (kit_ty (by decide +kernel))
theorem whole_lst {p : Addr} {xs : List V} {H : Hp} (h : H p = some (.lst xs)) : WholeIs K (.ref p) false H := whole_not (tyx_sql (sq_of h)) (kit_ty (by decide +kernel)) (kb := false) (kit_ty (by decide +kernel))
def NevO (m : List Nat) (v : V) (_ : Hp) : Prop := ∃ o, v = .str (S o) ∧ o ∈ outs ∧ manyN m [] [] o = 0
theorem many_nil (m : List Nat) (o : List Nat) (h : o ≠ tEven) : manyN m [] [] o = 0 := by
  have e : behindL m [] [] o = (List.range m.length).map fun _ => 103 := by
    unfold behindL
    refine List.map_congr_left fun i _ => ?_
    unfold leftover sideOf
    rw [if_neg h]
    simp
  unfold manyN
  rw [e, decide_eq_false h]
  simp [List.map_const', List.count_replicate]
def spLaw (K : PySem.W.Frag) : Sp := S1 fun a H Q => ∃ (p : Addr) (xs : List Int), a = .ref p ∧ SqL K H p (xs.map V.int) ∧ xs.length ≤ 63 ∧ Go H (Q (.bl true))
theorem bd_law (T : Txt K mg) : BodyOk P w K mg base 12 "law" s_law (He.ga K "law") ["_law_script", "_law_far", "_law_due", "_law_k", "_law_marks_here", "_law_coins", "_law_at", "_law_bad", "_law_door", "_law_thing"] (spLaw K) := fun cdv A outer s H vs Q E hr hsp => by
    obtain ⟨a, rfl, p, xs, rfl, hp, hl, q⟩ := hsp
    refine ⟨_, (pss_cons (ps_set (i := 1) sc_law.nd rfl (Or.inl rfl) (pe_op op_modI (pe_k (ok_law_cell_at T) hr (by decide) (by rfl) (pa_cons (pv 0) (pa_cons pe_int pa_nil))) (pe_op op_pow pe_int pe_int)))
      (pss_cons (ps_set (i := 2) sc_law.nd rfl (Or.inl rfl) (pe_lst pa_nil))
      (pss_cons (ps_for PassesOwn.never rfl (pi_range1 (by rfl) T.n_range (pa_cons pe_int pa_nil)) (pg_name (i := 3) sc_law.nd rfl (Or.inl rfl)) (pss_cons (ps_expr (pe_bm PySem.F.plainAttrs_list PySem.F.slot_list_append PySem.F.type_list_append mt_append (pv 2) (pa_cons (pe_lst (pa_cons (pe_cmpR op_eqI (pv 3) pe_int (nomark _)) (pa_cons (pe_cmpR op_eqI (pv 3) pe_int (nomark _)) (pa_cons (pe_cmpR op_eqI (pv 3) pe_int (nomark _)) (pa_cons (pe_cmpR op_eqI (pv 3) pe_int (nomark _)) (pa_cons (pe_cmpR op_eqI (pv 3) pe_int (nomark _)) (pa_cons pe_bl (pa_cons pe_bl pa_nil)))))))) pa_nil)))
      pss_nil))
      (pss_cons (ps_par (by rfl) sc_law.nd (i := 4) (j := 5) rfl rfl (by decide) rfl rfl (pa_cons (pe_k (ok_law_marks T) hr (by decide) (by rfl) (pa_cons (pv 0) pa_nil)) (pa_cons (pe_callB (call_lenQK K) (by rfl) T.n_len (by decide +kernel) (pa_cons (pv 0) pa_nil)) pa_nil)) (by rfl))
      (pss_cons (ps_set (i := 6) sc_law.nd rfl (Or.inl rfl) (pe_k (ok_law_draw T) hr (by decide) (by rfl) (pa_cons (pe_k (ok_law_cell_at T) hr (by decide) (by rfl) (pa_cons (pv 0) (pa_cons pe_int pa_nil))) (pa_cons pe_int (pa_cons (pe_op op_addI (pv 5) pe_int) pa_nil)))))
      (pss_cons (ps_set (i := 7) sc_law.nd rfl (Or.inl rfl) (pe_lst (pa_cons pe_non (pa_cons pe_int (pa_cons (pe_lst (pa_cons (pe_strS k_e) pa_nil)) (pa_cons (pe_tup (pa_cons (pe_strS k_h) pa_nil)) (pa_cons (pe_strS k_E) (pa_cons (pe_strS k_e_20_h) (pa_cons (pe_strS k_x) (pa_cons (pe_strS k_el) (pa_cons (pe_strS k_he) (pa_cons (pe_strS k_geh) (pa_cons (pe_strS k_e_a_) (pa_cons (pe_strS k__20_) (pa_cons pe_bl (pa_cons (pe_op op_addT (pv 4) (pe_strS k_el)) pa_nil))))))))))))))))
      (pss_cons (ps_for PassesOwn.never rfl (pi_range1 (by rfl) T.n_range (pa_cons pe_int pa_nil)) (pg_name (i := 8) sc_law.nd rfl (Or.inl rfl)) (pss_cons (ps_if (pt_not (pt_val (pe_k (ok_law_all (P := P) (w := w) (base := base) T) hr (by decide) (by rfl) (pa_cons (pe_gR T.g_law_with_marks) (pa_cons (pv 8) (pa_cons (pe_op op_cat (pv 7) (pe_lst (pa_cons (pe_op op_addT (pe_op op_addT (pe_slice C8.sl_txt (pv 4) po_none (po_some (pv 6))) (pe_strS k__3f_)) (pe_slice C8.sl_txt (pv 4) (po_some (pv 6)) po_none)) pa_nil))) (pa_cons (pe_ix (ix_listK K) (pv 2) pe_int (fun _ _ => rfl)) pa_nil))))))) (pss_cons (ps_ret pe_bl)
      pss_nil) pss_nil)
      pss_nil))
      (pss_cons (ps_if (pt_not (pt_val (pe_k (ok_law_weighings_right T) hr (by decide) (by rfl) (pa_cons (pv 4) (pa_cons (pv 5) (pa_cons (pe_ix (ix_listK K) (pv 2) pe_int (fun _ _ => rfl)) (pa_cons (pv 1) pa_nil))))))) (pss_cons (ps_ret pe_bl)
      pss_nil) pss_nil)
      (pss_cons (ps_if (pt_not (pt_val (pe_k (ok_law_all (P := P) (w := w) (base := base) T) hr (by decide) (by rfl) (pa_cons (pe_gR T.g_law_with_outcome) (pa_cons (pv 4) (pa_cons (pe_lst (pa_cons pe_non (pa_cons (pe_strS k_empty) (pa_cons (pe_strS k_Left) (pa_cons (pe_strS k_l) (pa_cons pe_int (pa_cons pe_bl (pa_cons (pe_lst (pa_cons (pe_strS k_left) pa_nil)) (pa_cons (pe_strS k_even_20_) pa_nil))))))))) (pa_cons (pe_ix (ix_listK K) (pv 2) pe_int (fun _ _ => rfl)) pa_nil))))))) (pss_cons (ps_ret pe_bl)
      pss_nil) pss_nil)
      (pss_cons (ps_if (pt_not (pt_val (pe_k (ok_law_all (P := P) (w := w) (base := base) T) hr (by decide) (by rfl) (pa_cons (pe_gR T.g_law_with_outcome) (pa_cons (pv 4) (pa_cons (pe_lst (pa_cons (pe_strS k_left) (pa_cons (pe_strS k_right) pa_nil))) (pa_cons (pe_ix (ix_listK K) (pv 2) pe_int (fun _ _ => rfl)) pa_nil))))))) (pss_cons (ps_ret pe_bl)
      pss_nil) pss_nil)
      (pss_cons (ps_if (pt_not (pt_val (pe_k (ok_law_all (P := P) (w := w) (base := base) T) hr (by decide) (by rfl) (pa_cons (pe_gR T.g_law_with_coins) (pa_cons (pv 5) (pa_cons (pe_lst (pa_cons pe_non (pa_cons (pe_strS k_0) (pa_cons pe_bl (pa_cons (pe_lst (pa_cons pe_int pa_nil)) (pa_cons (pe_un un_negI pe_int) (pa_cons (pe_op op_subI (pe_un un_negI pe_int) (pv 1)) (pa_cons (pv 5) (pa_cons (pe_op op_addI (pv 5) (pv 1)) pa_nil))))))))) (pa_cons (pe_ix (ix_listK K) (pv 2) pe_int (fun _ _ => rfl)) pa_nil))))))) (pss_cons (ps_ret pe_bl)
      pss_nil) pss_nil)
      (pss_cons (ps_if (pt_not (pt_val (pe_k (ok_law_all (P := P) (w := w) (base := base) T) hr (by decide) (by rfl) (pa_cons (pe_gR T.g_law_with_truth) (pa_cons (pv 5) (pa_cons (pe_lst (pa_cons pe_non (pa_cons pe_int (pa_cons pe_int (pa_cons (pe_strS k_heavy) (pa_cons (pe_lst pa_nil) pa_nil)))))) (pa_cons (pe_ix (ix_listK K) (pv 2) pe_int (fun _ _ => rfl)) pa_nil))))))) (pss_cons (ps_ret pe_bl)
      pss_nil) pss_nil)
      (pss_cons (ps_for PassesOwn.never rfl (pi_list (pe_lst (pa_cons pe_non (pa_cons (pe_strS k_3) (pa_cons pe_bl (pa_cons (pe_un un_negI pe_int) (pa_cons (pe_op op_subI (pe_un un_negI pe_int) (pv 1)) (pa_cons (pe_lst (pa_cons pe_int pa_nil)) pa_nil)))))))) (pg_name (i := 9) sc_law.nd rfl (Or.inl rfl)) (pss_cons (ps_if (pt_cmpR (op_neDK K hr.units) (pe_k (ok_law_told (P := P) (w := w) (base := base) T) hr (by decide) (by rfl) (pa_cons (pe_gR T.g_law_with_coins) (pa_cons (pv 9) (pa_cons (pe_un un_negI pe_int) pa_nil)))) (pe_ix (ix_listK K) (pv 2) pe_int (fun _ _ => rfl)) (nomark _)) (pss_cons (ps_ret pe_bl)
      pss_nil) pss_nil)
      pss_nil))
      (pss_cons (ps_ret (pe_and (pe_cmpR (op_eqDK K hr.units) (pe_k (ok_judged T) hr (by decide) (by rfl) (pa_cons (pe_strS k_empty) (pa_cons (pe_lst pa_nil) (pa_cons (pe_lst pa_nil) pa_nil)))) (pe_tup (pa_cons pe_int (pa_cons pe_int (pa_cons pe_int pa_nil)))) (nomark _)) (pe_and (pe_cmpR op_eqI (pe_k (ok_fewest T) hr (by decide) (by rfl) (pa_cons (pe_strS k_empty) pa_nil)) pe_int (nomark _)) (pe_one (pe_cmpR op_eqT (pe_k (ok_written T) hr (by decide) (by rfl) (pa_cons (pe_lst (pa_cons pe_int pa_nil)) (pa_cons (pe_lst (pa_cons pe_int pa_nil)) pa_nil))) (pe_strS k_0_20__7c__20_999999999) (nomark _))))))
      pss_nil)))))))))))))), ?_⟩
    obtain ⟨far, hfar⟩ : ∃ far : Nat, xs.getD 0 0 % 1000000 = ((far : Nat) : Int) := ⟨(xs.getD 0 0 % 1000000).toNat, by omega⟩
    refine go_asg (v := .int (far : Nat)) (ev_is (ev_modI (ev_call0 (ea_cons (ev_var rfl) (ea_cons (ev_c (v := .int ((0 : Nat) : Int))) ea_nil)) (sv_cell_at hp)) (ev_op ev_c ev_c (rv_I (C := CPow) (i := 10) (j := 6) ⟨by decide, by decide, by decide⟩)) (by decide)) (by rw [← hfar] <;> rfl)) ?_
    refine go_asgL (xs := []) (el_lst ea_nil (by simp)) fun pd fd => ?_
    refine go_forR (n := 5) (fun i σ Hk => (∃ y, σ = [some (.ref p), some (.int (far : Nat)), some (.ref pd), y, none, none, none, none, none, none]) ∧ (∃ qs : List Addr, qs.length = i ∧ Hk pd = some (.lst (qs.map V.ref)) ∧ ∀ j qa, qs[j]? = some qa → Hk qa = some (.lst ((kindsL (clAt j)).map V.bl))) ∧ Ex H Hk)
      (ea_cons (ev_c (v := .int ((5 : Nat) : Int))) ea_nil) (by decide) ⟨⟨_, rfl⟩, ⟨[], rfl, upd_same, by simp⟩, Ex.new fd⟩ ?_ ?_
    · rintro i σ Hk hi ⟨⟨y, rfl⟩, ⟨qs, hq, h0, hqs⟩, ek⟩
      have ei : [V.bl (decide (((i : Nat) : Int) = 0)), V.bl (decide (((i : Nat) : Int) = 1)), V.bl (decide (((i : Nat) : Int) = 2)), V.bl (decide (((i : Nat) : Int) = 3)), V.bl (decide (((i : Nat) : Int) = 4)), V.bl false, V.bl true] = (kindsL (clAt i)).map V.bl := by
        have : i = 0 ∨ i = 1 ∨ i = 2 ∨ i = 3 ∨ i = 4 := by omega
        rcases this with rfl | rfl | rfl | rfl | rfl <;> rfl
      refine go_appR (R := fun v H => ∃ qa, v = .ref qa ∧ H qa = some (.lst ((kindsL (clAt i)).map V.bl))) h0 (ev_var rfl) (er_lst (el_lst (ea_cons (ev_eqI (ev_var rfl) ev_c) (ea_cons (ev_eqI (ev_var rfl) ev_c) (ea_cons (ev_eqI (ev_var rfl) ev_c) (ea_cons (ev_eqI (ev_var rfl) ev_c) (ea_cons (ev_eqI (ev_var rfl) ev_c) (ea_cons ev_c (ea_cons ev_c ea_nil))))))) (by simp)) fun p H1 e hp => ⟨p, rfl, by rw [← ei]; exact hp⟩) (by simp; omega) ?_
      rintro v H2 e2 ⟨qa, rfl, hqa⟩
      have l7 : ∀ c : Cl, ((kindsL c).map V.bl).length = 7 := fun c => by cases c <;> rfl
      have h2 := e2 _ _ h0
      have ne : ∀ (qb : Addr) (c : Cl), H2 qb = some (.lst ((kindsL c).map V.bl)) → qb ≠ pd := fun qb c hb z => by
        rw [z, h2] at hb
        have := congrArg List.length (HO.lst.inj (Option.some.inj hb))
        rw [l7, List.length_map] at this
        omega
      refine go_next (go_up rfl ⟨⟨_, rfl⟩, ⟨qs ++ [qa], by simp [hq], ?_, ?_⟩, ?_⟩)
      · rw [upd_same, List.map_append] <;> rfl
      · intro j qb hj
        by_cases hlt : j < qs.length
        · rw [List.getElem?_append_left hlt] at hj
          have := e2 _ _ (hqs j qb hj)
          rw [upd_ne (ne _ _ this)]
          exact this
        · rw [List.getElem?_append_right (by omega)] at hj
          have j0 : j - qs.length = 0 := by
            cases hk : j - qs.length with
            | zero => rfl
            | succ n => rw [hk] at hj; simp at hj
          rw [j0] at hj
          obtain rfl : qa = qb := Option.some.inj hj
          obtain rfl : j = i := by omega
          rw [upd_ne (ne _ _ hqa)]
          exact hqa
      · exact fun b u hu => by rw [upd_ne (ne_of_none hu fd)]; exact e2 _ _ (ek _ _ hu)
    · rintro σ Hk ⟨⟨y, rfl⟩, ⟨qs, hq, h0, hqs⟩, ek⟩
      obtain ⟨q0, q1, q2, q3, q4, rfl⟩ : ∃ q0 q1 q2 q3 q4 : Addr, qs = [q0, q1, q2, q3, q4] := by
        match qs, hq with
        | [a, b, c, d, e], _ => exact ⟨a, b, c, d, e, rfl⟩
      have z0 := hqs 0 q0 rfl
      have z1 := hqs 1 q1 rfl
      have z2 := hqs 2 q2 rfl
      have z3 := hqs 3 q3 rfl
      have z4 := hqs 4 q4 rfl
      have mm := marks_ok xs
      have ml := marks_len xs
      refine go_par (v := .str (S (marksL xs))) (w := .int (((marksL xs).length : Nat) : Int)) (ea_cons (ev_call0 (ea_cons (ev_var rfl) ea_nil) (sv_law_marks (ex_l ek hp) (by omega))) (ea_cons (ev_is (ev_lenQ (ev_var rfl) (ex_l ek hp)) (by rw [List.length_map, ml])) ea_nil)) ?_
      generalize marksL xs = mk at *
      have lk : mk.length ≤ 63 := by omega
      obtain ⟨at', hat⟩ : ∃ at' : Nat, drawI (xs.getD 1 0) 3 ((mk.length : Nat) + 1) = ((at' : Nat) : Int) := ⟨(drawI (xs.getD 1 0) 3 ((mk.length : Nat) + 1)).toNat, by have := draw_0 (c := xs.getD 1 0) (k := 3) (many := (mk.length : Nat) + 1) (by omega); omega⟩
      refine go_asg (v := .int (at' : Nat)) (ev_is (ev_call0 (ea_cons (ev_call0 (ea_cons (ev_var rfl) (ea_cons (ev_c (v := .int ((1 : Nat) : Int))) ea_nil)) (sv_cell_at (ex_l ek hp))) (ea_cons (ev_c (v := .int ((3 : Nat) : Int))) (ea_cons (ev_addI (ev_var rfl) ev_c) ea_nil))) (sv_draw (by omega))) (by rw [hat])) ?_
      refine go_asgR (R := ListR (BadM K) 14) (er_lstU badM_mono (eau_cons badM_mono (bad_ty ev_c (fun _ => .base .non) (kit_ty (by decide +kernel))) (eau_cons badM_mono (bad_ty ev_c (fun _ => .base (.int _)) (kit_ty (by decide +kernel))) (eau_cons badM_mono (bad_lst (el_lst (ea_cons ev_c ea_nil) (by simp))) (eau_cons badM_mono (bad_tup (eu_tup (ea_cons ev_c ea_nil) (by simp)))
        (eau_cons badM_mono (bad_str ev_c (by decide) (by decide)) (eau_cons badM_mono (bad_str ev_c (by decide) (by decide)) (eau_cons badM_mono (bad_str ev_c (by decide) (by decide)) (eau_cons badM_mono (bad_str ev_c (by decide) (by decide)) (eau_cons badM_mono (bad_str ev_c (by decide) (by decide)) (eau_cons badM_mono (bad_str ev_c (by decide) (by decide))
        (eau_cons badM_mono (bad_str ev_c (by decide) (by decide)) (eau_cons badM_mono (bad_str ev_c (by decide) (by decide)) (eau_cons badM_mono (bad_ty ev_c (fun _ => .base (.bl _)) (kit_ty (by decide +kernel))) (eau_cons badM_mono (bad_str (ev_addT (b := [101, 108]) (ev_var rfl) ev_c (by simp; omega)) (bad_el mk) (by simp; omega)) eau_nil)))))))))))))) (by decide)) fun bd H1 e1 hbd => ?_
      have e1h := ek.trans e1
      refine go_forR (n := 5) (fun i σ H2 => (∃ y2, σ = [some (.ref p), some (.int (far : Nat)), some (.ref pd), y, some (.str (S mk)), some (.int (mk.length : Nat)), some (.int (at' : Nat)), some bd, y2, none]) ∧ Ex H1 H2) (ea_cons (ev_c (v := .int ((5 : Nat) : Int))) ea_nil) (by decide) ⟨⟨_, rfl⟩, Ex.refl _⟩ ?_ ?_
      · rintro i σ H2 hi ⟨⟨y2, rfl⟩, e2⟩
        have hd := sq_of (K := K) (e2 _ _ (e1 _ _ h0))
        refine go_when (b := false) (et_is (et_not (et_B (ev_all (R := BadM K) (n := 15) (cl := .marks) (held_of (okx_law_with_marks T) T.g_law_with_marks (by decide)) ev_c (ev_var rfl) (er_catU (n := 14) (m := 1) badM_mono (er_ev (ev_var rfl) fun H3 e => listR_mono badM_mono _ _ _ (e2.trans e) hbd) (er_lstU badM_mono (eau_cons badM_mono (bad_str (ev_addT (a := mk.take at' ++ [63]) (b := mk.drop at') (ev_addT (a := mk.take at') (b := [63]) (ev_is (ev_slTo (ev_var rfl) (eo_some (ev_var rfl)) (by omega) (by omega)) (by rw [Int.toNat_natCast])) ev_c (by rw [List.length_take] <;> simp <;> omega)) (ev_is (ev_slFrom (ev_var rfl) (eo_some (ev_var rfl)) (by omega) (by omega)) (by rw [Int.toNat_natCast])) (by simp; omega)) (bad_q _ _) (by simp; omega)) eau_nil) (by decide)) (by decide))
          (fun x H3 e h => sx_ask_marks hi h) (by decide) (ev_ixL (n := 0) (ev_var rfl) ev_c hd rfl) (sq_of (e2 _ _ (e1 _ _ z0)))))) rfl) (fun h => by cases h) (fun _ => go_next (go_up rfl ⟨⟨_, rfl⟩, e2⟩))
      · rintro σ H2 ⟨⟨y2, rfl⟩, e2⟩
        have e12 := e1.trans e2
        have hd := sq_of (K := K) (e12 _ _ h0)
        refine go_when (b := false) (et_is (et_not (et_B (ev_call0 (ea_cons (ev_var rfl) (ea_cons (ev_var rfl) (ea_cons (ev_ixL (n := 1) (ev_var rfl) ev_c hd rfl) (ea_cons (ev_var rfl) ea_nil)))) (sv_weighRight mm (by omega) (sq_of (e12 _ _ z1)))))) rfl) (fun h => by cases h) (fun _ => ?_)
        refine go_when (b := false) (et_is (et_not (et_B (ev_all (R := BadO K) (n := 8) (cl := .outcome) (held_of (okx_law_with_outcome T) T.g_law_with_outcome (by decide)) ev_c (ev_var rfl) (er_lstU badO_mono (eau_cons badO_mono (bo_ty ev_c (fun _ => .base .non) (kit_ty (by decide +kernel))) (eau_cons badO_mono (bo_str ev_c (by decide)) (eau_cons badO_mono (bo_str ev_c (by decide)) (eau_cons badO_mono (bo_str ev_c (by decide))
          (eau_cons badO_mono (bo_ty ev_c (fun _ => .base (.int _)) (kit_ty (by decide +kernel))) (eau_cons badO_mono (bo_ty ev_c (fun _ => .base (.bl _)) (kit_ty (by decide +kernel))) (eau_cons badO_mono (bo_lst (el_lst (ea_cons ev_c ea_nil) (by simp))) (eau_cons badO_mono (bo_str ev_c (by decide)) eau_nil)))))))) (by decide))
          (fun x H3 e h => sx_ask_out mm (by omega) h) (by decide) (ev_ixL (n := 2) (ev_var rfl) ev_c hd rfl) (sq_of (e12 _ _ z2))))) rfl) (fun h => by cases h) (fun _ => ?_)
        have nmo : Mono (NevO mk) := fun _ _ _ _ h => h
        refine go_when (b := false) (et_is (et_not (et_B (ev_all (R := NevO mk) (n := 2) (cl := .never) (held_of (okx_law_with_outcome T) T.g_law_with_outcome (by decide)) ev_c (ev_var rfl) (er_lstU nmo (eau_cons nmo (er_ev (ev_c (v := .str (S tLeft))) fun H3 e => ⟨tLeft, rfl, by decide, many_nil _ _ (by decide)⟩) (eau_cons nmo (er_ev (ev_c (v := .str (S tRight))) fun H3 e => ⟨tRight, rfl, by decide, many_nil _ _ (by decide)⟩) eau_nil)) (by decide))
          (fun x H3 e ⟨o, ex, ho, hz⟩ => by rw [ex]; exact sx_ask_never mm (by omega) ho hz) (by decide) (ev_ixL (n := 3) (ev_var rfl) ev_c hd rfl) (sq_of (e12 _ _ z3))))) rfl) (fun h => by cases h) (fun _ => ?_)
        have cmo : Mono fun v H => BadC K H (.int ((mk.length : Nat) : Int)) v (.bl true) := fun _ _ _ e h => badC_mono e h
        refine go_when (b := false) (et_is (et_not (et_B (ev_all (R := fun v H => BadC K H (.int ((mk.length : Nat) : Int)) v (.bl true)) (n := 8) (cl := .coin) (held_of (okx_law_with_coins T) T.g_law_with_coins (by decide)) ev_c (ev_var rfl) (er_lstU cmo (eau_cons cmo (er_ev ev_c fun H3 e => .c3 (by omega) whole_non) (eau_cons cmo (er_ev ev_c fun H3 e => .c3 (by omega) whole_str) (eau_cons cmo (er_ev ev_c fun H3 e => .c3 (by omega) whole_bool)
          (eau_cons cmo (er_lst (el_lst (ea_cons ev_c ea_nil) (by simp)) fun pz H3 e hz => .c3 (by omega) (whole_lst hz)) (eau_cons cmo (er_ev (ev_negI ev_c) fun H3 e => .c4 (by omega) (by omega)) (eau_cons cmo (er_ev (ev_subI (ev_negI ev_c) (ev_var rfl)) fun H3 e => .c4 (by omega) (by omega)) (eau_cons cmo (er_ev (ev_var rfl) fun H3 e => .c4 (by omega) (by omega)) (eau_cons cmo (er_ev (ev_addI (ev_var rfl) (ev_var rfl)) fun H3 e => .c4 (by omega) (by omega)) eau_nil)))))))) (by decide))
          (fun x H3 e h => sx_ask_coins h) (by decide) (ev_ixL (n := 4) (ev_var rfl) ev_c hd rfl) (sq_of (e12 _ _ z4))))) rfl) (fun h => by cases h) (fun _ => ?_)
        have tmo : Mono fun v H => BadC K H (.int ((mk.length : Nat) : Int)) (.int (-1)) v := fun _ _ _ e h => badC_mono e h
        refine go_when (b := false) (et_is (et_not (et_B (ev_all (R := fun v H => BadC K H (.int ((mk.length : Nat) : Int)) (.int (-1)) v) (n := 5) (cl := .coin) (held_of (okx_law_with_truth T) T.g_law_with_truth (by decide)) ev_c (ev_var rfl) (er_lstU tmo (eau_cons tmo (er_ev ev_c fun H3 e => .c5 (by omega) (by omega) (by omega) (.base .non) (kit_ty (by decide +kernel))) (eau_cons tmo (er_ev ev_c fun H3 e => .c5 (by omega) (by omega) (by omega) (.base (.int _)) (kit_ty (by decide +kernel)))
          (eau_cons tmo (er_ev ev_c fun H3 e => .c5 (by omega) (by omega) (by omega) (.base (.int _)) (kit_ty (by decide +kernel))) (eau_cons tmo (er_ev ev_c fun H3 e => .c5 (by omega) (by omega) (by omega) (.base (.str _)) (kit_ty (by decide +kernel))) (eau_cons tmo (er_lst (el_lst (vs := []) ea_nil (by simp)) fun pz H3 e hz => .c5 (by omega) (by omega) (by omega) (tyx_sql (sq_of hz)) (kit_ty (by decide +kernel))) eau_nil))))) (by decide))
          (fun x H3 e h => sx_ask_truth h) (by decide) (ev_ixL (n := 4) (ev_var rfl) ev_c hd rfl) (sq_of (e12 _ _ z4))))) rfl) (fun h => by cases h) (fun _ => ?_)
        have lmo : Mono fun v H => BadC K H v (.int (-1)) (.bl true) := fun _ _ _ e h => badC_mono e h
        refine go_forU2 (R := fun v H => BadC K H v (.int (-1)) (.bl true)) (n := 6) lmo (er_lstU lmo (eau_cons lmo (er_ev ev_c fun H3 e => .c1 whole_non) (eau_cons lmo (er_ev ev_c fun H3 e => .c1 whole_str) (eau_cons lmo (er_ev ev_c fun H3 e => .c1 whole_bool) (eau_cons lmo (er_ev (ev_negI ev_c) fun H3 e => .c2 (by omega))
          (eau_cons lmo (er_ev (ev_subI (ev_negI ev_c) (ev_var rfl)) fun H3 e => .c2 (by omega)) (eau_cons lmo (er_lst (el_lst (ea_cons ev_c ea_nil) (by simp)) fun pz H3 e hz => .c1 (whole_lst hz)) eau_nil)))))) (by decide))
          (fun σ => ∃ y3, σ = [some (.ref p), some (.int (far : Nat)), some (.ref pd), y, some (.str (S mk)), some (.int (mk.length : Nat)), some (.int (at' : Nat)), some bd, y2, y3]) ⟨_, rfl⟩ ?_ ?_
        · rintro x σ' H3 e3 rx ⟨y3, rfl⟩ H0 a0 e0
          exact go_when (b := false) (et_test (ev_neBs (el_call0 (ea_cons ev_c (ea_cons (ev_var rfl) (ea_cons (ev_negI ev_c) ea_nil))) (sl_told (c := .coin) (held_of (okx_law_with_coins T) T.g_law_with_coins (by decide)) (sx_ask_coins rx))) (ev_ixL (n := 4) (ev_var rfl) ev_c (ex_l e3 hd) rfl) (sq_of (e3 _ _ (e12 _ _ z4))))) (fun h => by cases h) (fun _ => go_next (go_up rfl ⟨⟨_, rfl⟩, e0⟩))
        · rintro σ' H3 e3 ⟨y3, rfl⟩
          refine go_ret (ev_is (ev_andV (b := true) (ev_eqUU (ns := [0, 0, 1]) (eu_judged0 ev_c) (eu_tup (ea_cons ev_c (ea_cons ev_c (ea_cons ev_c ea_nil))) (by simp))) fun _ => ev_is (ev_andV (a := true) (b := true) (ev_is (ev_eqI (ev_call0 (ea_cons ev_c ea_nil) (sv_fewest (m := []) rfl (by simp))) ev_c) ?_) fun _ => ev_is (ev_eqT (ev_written0 (el_lst (ea_cons ev_c ea_nil) (by simp)) (el_lst (ea_cons ev_c ea_nil) (by simp))) ev_c) ?_) rfl) rfl) (q.mono ((e1h.trans e2).trans e3))
          · have : wf (casesN []) = 0 := by decide +kernel
            rw [this] <;> rfl
          · rfl
end Od

namespace Od
open PySem PySem.Spec PyProof.Rows L2 SX Evl
/-! ### the head -/
abbrev RowO : PySem.W.OpenRow := PySem.W.OpenLaw.row PySem.Challenge.rw_oddcoin_k06_refused
abbrev hk : PySem.W.Hook := hookQ 4 fas fns exs
def ob (s : PySem.W.SharedT) : AlQ := obsQG 4 fas fns exs (HandSHeadRun.getT s)
theorem ob_eq (s : PySem.W.SharedT) : ob s = hk.obs s.abs := obsQG_eq (HandSHeadRun.getT_eq s)
abbrev looseN : List Str := (["Answer", "BadCoin", "BadMarks", "BadOutcome", "BadText", "BadWeighing", "CoinError", "Heavy", "Light", "MOST", "Never", "Nothing", "OUTCOMES", "Open", "SIGNS"] : List Str) ++ (["__name__", "_law_all", "_law_behind", "_law_cases", "_law_cell_at", "_law_draw", "_law_kinds", "_law_left", "_law_marks", "_law_power", "_law_told", "_law_weighing", "_law_weighings_right", "_law_whole", "_law_with_coins"] : List Str) ++ (["_law_with_judged", "_law_with_marks", "_law_with_outcome", "_law_with_truth", "_law_with_weighed", "_law_with_weighing", "_law_with_written", "_wall", "behind", "behind_of", "cases", "cases_of", "check_marks", "check_weighing", "fewest"] : List Str) ++ (["greatest", "is_side", "is_weighing", "is_whole", "judged", "left_over", "many_behind", "of_either", "of_tilted", "power", "sides_of", "told", "weighed", "weighings_for", "written"] : List Str)
theorem run (w : World) : HandSHeadRun.RunEq RowO (PySem.W.view RowO.prog [66]) hk ob 8000 looseN w := by
  intro os
  kernel_rfl
theorem theEnd {P : Program} {w : World} {K : PySem.W.Frag} {h : Heap} {mg : Str → Option Value} {f : Addr} (X : K.In h) (G : h.Ns mainGlobals mg) (hfa : mg ("law" : Str) = some (.ref f)) (c : SaysQ fas fns exs K) :
    ∃ fd : FuncData, (∀ (s : Shared) (v : Value), BindsTo s fd ⟨[v], []⟩ [("_law_script", v)]) ∧ ∀ base : Heap, K.In base → base.Ns mainGlobals mg → FnOk P w K mg base CX0 13 f fd ["_law_script"] (spLaw K) := by
  have T := txt_of X G c
  obtain ⟨fd, F⟩ := T.f_law
  have e := hfa.symm.trans T.g_law
  cases e
  have b := FunD.bindsA (ps := ["_law_script"]) F fun _ _ _ _ _ _ us hl => match us, hl with | [_], _ => rfl
  exact ⟨fd, fun s v => b s [v] rfl, fun base _ _ => BodyOk.fn F sc_law len1 (bd_law T)⟩
end Od
open PySem PySem.W PySem.Calls PyProof.Rows
theorem PySem.Challenge.cw_oddcoin_k06_refused_holds : PySem.Challenge.rw_oddcoin_k06_refused.Holds := by
  w_on; o_law
  refine HandSHeadRun.head_any (r := OpenLaw.row PySem.Challenge.rw_oddcoin_k06_refused) (q := view (OpenLaw.row PySem.Challenge.rw_oddcoin_k06_refused).prog [66]) (H := Od.hk) (ob := Od.ob) (M := 8000) (loose := Od.looseN) (d := HandSHeadRun.topDef (OpenLaw.row PySem.Challenge.rw_oddcoin_k06_refused).prog 66) (kwd := []) Od.ob_eq
    (by kernel_rfl) (fun s => by kernel_rfl) Od.run (by kernel_rfl) (by kernel_rfl) (by kernel_rfl) (by rfl) (by first | assumption | decide +kernel) (by decide +kernel) ⟨rfl, rfl, rfl, rfl, rfl, by decide +kernel⟩ ?hw ?hc
  case hw => w_witness2
  case hc =>
    refine L2.walk_ofE (l := PySem.Challenge.rw_oddcoin_k06_refused) (n := 63) (k := 13) (x := "_law_script") (CX := L2.CX0) rfl (by decide) (by kernel_rfl) ⟨rfl, by decide, by decide⟩ ?F (fun _ _ _ _ z => z)
    intro w mg fa h Y G hmg0
    obtain ⟨K, KX, c⟩ := Y
    have hmg : mg ("law" : PySem.Str) = some (.ref fa) := by
      have e : (HandSHeadRun.topDef (OpenLaw.row PySem.Challenge.rw_oddcoin_k06_refused).prog 66).name = ("law" : PySem.Str) := by kernel_rfl
      rw [← e]
      exact hmg0
    obtain ⟨fd, hb, hF⟩ := Od.theEnd (P := (PySem.Challenge.rw_oddcoin_k06_refused).prog) (w := w) KX G hmg c
    exact ⟨K, fd, Od.spLaw K, KX, hb, fun H a ns hl _ hS => ⟨.ref a, rfl, a, ns, rfl, hS, hl, fun _ _ => rfl⟩, hF⟩
