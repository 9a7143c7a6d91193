import PyProof.Rows.All
import Wide.All
import OpenK.AllK
import Wide.FinOn
import PyProof.EqAt
import PyProof.EqKinds
import PyProof.TupleCall
import Open.SpecLaws
import KE.OsGo
import KE.DataMinMax
import HandS.ForSpec
import HandS.Comp
import HandS.Iter
import HandS.Walk
import HandS.Conv
import HandS.ExcInit
import HandS.ExcField
import HandS.WideBits
import PySem.Challenge.RW_poolguards_s03_soonest
set_option Elab.async false
set_option linter.all false
set_option maxRecDepth 100000
set_option maxHeartbeats 4000000
namespace Pg
open PySem PySem.Spec PyProof.Rows L2
/-! ## Words: a def as it is called, a refusal -/
/-- a def by its name, with its promise, ready to be called -/
structure Def (P : Program) (w : World) (K : PySem.W.Frag) (mg : Str → Option Value) (base : Heap) (CX : CXT) (k : Nat) (x : Str) (ps : List Str) (sp : Sp) : Prop where
  ex : ∃ (f : Addr) (fd : FuncData), FnOk P w K mg base CX k f fd ps sp ∧ mg x = some (.ref f) ∧ PySem.W.keepIn K (.ref f) = true ∧ Binds K fd ps []
theorem pe_def {X : Cx} {k : Nat} {x : Str} {ps : List Str} {sp : Sp} {p pos : Pos} {e : Expr} {es : List Expr} {t : TA} (D : Def X.prog X.w X.K X.mg X.base CX0 k x ps sp) (hr : Room k X.A) (hg : Gl X x) (ha : PA X (e :: es) t)
    (hdb : (x == ("__debug__" : Str)) = false := by decide) (he : starEach (e :: es) X.env = (false, eval e X.env) :: starEach es X.env := by rfl) (hpl : (backTo pos (starEach es X.env)).any (·.1) = false := by rfl) :
    PE X (.Call (.Name x p) (e :: es) [] pos) (tCall sp [] E0 t) := by
  obtain ⟨f, fd, F, hm, hk, hb⟩ := D.ex
  exact pe_call F hr hg hm hk hb .nil pass0 ha hdb he hpl
/-- the same where the def may raise, and what it raises leaves this def -/
theorem pe_defX {X : Cx} {k : Nat} {x : Str} {ps : List Str} {sp : Sp} {W : WX} {p pos : Pos} {e : Expr} {es : List Expr} {t : TA} (D : Def X.prog X.w X.K X.mg X.base (L2.CX X.prog X.w) k x ps sp) (hr : Room k X.A) (hg : Gl X x) (tk : Takes X W) (ha : PA X (e :: es) t)
    (hdb : (x == ("__debug__" : Str)) = false := by decide) (he : starEach (e :: es) X.env = (false, eval e X.env) :: starEach es X.env := by rfl) (hpl : (backTo pos (starEach es X.env)).any (·.1) = false := by rfl) :
    PE X (.Call (.Name x p) (e :: es) [] pos) (tCallS sp (WE W) t) := by
  obtain ⟨f, fd, F, hm, hk, hb⟩ := D.ex
  exact pe_callS F hr hg hm hk hb (fun σ => passAt tk σ) ha hdb he hpl
/-- an int that is a natural number -/
def vN (n : Nat) : V := .int (n : Int)
/-- an error of the class at C with code c is let out, all else as it was -/
def Refuses (C : Addr) (c : Int) (H : Hp) (E : XK) : Prop := ∀ (H' : Hp) (d : Addr), Same H H' → H' d = some (.xd [(("code" : Str), .int c)]) → E (.ref C) (some d) H'
theorem Refuses.from {C : Addr} {c : Int} {H H1 : Hp} {E : XK} (r : Refuses C c H E) (s : Same H H1) : Refuses C c H1 E := fun H' d s' e => r H' d (s.trans s') e
theorem same_new {H : Hp} {p : Addr} {o : HO} (h : H p = none) : Same H (upd H p o) := fun b u e => by
  rw [upd_ne (ne_of_none e h)]
  exact e
theorem if_true_of {c : Bool} {A B : Prop} (hc : c = true) (h : A) : if c = true then A else B := by
  rw [if_pos hc]
  exact h
theorem if_false_of {c : Bool} {A B : Prop} (hc : c = false) (h : B) : if c = true then A else B := by
  rw [hc, if_neg Bool.false_ne_true]
  exact h
/-! ## The error's class -/
/-- what the written part says of Refused, at C, its __init__ at fI -/
structure RefTxt (K : PySem.W.Frag) (mg : Str → Option Value) (C : Addr) : Prop where
  gC : mg "Refused" = some (.ref C)
  oex : OexC K C
  xf : XfC K C
  noC : PySem.W.findIn K (.ref C) "code" = some none
  te : PySem.W.exmOne K (.ref C) (.ref C) = some true
  mVE : mg "ValueError" = none
  vV : PySem.W.findCls K (.type "ValueError") (.type "type") "__init__" = some (.val (.builtin "ValueError.__init__"))
/-- its __init__ as a def -/
structure IniTxt (P : Program) (w : World) (K : PySem.W.Frag) (mg : Str → Option Value) (base : Heap) (C : Addr) (sp : Sp) : Prop where
  ex : ∃ (f : Addr) (fd : FuncData), FnOk P w K mg base CX0 1 f fd ["self", "code"] sp ∧ PySem.W.findIn K (.ref C) "__init__" = some (some (.ref f)) ∧ PySem.W.typeIn K (.ref f) = some (.type "function") ∧ Binds K fd ["self", "code"] []
def spInit (C : Addr) : Sp := fun vs H Q _ => ∃ (a : Addr) (c : Int), vs = [.ref a, .int c] ∧ H a = some (exo a C none) ∧
  ∀ dx, H dx = none → dx ≠ a → Q .non (upd (upd H dx (exd dx [(("code" : Str), .int c)])) a (exo a C (some dx)))
/-- want(truth, code) -/
def spWant (C : Addr) : Sp := fun vs H Q E => ∃ (b : Bool) (c : Int), vs = [.bl b, .int c] ∧ (b = true → Q .non H) ∧ (b = false → Refuses C c H E)
/-- Refused(code) -/
theorem pmk_ref {X : Cx} {C : Addr} {e : Expr} {ta : TA} {p pos : Pos} (T : RefTxt X.K X.mg C) (I : IniTxt X.prog X.w X.K X.mg X.base C (spInit C)) (hr : Room 2 X.A) (hg : Gl X "Refused") (ha : PA X [e] ta)
    (he : starEach [e] X.env = (false, eval e X.env) :: starEach [] X.env := by rfl) : PMk X (.Call (.Name "Refused" p) [e] [] pos) (tMkO C (spInit C) [] ta) := by
  obtain ⟨f, fd, F, iC, tI, b⟩ := I.ex
  exact pmk_oex T.oex iC tI F hr b .nil pass0 hg T.gC ha (by decide) he rfl
end Pg
namespace Pg
open PySem PySem.Spec PyProof.Rows L2
def top (i : Nat) : Stmt := PySem.Challenge.pw_poolguards_s03_soonest.main.body.getD i (.Pass ⟨0, 0, 0, 0⟩)
section
variable {P : Program} {w : World} {K : PySem.W.Frag} {mg : Str → Option Value} {base : Heap} {C : Addr}
abbrev sInit : Stmt := inClass (top 3) 0
abbrev sWant : Stmt := top 4
theorem scI : FnScope ["self", "code"] ["self", "code"] (defScope sInit) := ⟨rfl, rfl, rfl, by decide +kernel, rfl, by decide +kernel, by decide +kernel⟩
theorem ok_init {f : Addr} {fd : FuncData} (F : Fun K "__init__" "Refused.__init__" sInit f fd) (T : RefTxt K mg C) : FnOk P w K mg base CX0 1 f fd ["self", "code"] (spInit C) := by
  refine F.ok scI (fun vs H Q E h => ?_) (fun cdv A outer s H vs Q E hr h => ?_)
  · obtain ⟨a, c, rfl, _⟩ := h
    rfl
  obtain ⟨a, c, rfl, ha, k⟩ := h
  refine ⟨_, pss_cons (ps_expr (pe_veinit (by rfl) T.mVE T.vV (pa_cons (pv 0) (pa_cons pe_str pa_nil)))) (pss_one (ps_ost (pv 0) (pv 1))), ?_⟩
  refine ⟨_, rfl, a, C, _, rfl, (by decide), T.oex, ha, ?_⟩
  exact ⟨_, rfl, _, rfl, a, C, rfl, T.oex, T.noC, .inl ⟨ha, fun dx hd ne => k dx hd ne⟩⟩
theorem scW : FnScope ["truth", "code"] ["truth", "code"] (defScope sWant) := ⟨rfl, rfl, rfl, by decide +kernel, rfl, by decide +kernel, by decide +kernel⟩
theorem ok_want {f : Addr} {fd : FuncData} (F : Fun K "want" "want" sWant f fd) (T : RefTxt K mg C) (I : IniTxt P w K mg base C (spInit C)) : FnOk P w K mg base (L2.CX P w) 3 f fd ["truth", "code"] (spWant C) := by
  refine F.okX scW (fun vs H Q E h => ?_) (fun cdv A outer s H vs Q E hr h => ?_)
  · obtain ⟨b, c, rfl, _⟩ := h
    rfl
  obtain ⟨b, c, rfl, k1, k2⟩ := h
  refine ⟨_, pss_one (ps_if (pt_not (pt_val (pv 0))) (pss_one (ps_raise rfl (takes_of rfl rfl rfl rfl) (pmk_ref T I hr (by rfl) (pa_cons (pv 1) pa_nil)))) pss_nil), ?_⟩
  refine ⟨_, rfl, b, rfl, ?_⟩
  cases b with
  | true => exact if_false_of rfl (k1 rfl)
  | false =>
    refine if_true_of rfl ?_
    refine ⟨_, rfl, (by show 1 ≤ 1000; decide), fun a ha => ⟨a, c, rfl, upd_same, fun dx hd ne => ⟨rfl, dx, [(("code" : Str), .int c)], upd_same, ?_, ?_, ?_⟩⟩⟩
    · rw [upd_ne ne, upd_same]
    · rw [upd_ne ne] at hd
      exact hd
    · rw [upd_ne ne] at hd
      refine k2 rfl _ dx (fun b o q => ?_) upd_same
      rw [upd_ne (ne_of_none q hd), del_ne (ne_of_none q ha), upd_ne (ne_of_none q ha), upd_ne (ne_of_none q hd), upd_ne (ne_of_none q ha)]
      exact q
end
end Pg
namespace Pg
open PySem PySem.Spec PyProof.Rows L2
/-! ## Heaps and lists -/
theorem same_upd {H0 H4 : Hp} {D : Addr} {o : HO} (s : Same H0 H4) (n : H0 D = none) : Same H0 (upd H4 D o) := fun b u e => by
  rw [upd_ne (ne_of_none e n)]
  exact s b u e
/-- at p: a list of the rows' lists -/
def Plc (K : PySem.W.Frag) (H : Hp) (p : Addr) (rows : List (List Nat)) : Prop := ∃ qs : List Addr, SqL K H p (qs.map V.ref) ∧ qs.length = rows.length ∧
  ∀ (i : Nat) (q : Addr) (r : List Nat), qs[i]? = some q → rows[i]? = some r → SqL K H q (r.map vN)
theorem Plc.same {K : PySem.W.Frag} {H H' : Hp} {p : Addr} {rows : List (List Nat)} (h : Plc K H p rows) (s : Same H H') : Plc K H' p rows := by
  obtain ⟨qs, h1, h2, h3⟩ := h
  exact ⟨qs, s.seq h1, h2, fun i q r a b => s.seq (h3 i q r a b)⟩
theorem range_more (p : Nat → Bool) (i : Nat) (h : p i = true) : (List.range (i + 1)).filter p = (List.range i).filter p ++ [i] := by
  rw [List.range_succ, List.filter_append]
  simp [h]
theorem range_skip (p : Nat → Bool) (i : Nat) (h : p i = false) : (List.range (i + 1)).filter p = (List.range i).filter p := by
  rw [List.range_succ, List.filter_append]
  simp [h]
theorem take_more {α : Type} {l : List α} {i : Nat} {x : α} (h : l[i]? = some x) : l.take (i + 1) = l.take i ++ [x] := by
  rw [List.take_add_one, h]
  rfl
theorem filter_more {α : Type} (p : α → Bool) {l : List α} {i : Nat} {x : α} (hx : l[i]? = some x) (h : p x = true) : (l.take (i + 1)).filter p = (l.take i).filter p ++ [x] := by
  rw [take_more hx, List.filter_append]
  simp [h]
theorem filter_skip {α : Type} (p : α → Bool) {l : List α} {i : Nat} {x : α} (hx : l[i]? = some x) (h : p x = false) : (l.take (i + 1)).filter p = (l.take i).filter p := by
  rw [take_more hx, List.filter_append]
  simp [h]
theorem map_at {α β : Type} {f : α → β} {l : List α} {i : Nat} {y : β} (h : (l.map f)[i]? = some y) : ∃ x, l[i]? = some x ∧ y = f x := by
  rw [List.getElem?_map] at h
  cases e : l[i]? with
  | none =>
    rw [e] at h
    cases h
  | some x =>
    rw [e] at h
    exact ⟨x, rfl, (Option.some.inj h).symm⟩
theorem below_line {n : Nat} (h : n ≤ 1000) : n < sizeLine := small1000 h
/-- a module's constant that is an int -/
theorem pe_gint {X : Cx} {x : Str} {i : Int} {pos : Pos} (hg : Gl X x) (h : ∃ t, X.mg x = some (.int i t)) (hd : (x == ("__debug__" : Str)) = false := by decide) : PE X (.Name x pos) (tC (.int i)) := by
  obtain ⟨t, h⟩ := h
  exact pe_glob hg h ⟨t, rfl⟩ hd
theorem dec_le (v l : Nat) : decide ((v : Int) ≤ (l : Int)) = decide (v ≤ l) := decide_eq_decide.mpr Int.ofNat_le
theorem dec_lt (v l : Nat) : decide ((v : Int) < (l : Int)) = decide (v < l) := decide_eq_decide.mpr Int.ofNat_lt
/-- 1 << n -/
theorem op_one {X : Cx} : OpR X (binaryOp .LShift) (fun x y H Q => ∃ k : Nat, x = .int 1 ∧ y = .int (k : Int) ∧ k ≤ 1000 ∧ Q (vN (2 ^ k)) H) := by
  intro pins s σ H x y v u Q I rx ry h
  obtain ⟨k, rfl, rfl, c, q⟩ := h
  refine op_shl pins s σ H _ _ v u Q I rx ry ⟨_, _, rfl, rfl, ⟨Int.natCast_nonneg _, by omega, by decide⟩, ?_⟩
  show Q (.int ((1 : Int) * 2 ^ (k : Int).toNat)) H
  rw [Int.toNat_natCast, Int.one_mul]
  have e : ((2 ^ k : Nat) : Int) = (2 : Int) ^ k := Int.natCast_pow 2 k
  rw [← e]
  exact q
/-- len of a list, as a natural number -/
theorem call_lenN {X : Cx} : CallR X (.builtin "len") (fun xs H Q => ∃ p ys, xs = [.ref p] ∧ SqL X.K H p ys ∧ Q (vN ys.length) H) := by
  intro pins s σ H vs us Q I r h
  obtain ⟨p, ys, e, hs, q⟩ := h
  exact call_len_seq pins s σ H vs us Q I r ⟨p, ys, e, .inl hs, q⟩
/-! ## Promises of the small defs -/
def spHas : Sp := fun vs H Q _ => ∃ s i : Nat, vs = [vN s, vN i] ∧ Q (.bl (s.testBit i)) H
def spWithout : Sp := fun vs H Q _ => ∃ s i : Nat, vs = [vN s, vN i] ∧ i ≤ 1000 ∧ 2 ^ i ≤ s ∧ Q (vN (s - 2 ^ i)) H
def spReaches (K : PySem.W.Frag) : Sp := fun vs H Q _ => ∃ (q : Addr) (r : List Nat) (j v limit : Nat), vs = [.ref q, vN j, vN limit] ∧ SqL K H q (r.map vN) ∧ r[j]? = some v ∧ Q (.bl (decide (v ≤ limit))) H
def spWantSet (K : PySem.W.Frag) (C : Addr) : Sp := fun vs H Q E => ∃ (p : Addr) (rows : List (List Nat)) (s : Nat), vs = [.ref p, vN s] ∧ Plc K H p rows ∧ rows.length ≤ 1000 ∧ (s < 2 ^ rows.length → Q .non H) ∧ (2 ^ rows.length ≤ s → Refuses C (-22) H E)
def spMembers (K : PySem.W.Frag) : Sp := fun vs H Q _ => ∃ (p : Addr) (rows : List (List Nat)) (s : Nat), vs = [.ref p, vN s] ∧ Plc K H p rows ∧ rows.length ≤ 1000 ∧
  ∀ H' q, Same H H' → H q = none → H' q = some (.lst ((Ks440.members rows.length s).map vN)) → Q (.ref q) H'
theorem bit_dec (s i : Nat) : decide (V.int ((((s / 2 ^ i : Nat) % 2 : Nat)) : Int) = V.int 1) = s.testBit i := by
  rw [Nat.testBit_eq_decide_div_mod_eq]
  apply decide_eq_decide.mpr
  constructor
  · intro h
    have e : (((s / 2 ^ i : Nat) % 2 : Nat) : Int) = 1 := by injection h
    omega
  · intro h
    rw [h]
    rfl
def spReaching (K : PySem.W.Frag) : Sp := fun vs H Q _ => ∃ (p : Addr) (pool : Ks440.Pool) (s j limit : Nat), vs = [.ref p, vN s, vN j, vN limit] ∧ Plc K H p pool.secs ∧ pool.secs.length ≤ 8 ∧ (∀ r ∈ pool.secs, r.length = pool.spots) ∧ j < pool.spots ∧
  ∀ H', Same H H' → Q (vN (Ks440.by_ pool limit s j).length) H'
def spWeakSpots (K : PySem.W.Frag) : Sp := fun vs H Q _ => ∃ (p : Addr) (pool : Ks440.Pool) (s limit : Nat), vs = [.ref p, vN s, vN pool.spots, vN limit] ∧ Plc K H p pool.secs ∧ pool.secs.length ≤ 8 ∧ (∀ r ∈ pool.secs, r.length = pool.spots) ∧ pool.spots ≤ 8 ∧
  ∀ H' q, Same H H' → H q = none → H' q = some (.lst ((Ks440.weak pool limit s).map vN)) → Q (.ref q) H'
def spDoes (K : PySem.W.Frag) : Sp := fun vs H Q _ => ∃ (p : Addr) (pool : Ks440.Pool) (s limit : Nat), vs = [.ref p, vN s, vN pool.spots, vN limit] ∧ Plc K H p pool.secs ∧ pool.secs.length ≤ 8 ∧ (∀ r ∈ pool.secs, r.length = pool.spots) ∧ pool.spots ≤ 8 ∧
  ∀ H', Same H H' → Q (.bl (Ks440.holds pool limit s)) H'
/-- what is asked of the numbers that are handed in -/
def Fine (n : Nat) (l : List Nat) : Prop := 1 ≤ n ∧ n ≤ 8 ∧ l.length % n = 0 ∧ l.length ≤ n * 8 ∧ l.all (fun v => decide (v ≤ 999)) = true
instance (n : Nat) (l : List Nat) : Decidable (Fine n l) := by unfold Fine; infer_instance
def spAre (K : PySem.W.Frag) : Sp := fun vs H Q _ => ∃ (n : Nat) (a : Addr) (l : List Nat), vs = [vN n, .ref a] ∧ SqL K H a (l.map vN) ∧ l.length ≤ 1000 ∧ 1 ≤ n ∧ n ≤ 8 ∧ ∀ H', Same H H' → Q (.bl (decide (Fine n l))) H'
def spPlaces (K : PySem.W.Frag) (C : Addr) : Sp := fun vs H Q E => ∃ (n : Nat) (a : Addr) (l : List Nat), vs = [vN n, .ref a] ∧ SqL K H a (l.map vN) ∧ l.length ≤ 1000 ∧
  (Fine n l → ∀ H' p, Same H H' → Plc K H' p (Ks440.rowsOf n (l.length / n) l) → Q (.ref p) H') ∧ (¬ Fine n l → Refuses C (-22) H E)
theorem rows_len (n : Nat) : ∀ (k : Nat) (l : List Nat), (Ks440.rowsOf n k l).length = k
  | 0, _ => rfl
  | k + 1, l => by
    show ((l.take n) :: Ks440.rowsOf n k (l.drop n)).length = k + 1
    rw [List.length_cons, rows_len n k]
theorem rows_each (n : Nat) : ∀ (k : Nat) (l : List Nat), n * k ≤ l.length → ∀ r ∈ Ks440.rowsOf n k l, r.length = n
  | 0, _, _, r, hr => by
    have h : r ∈ ([] : List (List Nat)) := hr
    cases h
  | k + 1, l, h, r, hr => by
    have hr : r ∈ (l.take n) :: Ks440.rowsOf n k (l.drop n) := hr
    have h' : n * k + n ≤ l.length := h
    rcases List.mem_cons.mp hr with e | e
    · rw [e, List.length_take]
      omega
    · exact rows_each n k (l.drop n) (by rw [List.length_drop]; omega) r e
theorem rows_at (n : Nat) : ∀ (k : Nat) (l : List Nat) (i : Nat), i < k → (Ks440.rowsOf n k l)[i]? = some ((l.drop (i * n)).take n)
  | 0, _, _, h => absurd h (Nat.not_lt_zero _)
  | k + 1, l, 0, _ => by
    show some (l.take n) = _
    rw [Nat.zero_mul, List.drop_zero]
  | k + 1, l, i + 1, h => by
    show (Ks440.rowsOf n k (l.drop n))[i]? = _
    rw [rows_at n k (l.drop n) i (by omega), List.drop_drop]
    rw [show n + i * n = (i + 1) * n by rw [Nat.succ_mul, Nat.add_comm]]
theorem near_at {pool : Ks440.Pool} {limit i j v : Nat} {r : List Nat} (h : pool.secs[i]? = some r) (hv : r[j]? = some v) : Ks440.near pool limit i j = decide (v ≤ limit) := by
  unfold Ks440.near
  rw [List.getD_eq_getElem?_getD, h]
  show (match r[j]? with | some v => decide (v ≤ limit) | none => false) = _
  rw [hv]
end Pg
namespace Pg
open PySem PySem.Spec PyProof.Rows L2
section
variable {P : Program} {w : World} {K : PySem.W.Frag} {mg : Str → Option Value} {base : Heap} {C : Addr}
abbrev sHas : Stmt := top 13
theorem scHas : FnScope ["chosen", "i"] ["chosen", "i"] (defScope sHas) := ⟨rfl, rfl, rfl, by decide +kernel, rfl, by decide +kernel, by decide +kernel⟩
theorem ok_has {f : Addr} {fd : FuncData} (F : Fun K "has" "has" sHas f fd) : FnOk P w K mg base CX0 1 f fd ["chosen", "i"] spHas := by
  refine F.ok scHas (fun vs H Q E h => ?_) (fun cdv A outer s H vs Q E hr h => ?_)
  · obtain ⟨a, c, rfl, _⟩ := h
    rfl
  obtain ⟨a, i, rfl, k⟩ := h
  refine ⟨_, pss_one (ps_ret (pe_cmpR op_eq (pe_op op_odd (pe_op op_shrN (pv 0) (pv 1)) pe_int) pe_int (nomark _))), ?_⟩
  refine ⟨_, rfl, _, rfl, (a : Int), i, rfl, rfl, a / 2 ^ i, ?_, rfl, rfl, ?_⟩
  · rw [Int.natCast_ediv, Int.natCast_pow]
    rfl
  · rw [bit_dec]
    exact k
abbrev sMembers : Stmt := top 14
theorem scMembers : FnScope ["places", "chosen", "i"] ["places", "chosen"] (defScope sMembers) := ⟨rfl, rfl, rfl, by decide +kernel, rfl, by decide +kernel, by decide +kernel⟩
theorem ok_members {f : Addr} {fd : FuncData} (F : Fun K "members" "members" sMembers f fd) (D : Def P w K mg base CX0 1 "has" ["chosen", "i"] spHas) (mLen : mg "len" = none) (mRange : mg "range" = none) :
    FnOk P w K mg base CX0 2 f fd ["places", "chosen"] (spMembers K) := by
  refine F.ok scMembers (fun vs H Q E h => ?_) (fun cdv A outer s H vs Q E hr h => ?_)
  · obtain ⟨p, rows, s, rfl, _⟩ := h
    rfl
  obtain ⟨p, rows, s, rfl, hp, hl, k⟩ := h
  obtain ⟨qs, h1, h2, h3⟩ := hp
  refine ⟨_, pss_one (ps_ret (pe_lc (own := [("i", 2)]) (g := gName 2) (by rfl) scMembers.nd (pi_range1 (by rfl) mRange (pa_cons (pe_callB call_lenN (by rfl) mLen PySem.boot_len (pa_cons (pv 0) pa_nil)) pa_nil))
    (blkOk_by (own := [("i", 2)]) (N := ["places", "chosen", "i"]) (sc := defScope sMembers) (by decide +kernel)) (fun _ _ _ _ _ => pg_name (i := 2) scMembers.nd rfl (Or.inl rfl))
    (fun _ _ _ _ _ => pts_one (pt_val (pe_def D hr (by rfl) (pa_cons (pv 1) (pa_cons (pv 2) pa_nil))))) (fun _ _ _ _ _ => pv 2))), ?_⟩
  have hz : (qs.map V.ref).length = rows.length := by rw [List.length_map, h2]
  refine ⟨_, rfl, p, _, rfl, h1, ((qs.map V.ref).length : Int), rfl, by omega, by omega, fun D hD => ?_⟩
  rw [hz]
  refine lc_range (lo := 0) (n := rows.length) (fun i H' => Same H H' ∧ H' D = some (.lst (((List.range i).filter fun i => s.testBit i).map vN))) ⟨same_new hD, upd_same⟩ ?_ ?_
  · rintro i H' hi ⟨sm, hd⟩
    rw [Int.zero_add]
    refine ⟨rfl, _, rfl, _, rfl, s, i, rfl, _, rfl, ?_⟩
    cases e : s.testBit i with
    | true =>
      refine if_true_of rfl ⟨_, rfl, _, hd, ?_, same_upd sm hD, ?_⟩
      · have := List.length_filter_le (fun i => s.testBit i) (List.range i)
        rw [List.length_map]
        rw [List.length_range] at this
        exact small1000 (by omega)
      · rw [upd_same, range_more _ i e, List.map_append]
        rfl
    | false =>
      refine if_false_of rfl ⟨sm, ?_⟩
      rw [hd, range_skip _ i e]
  · rintro H' ⟨sm, hd⟩
    exact k H' D sm hD hd
end
end Pg
namespace Pg
open PySem PySem.Spec PyProof.Rows L2
section
variable {P : Program} {w : World} {K : PySem.W.Frag} {mg : Str → Option Value} {base : Heap} {C : Addr}
end
end Pg
namespace Pg
open PySem PySem.Spec PyProof.Rows L2
/-! ## A list of numbers against [] -/
def dN (n : Nat) : PyData := .int (n : Int)
theorem dp_nats {K : PySem.W.Frag} {H : Hp} : ∀ l : List Nat, DpAll K H (l.map vN) (l.map dN)
  | [] => .nil
  | n :: r => .cons (.int _) (dp_nats r)
theorem lay_ints : ∀ l : List Nat, PyData.canLay0 (.list (l.map dN)) = true ∧ PyData.depth (.list (l.map dN)) ≤ 64 := by
  have h : ∀ l : List Nat, PyData.canLayAll0 (l.map dN) = true ∧ PyData.depthAll (l.map dN) = 0 := by
    intro l
    induction l with
    | nil => exact ⟨rfl, rfl⟩
    | cons n r ih =>
      constructor
      · show (PyData.canLay0 (.int (n : Int)) && PyData.canLayAll0 (r.map dN)) = true
        rw [ih.1]
        rfl
      · show max (PyData.depth (.int (n : Int))) (PyData.depthAll (r.map dN)) = 0
        rw [ih.2]
        rfl
  intro l
  refine ⟨(h l).1, ?_⟩
  show PyData.depthAll (l.map dN) + 1 ≤ 64
  rw [(h l).2]
  decide
theorem shaped_ints (l : List Nat) : SeqAt.shaped (.list (l.map dN)) = true := by
  unfold SeqAt.shaped
  rw [(lay_ints l).1, decide_eq_true (lay_ints l).2]
  rfl
theorem eqv_nil (l : List Nat) : PyData.eqv (.list (l.map dN)) (.list []) = l.isEmpty := by
  cases l with
  | nil => rfl
  | cons a r => rfl
theorem weak_holds (pool : Ks440.Pool) (l s : Nat) : (Ks440.weak pool l s).isEmpty = Ks440.holds pool l s := by
  unfold Ks440.weak Ks440.holds
  rw [Bool.eq_iff_iff, List.isEmpty_iff, List.filter_eq_nil_iff, List.all_eq_true]
  constructor
  · intro h j hj
    have := h j hj
    simp only [decide_eq_true_eq] at this ⊢
    omega
  · intro h j hj
    have := h j hj
    simp only [decide_eq_true_eq] at this ⊢
    omega
theorem yes_go {σ : L2.St} {H : Hp} {A B : Hp → Prop} (h : A H) : tYes σ H fun b H3 => if b = true then A H3 else B H3 := by
  show if true = true then A H else B H
  exact iteT h
/-! ## are_seconds -/
theorem dec_ne0 (m : Nat) : (!decide (V.int (m : Int) = V.int 0)) = decide (¬ m = 0) := by
  by_cases h : m = 0
  · subst h
    rfl
  · have h2 : ¬ (V.int (m : Int) = V.int 0) := fun z => by
      have z' : (m : Int) = 0 := by injection z
      omega
    rw [decide_eq_false h2, decide_eq_true h]
    rfl
theorem fine_not1 {n : Nat} {l : List Nat} (c1 : ¬ l.length % n = 0) : ¬ Fine n l := fun h => c1 h.2.2.1
theorem len_of {n : Nat} {l : List Nat} (c1 : l.length % n = 0) : n * (l.length / n) = l.length := by
  have := Nat.div_add_mod l.length n
  omega
theorem fine_not2 {n : Nat} {l : List Nat} (c1 : l.length % n = 0) (c2 : 8 < l.length / n) : ¬ Fine n l := fun h => by
  have e := len_of c1
  have h1 := h.1
  have h4 := h.2.2.2.1
  have h5 : n * 9 ≤ n * (l.length / n) := Nat.mul_le_mul_left n c2
  omega
theorem fine_all {n : Nat} {l : List Nat} (n1 : 1 ≤ n) (n8 : n ≤ 8) (c1 : l.length % n = 0) (c2 : ¬ 8 < l.length / n) : (l.map fun v => decide (v ≤ 999)).all id = decide (Fine n l) := by
  have e := len_of c1
  have h5 : n * (l.length / n) ≤ n * 8 := Nat.mul_le_mul_left n (by omega)
  rw [List.all_map]
  by_cases h : (l.all fun v => decide (v ≤ 999)) = true
  · rw [decide_eq_true (show Fine n l from ⟨n1, n8, c1, by omega, h⟩)]
    exact h
  · rw [decide_eq_false (fun z : Fine n l => h z.2.2.2.2)]
    exact Bool.eq_false_iff.mpr h
/-! ## places_of -/
theorem rg_ok {n m : Nat} (n1 : 1 ≤ n) (n8 : n ≤ 8) (hm : m ≤ 1000) (c1 : m % n = 0) : RgC 0 (m : Int) (n : Int) (m / n) := by
  have e : Builtin.Range.rangeSize 0 (m : Int) (n : Int) = ((m / n : Nat) : Int) := by
    unfold Builtin.Range.rangeSize
    rw [if_pos (by omega)]
    have e := Nat.div_add_mod m n
    rw [c1, Nat.add_zero] at e
    by_cases h : m = 0
    · subst h
      rw [if_neg (by omega), Nat.zero_div]
      rfl
    · rw [if_pos (by omega)]
      have h1 : ((m : Int) - 0 - 1) = ((m - 1 : Nat) : Int) := by omega
      rw [h1]
      show (((m - 1) / n : Nat) : Int) + 1 = _
      have h2 : (m - 1) / n + 1 = m / n := by
        have h3 : m = n * (m / n) := e.symm
        have h4 : 1 ≤ m / n := by
          rcases Nat.eq_zero_or_pos (m / n) with z | z
          · rw [z, Nat.mul_zero] at e
            omega
          · exact z
        have h5 : (m - 1) / n = m / n - 1 := by
          apply Nat.div_eq_of_lt_le
          · have : (m / n - 1) * n + n = n * (m / n) := by
              rw [← Nat.succ_mul, Nat.succ_eq_add_one, Nat.sub_add_cancel h4, Nat.mul_comm]
            omega
          · rw [Nat.sub_add_cancel h4, Nat.mul_comm, e]
            omega
        omega
      omega
  refine ⟨by omega, by omega, ?_, e⟩
  have h8 : m / n ≤ m := Nat.div_le_self m n
  unfold Builtin.Range.small
  rw [e]
  generalize m / n = d at h8
  simp only [Builtin.Range.rangeFitsLong, Bool.and_eq_true, Bool.or_eq_true, decide_eq_true_eq, beq_iff_eq, show (n : Int) > 0 by omega, if_true]
  omega
theorem cut_at (l : List Nat) (b n : Nat) (h : b + n ≤ l.length) : cutV (l.map vN) (some (b : Int)) (some (((b + n : Nat)) : Int)) = ((l.drop b).take n).map vN := by
  unfold cutV
  rw [HT.sIx_nat, HT.sIx_nat, List.length_map, Nat.min_eq_left (show b ≤ l.length by omega), Nat.min_eq_left h, Nat.add_sub_cancel_left, List.map_take, List.map_drop]
end Pg
namespace Pg
open PySem PySem.Spec PyProof.Rows L2
section
variable {P : Program} {w : World} {K : PySem.W.Frag} {mg : Str → Option Value} {base : Heap} {C : Addr}
abbrev sAre : Stmt := top 9
theorem scAre : FnScope ["spots", "seconds", "one"] ["spots", "seconds"] (defScope sAre) := ⟨rfl, rfl, rfl, by decide +kernel, rfl, by decide +kernel, by decide +kernel⟩
theorem ok_are {f : Addr} {fd : FuncData} (F : Fun K "are_seconds" "are_seconds" sAre f fd) (mLen : mg "len" = none) (mAll : mg "all" = none) (gP : ∃ t, mg "MOST_PLACES" = some (.int 8 t)) (gS : ∃ t, mg "MOST_SECONDS" = some (.int 999 t)) :
    FnOk P w K mg base CX0 1 f fd ["spots", "seconds"] (spAre K) := by
  refine F.ok scAre (fun vs H Q E h => ?_) (fun cdv A outer s H vs Q E hr h => ?_)
  · obtain ⟨n, a, l, rfl, _⟩ := h
    rfl
  obtain ⟨n, a, l, rfl, ha, hl, n1, n8, k⟩ := h
  refine ⟨_, pss_cons (ps_if (PW.pt (pw_or (pt_cmpR op_ne (pe_op op_mod (pe_callB call_lenN (by rfl) mLen PySem.boot_len (pa_cons (pv 1) pa_nil)) (pv 0)) pe_int (nomark _)) (pw_or1 (pt_cmpR op_gt (pe_op op_fdiv (pe_callB call_lenN (by rfl) mLen PySem.boot_len (pa_cons (pv 1) pa_nil)) (pv 0)) (pe_gint (by rfl) gP) (nomark _)))))
      (pss_one (ps_ret pe_bl)) pss_nil)
    (pss_one (ps_ret (pe_callB (cr_all rfl) (by rfl) mAll (by decide +kernel) (pa_cons (pe_lc (own := [("one", 2)]) (g := gName 2) (tt := tYes) (by rfl) scAre.nd (pi_list (pv 1))
      (blkOk_by (own := [("one", 2)]) (N := ["spots", "seconds", "one"]) (sc := defScope sAre) (by decide +kernel)) (fun _ _ _ _ _ => pg_name (i := 2) scAre.nd rfl (Or.inl rfl))
      (fun _ _ _ _ _ => pts_nil) (fun _ _ _ _ _ => pe_cmpR op_le (pv 2) (pe_gint (by rfl) gS) (nomark _))) pa_nil)))), ?_⟩
  have hz : (l.map vN).length = l.length := List.length_map _
  have e1 : ((l.length : Int) % (n : Int)) = ((l.length % n : Nat) : Int) := rfl
  have e2 : ((l.length : Int) / (n : Int)) = ((l.length / n : Nat) : Int) := rfl
  refine ⟨_, rfl, a, _, rfl, ha, _, rfl, _, _, rfl, rfl, by omega, rfl, decide (¬ l.length % n = 0), ?_, ?_⟩
  · show V.bl (!decide (V.int (((l.map vN).length : Int) % (n : Int)) = V.int 0)) = _
    rw [hz, e1, dec_ne0]
  by_cases c1 : l.length % n = 0
  · refine if_false_of (decide_eq_false (fun z => z c1)) ?_
    refine ⟨_, rfl, a, _, rfl, ha, _, rfl, _, _, rfl, rfl, ⟨by omega, by omega⟩, _, _, rfl, rfl, decide (8 < l.length / n), ?_, ?_⟩
    · show V.bl (decide ((8 : Int) < (((l.map vN).length : Int) / (n : Int)))) = _
      rw [hz, e2]
      exact congrArg V.bl (dec_lt 8 (l.length / n))
    by_cases c2 : 8 < l.length / n
    · refine if_true_of (decide_eq_true c2) ?_
      show Q (.bl false) H
      rw [← decide_eq_false (fine_not2 c1 c2)]
      exact k H (Same.refl H)
    · refine if_false_of (decide_eq_false c2) ?_
      refine ⟨_, rfl, a, rfl, ⟨_, ha⟩, fun D hD => ?_⟩
      refine lc_list (K := K) (a := a) (xs := l.map vN) (fun i H' => Same H H' ∧ H' D = some (.lst (((l.take i).map fun v => decide (v ≤ 999)).map V.bl))) ⟨same_new hD, upd_same⟩ (fun i H' _ ⟨sm, _⟩ => sm.seq ha) ?_ ?_
      · rintro i x H' hi ⟨sm, hd⟩
        obtain ⟨m, hm, rfl⟩ := map_at hi
        refine ⟨rfl, yes_go ?_⟩
        refine ⟨_, rfl, _, _, rfl, rfl, _, hd, ?_, same_upd sm hD, ?_⟩
        · rw [List.length_map, List.length_map, List.length_take]
          exact small1000 (by omega)
        · rw [upd_same, take_more hm, List.map_append, List.map_append]
          show _ = some (HO.lst (_ ++ [V.bl (decide (m ≤ 999))]))
          rw [← dec_le]
          rfl
      · rintro H' ⟨sm, hd⟩
        rw [hz, List.take_length] at hd
        refine ⟨D, _, rfl, SqL.of hd, ?_⟩
        rw [fine_all n1 n8 c1 c2]
        exact k H' sm
  · refine if_true_of (decide_eq_true c1) ?_
    refine if_true_of rfl ?_
    show Q (.bl false) H
    rw [← decide_eq_false (fine_not1 (l := l) c1)]
    exact k H (Same.refl H)
end
end Pg
namespace Pg
open PySem PySem.Spec PyProof.Rows L2
section
variable {P : Program} {w : World} {K : PySem.W.Frag} {mg : Str → Option Value} {base : Heap} {C : Addr}
abbrev sPlaces : Stmt := top 10
theorem scPlaces : FnScope ["spots", "seconds", "begin"] ["spots", "seconds"] (defScope sPlaces) := ⟨rfl, rfl, rfl, by decide +kernel, rfl, by decide +kernel, by decide +kernel⟩
theorem ok_places {f : Addr} {fd : FuncData} (F : Fun K "places_of" "places_of" sPlaces f fd) (DW : Def P w K mg base (L2.CX P w) 3 "want" ["truth", "code"] (spWant C)) (DA : Def P w K mg base CX0 1 "are_seconds" ["spots", "seconds"] (spAre K))
    (mLen : mg "len" = none) (mRange : mg "range" = none) (gB : ∃ t, mg "BAD" = some (.int (-22) t)) (gS : ∃ t, mg "MOST_SPOTS" = some (.int 8 t)) :
    FnOk P w K mg base (L2.CX P w) 4 f fd ["spots", "seconds"] (spPlaces K C) := by
  refine F.okX scPlaces (fun vs H Q E h => ?_) (fun cdv A outer s H vs Q E hr h => ?_)
  · obtain ⟨n, a, l, rfl, _⟩ := h
    rfl
  obtain ⟨n, a, l, rfl, ha, hl, k1, k2⟩ := h
  refine ⟨_, pss_cons (ps_expr (pe_defX DW hr (by rfl) (takes_of rfl rfl rfl rfl) (pa_cons (pe_and (pe_cmpR op_le pe_int (pv 0) (nomark _)) (pe_one (pe_cmpR op_le (pv 0) (pe_gint (by rfl) gS) (nomark _)))) (pa_cons (pe_gint (by rfl) gB) pa_nil))))
    (pss_cons (ps_expr (pe_defX DW hr (by rfl) (takes_of rfl rfl rfl rfl) (pa_cons (pe_def DA (hr.mono (by decide)) (by rfl) (pa_cons (pv 0) (pa_cons (pv 1) pa_nil))).nox (pa_cons (pe_gint (by rfl) gB) pa_nil))))
    (pss_one (ps_ret (pe_lc (own := [("begin", 2)]) (g := gName 2) (tt := tYes) (by rfl) scPlaces.nd (pi_range3 (by rfl) mRange (pa_cons pe_int (pa_cons (pe_callB call_lenN (by rfl) mLen PySem.boot_len (pa_cons (pv 1) pa_nil)) (pa_cons (pv 0) pa_nil))))
      (blkOk_by (own := [("begin", 2)]) (N := ["spots", "seconds", "begin"]) (sc := defScope sPlaces) (by decide +kernel)) (fun _ _ _ _ _ => pg_name (i := 2) scPlaces.nd rfl (Or.inl rfl))
      (fun _ _ _ _ _ => pts_nil) (fun _ _ _ _ _ => pe_slice (r := rSlL K) sl_list (pv 1) (po_some (pv 2)) (po_some (pe_op op_add (pv 2) (pv 0)))))))), ?_⟩
  by_cases c0 : 1 ≤ n ∧ n ≤ 8
  · obtain ⟨n1, n8⟩ := c0
    refine ⟨_, rfl, _, _, rfl, rfl, true, congrArg V.bl (decide_eq_true (show (1 : Int) ≤ (n : Int) by omega)), ?_⟩
    refine if_true_of rfl ⟨_, rfl, _, _, rfl, rfl, true, -22, ?_, fun _ => ?_, fun z => Bool.noConfusion z⟩
    · show [V.bl (decide ((n : Int) ≤ 8)), V.int (-22)] = _
      rw [decide_eq_true (show (n : Int) ≤ 8 by omega)]
    refine ⟨_, rfl, _, rfl, n, a, l, rfl, ha, hl, n1, n8, fun H1 s1 => ⟨_, _, rfl, fun z => ?_, fun z => ?_⟩⟩
    · have hf := of_decide_eq_true z
      have c1 := hf.2.2.1
      have hz : (l.map vN).length = l.length := List.length_map _
      have ha1 := s1.seq ha
      refine ⟨_, rfl, a, _, rfl, ha1, _, rfl, 0, ((l.map vN).length : Int), (n : Int), l.length / n, rfl, ?_, fun D hD => ?_⟩
      · rw [hz]
        exact rg_ok n1 n8 hl c1
      have e := len_of c1
      refine lc_it walk_rangeC (fun i H' => Same H1 H' ∧ ∃ qs : List Addr, H' D = some (.lst (qs.map V.ref)) ∧ qs.length = i ∧ ∀ (j : Nat) (q : Addr), qs[j]? = some q → q ≠ D ∧ H' q = some (.lst (((l.drop (j * n)).take n).map vN)))
        ⟨same_new hD, [], upd_same, rfl, fun j q z => by simp at z⟩ (fun _ _ _ _ => trivial) ?_ ?_
      · rintro i x H' H'' hi ⟨sm, qs, hd, hq, hj⟩ ⟨rfl, hx⟩
        have ex : x = vN (i * n) := hx.trans (congrArg V.int (show (0 + (i : Nat) * (n : Int)) = ((i * n : Nat) : Int) by rw [Int.zero_add, Int.natCast_mul]))
        subst ex
        have hin : i * n + n ≤ l.length := by
          have : n * (i + 1) ≤ n * (l.length / n) := Nat.mul_le_mul_left n hi
          rw [Nat.mul_add, Nat.mul_one, Nat.mul_comm n i] at this
          omega
        refine ⟨rfl, yes_go ?_⟩
        refine ⟨_, rfl, _, rfl, _, rfl, _, rfl, _, rfl, _, _, rfl, rfl, _, rfl, a, _, rfl, (s1.trans sm).seq ha, fun p np => ⟨_, same_new np _ _ hd, ?_, same_upd (sm.trans (same_new np)) hD, qs ++ [p], ?_, ?_, ?_⟩⟩
        · have h8 : l.length / n ≤ l.length := Nat.div_le_self _ _
          rw [List.length_map]
          exact small1000 (by omega)
        · rw [upd_same, List.map_append]
          rfl
        · rw [List.length_append, hq]
          rfl
        · have npD : p ≠ D := fun z => by rw [z, hd] at np; cases np
          intro j q z
          by_cases c : j < qs.length
          · rw [List.getElem?_append_left c] at z
            obtain ⟨h1, h2⟩ := hj j q z
            exact ⟨h1, by rw [upd_ne h1]; exact same_new np _ _ h2⟩
          · rw [List.getElem?_append_right (by omega)] at z
            have hj0 : j - qs.length = 0 := by
              rcases Nat.eq_zero_or_pos (j - qs.length) with y | y
              · exact y
              · rw [List.getElem?_eq_none (show [p].length ≤ j - qs.length from y)] at z
                cases z
            rw [hj0] at z
            have z' : p = q := Option.some.inj z
            subst z'
            refine ⟨npD, ?_⟩
            rw [upd_ne npD, upd_same]
            have hji : j = i := by omega
            subst hji
            show some (HO.lst (cutV (l.map vN) (some ((j * n : Nat) : Int)) (some ((j * n + n : Nat) : Int)))) = _
            rw [cut_at l _ _ hin]
      · rintro H' ⟨sm, qs, hd, hq, hj⟩
        refine k1 hf H' D (s1.trans sm) ⟨qs, SqL.of hd, by rw [rows_len, hq], fun i q r h1 h2 => ?_⟩
        have hlt : i < l.length / n := by
          rw [← hq]
          exact (List.getElem?_eq_some_iff.mp h1).1
        rw [rows_at n _ l i hlt] at h2
        cases h2
        exact SqL.of (hj i q h1).2
    · exact (k2 (of_decide_eq_false z)).from s1
  · have nf : ¬ Fine n l := fun z => c0 ⟨z.1, z.2.1⟩
    by_cases c1 : 1 ≤ n
    · refine ⟨_, rfl, _, _, rfl, rfl, true, congrArg V.bl (decide_eq_true (show (1 : Int) ≤ (n : Int) by omega)), ?_⟩
      refine if_true_of rfl ⟨_, rfl, _, _, rfl, rfl, false, -22, ?_, fun z => Bool.noConfusion z, fun _ => k2 nf⟩
      show [V.bl (decide ((n : Int) ≤ 8)), V.int (-22)] = _
      rw [decide_eq_false (show ¬ (n : Int) ≤ 8 by omega)]
    · refine ⟨_, rfl, _, _, rfl, rfl, false, congrArg V.bl (decide_eq_false (show ¬ (1 : Int) ≤ (n : Int) by omega)), ?_⟩
      exact if_false_of rfl ⟨false, -22, rfl, fun z => Bool.noConfusion z, fun _ => k2 nf⟩
end
end Pg
namespace Pg
open PySem PySem.Spec PyProof.Rows L2
/-! ## Answers -/
def poolOf (n : Nat) (l : List Nat) : Ks440.Pool := { spots := n, secs := Ks440.rowsOf n (l.length / n) l }
theorem given_not {n : Nat} {l : List Nat} {f : Ks440.Pool → Ks440.Ans} (h : ¬ Fine n l) : Ks440.given n l f = Ks440.no (-22) := if_neg h
theorem given_fine {n : Nat} {l : List Nat} {f : Ks440.Pool → Ks440.Ans} (h : Fine n l) : Ks440.given n l f = f (poolOf n l) := if_pos h
theorem set_not {p : Ks440.Pool} {s : Nat} {f : Unit → Ks440.Ans} (h : 2 ^ p.secs.length ≤ s) : Ks440.set_ p s f = Ks440.no (-22) := if_pos h
theorem set_in {p : Ks440.Pool} {s : Nat} {f : Unit → Ks440.Ans} (h : s < 2 ^ p.secs.length) : Ks440.set_ p s f = f () := if_neg (Nat.not_le.mpr h)
theorem pool_len {n : Nat} {l : List Nat} (h : Fine n l) : (poolOf n l).secs.length ≤ 8 := by
  show (Ks440.rowsOf n (l.length / n) l).length ≤ 8
  rw [rows_len]
  refine Nat.div_le_of_le_mul ?_
  exact h.2.2.2.1
theorem pool_rows {n : Nat} {l : List Nat} (h : Fine n l) : ∀ r ∈ (poolOf n l).secs, r.length = (poolOf n l).spots := rows_each n _ l (Nat.le_of_eq (len_of h.2.2.1))
/-- the promise of a told_ def with a set: what is handed back, or refused -/
def spTold4 (K : PySem.W.Frag) (C : Addr) (ans : Nat → Nat → Nat → List Nat → List Int) : Sp := fun vs H Q E => ∃ (t s n : Nat) (a : Addr) (l : List Nat), vs = [vN t, vN s, vN n, .ref a] ∧ SqL K H a (l.map vN) ∧ l.length ≤ 1000 ∧
  (∀ H' q, H' q = some (.lst ((ans t s n l).map V.int)) → Q (.ref q) H') ∧ (∀ c, ans t s n l = [c] → Refuses C c H E)
def spTold3 (K : PySem.W.Frag) (C : Addr) (ans : Nat → Nat → List Nat → List Int) : Sp := fun vs H Q E => ∃ (t n : Nat) (a : Addr) (l : List Nat), vs = [vN t, vN n, .ref a] ∧ SqL K H a (l.map vN) ∧ l.length ≤ 1000 ∧
  (∀ H' q, H' q = some (.lst ((ans t n l).map V.int)) → Q (.ref q) H') ∧ (∀ c, ans t n l = [c] → Refuses C c H E)
/-- .. of a call -/
def spCall4 (ans : Nat → Nat → Nat → List Nat → List Int) (K : PySem.W.Frag) : Sp := fun vs H Q _ => ∃ (t s n : Nat) (a : Addr) (l : List Nat), vs = [vN t, vN s, vN n, .ref a] ∧ SqL K H a (l.map vN) ∧ l.length ≤ 1000 ∧
  ∀ H' q, H' q = some (.lst ((ans t s n l).map V.int)) → Q (.ref q) H'
def spCall3 (ans : Nat → Nat → List Nat → List Int) (K : PySem.W.Frag) : Sp := fun vs H Q _ => ∃ (t n : Nat) (a : Addr) (l : List Nat), vs = [vN t, vN n, .ref a] ∧ SqL K H a (l.map vN) ∧ l.length ≤ 1000 ∧
  ∀ H' q, H' q = some (.lst ((ans t n l).map V.int)) → Q (.ref q) H'
def ansDoes (t s n : Nat) (l : List Nat) : List Int := Ks440Neutral.out (Ks440.answer (.holds t s n l))
def ansFewest (t n : Nat) (l : List Nat) : List Int := Ks440Neutral.out (Ks440.answer (.fewest t n l))
def ansSoonest (t n : Nat) (l : List Nat) : List Int := Ks440Neutral.out (Ks440.answer (.soonest t n l))
def ansNeeded (t s n : Nat) (l : List Nat) : List Int := Ks440Neutral.out (Ks440.answer (.needed t s n l))
def ansWeak (t s n : Nat) (l : List Nat) : List Int := Ks440Neutral.out (Ks440.answer (.weak t s n l))
/-! ## The request -/
open PySem.W (Codec WData) in
theorem nat_of {m z : Int} (h : Codec.inInt 0 m z = true) : V.int z = vN z.toNat := by
  have := (Codec.inInt_iff.mp h).1
  unfold vN
  rw [Int.toNat_of_nonneg this]
open PySem.W (Codec WData) in
theorem nats_of {m : Int} : ∀ {l : List Int}, l.all (Codec.inInt 0 m) = true → l.map V.int = (l.map Int.toNat).map vN
  | [], _ => rfl
  | z :: r, h => by
    rw [List.all_cons, Bool.and_eq_true] at h
    rw [List.map_cons, List.map_cons, List.map_cons, nat_of h.1, nats_of h.2]
open PySem.W (Codec WData) in
theorem end4 {K : PySem.W.Frag} {H : Hp} {xs : List V} {t s n m : Int} {l res : List Int} {ans : Nat → Nat → Nat → List Nat → List Int} (hw : (Codec.inInt 0 m t && (Codec.inInt 0 m s && (Codec.inInt 0 m n && ((Codec.inLen 0 72 l && l.all (Codec.inInt 0 m)) && true)))) = true)
    (hx : DwAll K H xs [.int t, .int s, .int n, .list (l.map WData.int)]) (e : ans t.toNat s.toNat n.toNat (l.map Int.toNat) = res) : spCall4 ans K xs H (fun v H' => Dw K H' v (.list (res.map WData.int))) fun _ _ _ => False := by
  simp only [Bool.and_eq_true] at hw
  obtain ⟨h1, h2, h3, ⟨h4, h5⟩, _⟩ := hw
  cases hx with
  | cons x1 hx =>
  cases hx with
  | cons x2 hx =>
  cases hx with
  | cons x3 hx =>
  cases hx with
  | cons x4 hx =>
  cases hx
  cases x1
  cases x2
  cases x3
  cases x4 with
  | lst hs ha =>
  have e2 := ints_dw l _ ha
  subst e2
  rw [nat_of h1, nat_of h2, nat_of h3]
  rw [nats_of h5] at hs
  refine ⟨_, _, _, _, _, rfl, hs, ?_, fun H' p hp => ?_⟩
  · rw [List.length_map]
    exact Nat.le_trans (Codec.inNat_iff.mp h4).2 (by decide)
  · rw [e] at hp
    exact .lst (SqL.of hp) (dw_ints _)
open PySem.W (Codec WData) in
theorem end3 {K : PySem.W.Frag} {H : Hp} {xs : List V} {t n m : Int} {l res : List Int} {ans : Nat → Nat → List Nat → List Int} (hw : (Codec.inInt 0 m t && (Codec.inInt 0 m n && ((Codec.inLen 0 72 l && l.all (Codec.inInt 0 m)) && true))) = true)
    (hx : DwAll K H xs [.int t, .int n, .list (l.map WData.int)]) (e : ans t.toNat n.toNat (l.map Int.toNat) = res) : spCall3 ans K xs H (fun v H' => Dw K H' v (.list (res.map WData.int))) fun _ _ _ => False := by
  simp only [Bool.and_eq_true] at hw
  obtain ⟨h1, h3, ⟨h4, h5⟩, _⟩ := hw
  cases hx with
  | cons x1 hx =>
  cases hx with
  | cons x3 hx =>
  cases hx with
  | cons x4 hx =>
  cases hx
  cases x1
  cases x3
  cases x4 with
  | lst hs ha =>
  have e2 := ints_dw l _ ha
  subst e2
  rw [nat_of h1, nat_of h3]
  rw [nats_of h5] at hs
  refine ⟨_, _, _, _, rfl, hs, ?_, fun H' p hp => ?_⟩
  · rw [List.length_map]
    exact Nat.le_trans (Codec.inNat_iff.mp h4).2 (by decide)
  · rw [e] at hp
    exact .lst (SqL.of hp) (dw_ints _)
theorem out_no (c : Int) : Ks440Neutral.out (Ks440.no c) = [c] := rfl
theorem out_rows (l : List Nat) : (Ks440Neutral.out (Ks440.rows l)).map V.int = vN l.length :: l.map vN := by
  show V.int (l.length : Int) :: (l.map Int.ofNat).map V.int = _
  rw [List.map_map]
  rfl
end Pg
namespace Pg
open PySem PySem.Spec PyProof.Rows L2
/-! ## min of a list of pairs -/
def pLt (p q : Nat × Nat) : Prop := p.1 < q.1 ∨ (p.1 = q.1 ∧ p.2 < q.2)
instance (p q : Nat × Nat) : Decidable (pLt p q) := by unfold pLt; infer_instance
def dP (p : Nat × Nat) : PyData := .tuple [dN p.1, dN p.2]
theorem data_lt (p q : Nat × Nat) : PySem.W.dataLt (dP p) (dP q) = decide (pLt p q) := by
  obtain ⟨a, b⟩ := p
  obtain ⟨c, d⟩ := q
  have e : PySem.W.dataLt (dP (a, b)) (dP (c, d)) = (decide ((a : Int) < (c : Int)) || (!decide ((c : Int) < (a : Int)) && (decide ((b : Int) < (d : Int)) || (!decide ((d : Int) < (b : Int)) && false)))) := by
    unfold dP dN
    rw [PySem.W.dataLt_tuple]
    simp only [PySem.W.keyToksAll, PySem.W.keyToks, List.cons_append, List.nil_append]
    rw [lex_self, lex_cons, lex_self, lex_cons, lex_self]
    rfl
  rw [e, dec_lt, dec_lt, dec_lt, dec_lt]
  rw [Bool.eq_iff_iff, decide_eq_true_iff]
  unfold pLt
  dsimp only
  simp only [Bool.or_eq_true, Bool.and_eq_true, Bool.not_eq_true', decide_eq_true_eq, decide_eq_false_iff_not, Bool.and_false, Bool.or_false]
  constructor
  · rintro (h | ⟨h1, h2⟩)
    · exact .inl h
    · by_cases c1 : a < c
      · exact .inl c1
      · exact .inr ⟨by omega, h2⟩
  · rintro (h | ⟨h1, h2⟩)
    · exact .inl h
    · exact .inr ⟨by omega, h2⟩
theorem pLt_trans {p q r : Nat × Nat} (h1 : pLt p q) (h2 : pLt q r) : pLt p r := by
  unfold pLt at *
  omega
theorem pLt_irr (p : Nat × Nat) : ¬ pLt p p := by
  unfold pLt
  omega
theorem best_least (f : Nat → Nat × Nat) : ∀ n, argBest (fun i j => decide (pLt (f i) (f j))) n ≤ n ∧ ∀ j, j ≤ n → ¬ pLt (f j) (f (argBest (fun i j => decide (pLt (f i) (f j))) n))
  | 0 => ⟨Nat.le_refl _, fun j hj => by
    have e : j = 0 := by omega
    subst e
    exact pLt_irr _⟩
  | n + 1 => by
    obtain ⟨h1, h2⟩ := best_least f n
    unfold argBest
    by_cases c : pLt (f (n + 1)) (f (argBest (fun i j => decide (pLt (f i) (f j))) n))
    · rw [if_pos (decide_eq_true c)]
      refine ⟨Nat.le_refl _, fun j hj z => ?_⟩
      by_cases e : j = n + 1
      · subst e
        exact pLt_irr _ z
      · exact h2 j (by omega) (pLt_trans z c)
    · rw [if_neg (by rw [decide_eq_true_eq]; exact c)]
      refine ⟨by omega, fun j hj => ?_⟩
      by_cases e : j = n + 1
      · subst e
        exact c
      · exact h2 j (by omega)
theorem best_le (bt : Nat → Nat → Bool) : ∀ n, argBest bt n ≤ n
  | 0 => Nat.le_refl _
  | n + 1 => by
    have := best_le bt n
    unfold argBest
    split <;> omega
theorem best_same {bt bt' : Nat → Nat → Bool} : ∀ n, (∀ i j, i ≤ n → j ≤ n → bt i j = bt' i j) → argBest bt n = argBest bt' n
  | 0, _ => rfl
  | n + 1, h => by
    have e := best_same n fun i j hi hj => h i j (by omega) (by omega)
    have l := best_le bt' n
    unfold argBest
    rw [e, h (n + 1) (argBest bt' n) (Nat.le_refl _) (by omega)]
theorem its_refs : ∀ {ts : List Addr} {its : List Value}, Vals (ts.map V.ref) its → its = ts.map Value.ref
  | [], _, h => by
    cases h
    rfl
  | t :: r, _, h => by
    cases h with
    | cons h1 h2 =>
      rw [its_refs h2]
      rw [show _ = Value.ref t from h1]
      rfl
/-- at t: a pair of numbers -/
def PairAt (K : PySem.W.Frag) (H : Hp) (t : Addr) (p : Nat × Nat) : Prop := SqT K H t [vN p.1, vN p.2]
theorem dp_pairs {K : PySem.W.Frag} {H : Hp} : ∀ {ts : List Addr} {ps : List (Nat × Nat)}, ts.length = ps.length → (∀ (i : Nat) (t : Addr) (p : Nat × Nat), ts[i]? = some t → ps[i]? = some p → PairAt K H t p) → DpAll K H (ts.map V.ref) (ps.map dP)
  | [], [], _, _ => .nil
  | [], _ :: _, h, _ => by simp at h
  | _ :: _, [], h, _ => by simp at h
  | t :: ts, p :: ps, h, f => .cons (.tup (f 0 t p rfl rfl) (.cons (.int _) (.cons (.int _) .nil))) (dp_pairs (by simpa using h) fun i u q a b => f (i + 1) u q a b)
theorem alike_pairs (ps : List (Nat × Nat)) : PySem.W.AlikeAll (ps.map dP) := by
  refine ⟨fun x hx y hy => ?_, fun x hx => ?_⟩
  · obtain ⟨p, _, rfl⟩ := List.mem_map.mp hx
    obtain ⟨q, _, rfl⟩ := List.mem_map.mp hy
    rfl
  · obtain ⟨p, _, rfl⟩ := List.mem_map.mp hx
    intro z
    cases z
theorem depth_pairs : ∀ ps : List (Nat × Nat), PyData.depthAll (ps.map dP) ≤ 1
  | [] => Nat.zero_le _
  | p :: r => by
    show max (PyData.depth (dP p)) (PyData.depthAll (r.map dP)) ≤ 1
    have h1 : PyData.depth (dP p) = 1 := rfl
    have h2 := depth_pairs r
    omega
theorem lay_pairs (ps : List (Nat × Nat)) : SeqAt.shaped (.list (ps.map dP)) = true := by
  have h : ∀ l : List (Nat × Nat), PyData.canLayAll0 (l.map dP) = true := by
    intro l
    induction l with
    | nil => rfl
    | cons p r ih =>
      show (PyData.canLay0 (dP p) && PyData.canLayAll0 (r.map dP)) = true
      rw [ih]
      rfl
  unfold SeqAt.shaped
  have h1 : PyData.canLay0 (.list (ps.map dP)) = true := h ps
  have h2 : PyData.depth (.list (ps.map dP)) ≤ 64 := by
    show PyData.depthAll (ps.map dP) + 1 ≤ 64
    have := depth_pairs ps
    omega
  rw [h1, decide_eq_true h2]
  rfl
theorem eqv_pairs (ps : List (Nat × Nat)) : PyData.eqv (.list (ps.map dP)) (.list []) = ps.isEmpty := by
  cases ps with
  | nil => rfl
  | cons a r => rfl
def rMinP (K : PySem.W.Frag) : List V → Hp → VK → Prop := fun vs H Q => ∃ (a : Addr) (ts : List Addr) (ps : List (Nat × Nat)), vs = [V.ref a] ∧ SqL K H a (ts.map V.ref) ∧ ts.length = ps.length ∧ (∀ (i : Nat) (t : Addr) (p : Nat × Nat), ts[i]? = some t → ps[i]? = some p → PairAt K H t p) ∧ 0 < ps.length ∧
  ∀ (i : Nat) (t : Addr) (p : Nat × Nat), ts[i]? = some t → ps[i]? = some p → (∀ q ∈ ps, ¬ pLt q p) → Q (.ref t) H
theorem cr_minP {X : Cx} (hc : X.calm = true) (hu : X.A.units + 64 < cLine) : CallR X (.builtin "min") (rMinP X.K) := by
  intro pins s σ H vs us Q I r h
  obtain ⟨a, ts, ps, rfl, hs, hl, ht, hn, q⟩ := h
  obtain ⟨its, rv, hL, _⟩ := I.list hs
  rw [Vals.ref1 r]
  have ei := its_refs rv
  subst ei
  obtain ⟨as, hr⟩ := Dp.readsAll I _ _ _ (dp_pairs hl ht) rv
  have hsz : (ts.map Value.ref).toArray.size = ps.length := by rw [List.size_toArray, List.length_map, hl]
  have hdep := depth_pairs ps
  refine call_min_walkH (PySem.W.iter_listW (A := X.A.in1) (I.ok.hd hc) hL.isList fun s2 e W st hfp hw hk => ?_)
  refine ⟨_, _, _, _, _, _, _, s.heap, _, rfl, W, st, hfp, by omega, hw, hk, PySem.W.cmpIn_lt (A := X.A.in1) (xs := ps.map dP) (as := as) (by simpa using hr) (alike_pairs ps) (by show X.A.units + 1 + _ < _; omega), fun v s' hP m => ?_⟩
  obtain ⟨h', tk, es, hk'⟩ := PySem.W.moved_old e rfl m
  subst es
  have hb := best_least (fun i => ps.getD i (0, 0)) (ps.length - 1)
  rw [hsz] at hP
  rw [best_same (bt' := fun i j => decide (pLt (ps.getD i (0, 0)) (ps.getD j (0, 0)))) (ps.length - 1) fun i j hi hj => ?_] at hP
  · generalize argBest (fun i j => decide (pLt (ps.getD i (0, 0)) (ps.getD j (0, 0)))) (ps.length - 1) = k at hP hb
    have hk : k < ps.length := by omega
    have e1 : ts[k]? = some (ts[k]'(by omega)) := List.getElem?_eq_getElem (by omega)
    have e2 : ps[k]? = some ps[k] := List.getElem?_eq_getElem hk
    have e3 : ps.getD k (0, 0) = ps[k] := by rw [List.getD_eq_getElem?_getD, e2]; rfl
    have ev : v = Value.ref (ts[k]'(by omega)) := by
      have hP' : (ts.map Value.ref).toArray[k]? = some v := hP
      rw [List.getElem?_toArray, List.getElem?_map, e1] at hP'
      exact (Option.some.inj hP').symm
    subst ev
    refine ⟨.ref (ts[k]'(by omega)), H, I.kept hk', rfl, q k _ _ e1 e2 fun z hz => ?_⟩
    obtain ⟨j, hj, ez⟩ := List.getElem_of_mem hz
    have e4 : ps.getD j (0, 0) = z := by rw [List.getD_eq_getElem?_getD, List.getElem?_eq_getElem hj, ← ez]; rfl
    have := hb.2 j (by omega)
    rw [e3, e4] at this
    exact this
  · have gi : ∀ i, i < ps.length → (ps.map dP).getD i .none = dP (ps.getD i (0, 0)) := fun i hi => by
      rw [List.getD_eq_getElem?_getD, List.getD_eq_getElem?_getD, List.getElem?_map, List.getElem?_eq_getElem hi]
      rfl
    rw [gi i (by omega), gi j (by omega), data_lt]
end Pg
namespace Pg
open PySem PySem.Spec PyProof.Rows L2
/-! ## All sets; the fewest -/
def spAllSets (K : PySem.W.Frag) : Sp := fun vs H Q _ => ∃ (p : Addr) (rows : List (List Nat)), vs = [.ref p] ∧ Plc K H p rows ∧ rows.length ≤ 8 ∧
  ∀ H' q, Same H H' → H q = none → H' q = some (.lst ((List.range (2 ^ rows.length)).map vN)) → Q (.ref q) H'
def spLeastSet (K : PySem.W.Frag) : Sp := fun vs H Q _ => ∃ (p : Addr) (pool : Ks440.Pool) (limit : Nat), vs = [.ref p, vN pool.spots, vN limit] ∧ Plc K H p pool.secs ∧ pool.secs.length ≤ 8 ∧ (∀ r ∈ pool.secs, r.length = pool.spots) ∧ pool.spots ≤ 8 ∧
  (Ks440.fewest pool limit = none → ∀ H', Same H H' → Q .non H') ∧ (∀ s, Ks440.fewest pool limit = some s → ∀ H' t, Same H H' → H' t = some (.tup [vN (Ks440.size pool s), vN s]) → Q (.ref t) H')
theorem rg_nat (n : Nat) : rgV 0 (n : Int) = (List.range n).map vN := by
  unfold rgV
  rw [Int.sub_zero, Int.toNat_natCast]
  apply List.map_congr_left
  intro i _
  show V.int (0 + (i : Int)) = V.int (i : Int)
  rw [Int.zero_add]
theorem pow8 {k : Nat} (h : k ≤ 8) : 2 ^ k ≤ 256 := Nat.le_trans (Nat.pow_le_pow_right (by decide) h) (by decide)
/-- the fold keeps the first of the least -/
theorem fold_least (p : Ks440.Pool) : ∀ (r : List Nat) (a : Nat), (∀ s ∈ r, a < s) → r.Pairwise (· < ·) →
    (r.foldl (fun b s => if Ks440.size p s < Ks440.size p b then s else b) a = a ∨ r.foldl (fun b s => if Ks440.size p s < Ks440.size p b then s else b) a ∈ r) ∧
      ∀ s, s = a ∨ s ∈ r → ¬ pLt (Ks440.size p s, s) (Ks440.size p (r.foldl (fun b s => if Ks440.size p s < Ks440.size p b then s else b) a), r.foldl (fun b s => if Ks440.size p s < Ks440.size p b then s else b) a)
  | [], a, _, _ => by
    refine ⟨.inl rfl, fun s hs => ?_⟩
    rcases hs with e | e
    · rw [e]
      exact pLt_irr _
    · cases e
  | x :: r, a, h1, h2 => by
    rw [List.pairwise_cons] at h2
    rw [List.foldl_cons]
    by_cases c : Ks440.size p x < Ks440.size p a
    · rw [if_pos c]
      obtain ⟨i1, i2⟩ := fold_least p r x h2.1 h2.2
      refine ⟨.inr ?_, fun s hs => ?_⟩
      · rcases i1 with e | e
        · rw [e]
          exact List.mem_cons_self
        · exact List.mem_cons_of_mem _ e
      · have hx := i2 x (.inl rfl)
        rcases hs with e | e
        · subst e
          intro z
          unfold pLt at hx z
          dsimp only at hx z
          omega
        · rcases List.mem_cons.mp e with e | e
          · exact i2 s (.inl e)
          · exact i2 s (.inr e)
    · rw [if_neg c]
      obtain ⟨i1, i2⟩ := fold_least p r a (fun s hs => h1 s (List.mem_cons_of_mem _ hs)) h2.2
      refine ⟨?_, fun s hs => ?_⟩
      · rcases i1 with e | e
        · exact .inl e
        · exact .inr (List.mem_cons_of_mem _ e)
      · have ha := i2 a (.inl rfl)
        rcases hs with e | e
        · exact i2 s (.inl e)
        · rcases List.mem_cons.mp e with e | e
          · have hax := h1 x List.mem_cons_self
            subst e
            intro z
            unfold pLt at ha z
            dsimp only at ha z
            omega
          · exact i2 s (.inr e)
/-- the sets that do, rising -/
def doing (p : Ks440.Pool) (limit m : Nat) : List Nat := (List.range m).filter (Ks440.holds p limit)
theorem doing_rises (p : Ks440.Pool) (limit m : Nat) : (doing p limit m).Pairwise (· < ·) := List.Pairwise.filter _ List.pairwise_lt_range
theorem fewest_none {p : Ks440.Pool} {limit : Nat} (h : (doing p limit (2 ^ p.secs.length)) = []) : Ks440.fewest p limit = none := by
  unfold Ks440.fewest
  have h' : (List.range (2 ^ p.secs.length)).filter (Ks440.holds p limit) = [] := h
  rw [h']
  rfl
/-- of the sets that do the least pair is the fewest -/
theorem fewest_some {p : Ks440.Pool} {limit s : Nat} (hs : s ∈ doing p limit (2 ^ p.secs.length)) (hl : ∀ z ∈ doing p limit (2 ^ p.secs.length), ¬ pLt (Ks440.size p z, z) (Ks440.size p s, s)) : Ks440.fewest p limit = some s := by
  show Ks440.fewestOf p (doing p limit (2 ^ p.secs.length)) = some s
  have hr := doing_rises p limit (2 ^ p.secs.length)
  generalize doing p limit (2 ^ p.secs.length) = L at *
  cases L with
  | nil => cases hs
  | cons a r =>
    rw [List.pairwise_cons] at hr
    obtain ⟨i1, i2⟩ := fold_least p r a hr.1 hr.2
    show some (r.foldl (fun b s => if Ks440.size p s < Ks440.size p b then s else b) a) = some s
    generalize r.foldl (fun b s => if Ks440.size p s < Ks440.size p b then s else b) a = b at *
    have h1 := i2 s (List.mem_cons.mp hs)
    have h2 := hl b (by
      rcases i1 with e | e
      · rw [e]
        exact List.mem_cons_self
      · exact List.mem_cons_of_mem _ e)
    unfold pLt at h1 h2
    dsimp only at h1 h2
    congr 1
    omega
end Pg
namespace Pg
open PySem PySem.Spec PyProof.Rows L2
section
variable {P : Program} {w : World} {K : PySem.W.Frag} {mg : Str → Option Value} {base : Heap} {C : Addr}
abbrev sAllSets : Stmt := top 15
theorem scAllSets : FnScope ["places"] ["places"] (defScope sAllSets) := ⟨rfl, rfl, rfl, by decide +kernel, rfl, by decide +kernel, by decide +kernel⟩
theorem ok_all_sets {f : Addr} {fd : FuncData} (F : Fun K "all_sets" "all_sets" sAllSets f fd) (mLen : mg "len" = none) (mRange : mg "range" = none) (mList : mg "list" = none) : FnOk P w K mg base CX0 1 f fd ["places"] (spAllSets K) := by
  refine F.ok scAllSets (fun vs H Q E h => ?_) (fun cdv A outer s H vs Q E hr h => ?_)
  · obtain ⟨p, rows, rfl, _⟩ := h
    rfl
  obtain ⟨p, rows, rfl, hp, hl, k⟩ := h
  obtain ⟨qs, h1, h2, h3⟩ := hp
  refine ⟨_, pss_one (ps_ret (pe_listRg (by rfl) (by rfl) mList (prg_1 (by rfl) mRange (pe_op op_one pe_int (pe_callB call_lenN (by rfl) mLen PySem.boot_len (pa_cons (pv 0) pa_nil)))))), ?_⟩
  have hz : (qs.map V.ref).length = rows.length := by rw [List.length_map, h2]
  have h8 := pow8 hl
  refine ⟨_, rfl, p, _, rfl, h1, _, rfl, rfl, by omega, ((2 ^ (qs.map V.ref).length : Nat) : Int), rfl, ?_, fun q hq => ?_⟩
  · rw [hz]
    exact RgOk.of_le (Int.le_refl _) (Int.ofNat_le.mpr (Nat.le_trans h8 (by decide))) (by decide) (Int.natCast_nonneg _)
  · rw [rg_nat, hz]
    exact k _ q (same_new hq) hq upd_same
end
end Pg
namespace Pg
open PySem PySem.Spec PyProof.Rows L2
/-! ## The second least, the least limit of a set, the soonest -/
/-- v is the second of l by size: v is among them, and two are within t just where v is -/
def Sec (l : List Nat) (v : Nat) : Prop := v ∈ l ∧ ∀ t, 2 ≤ l.countP (fun x => decide (x ≤ t)) ↔ v ≤ t
/-- the seconds of a set's places to spot j -/
def col (p : Ks440.Pool) (s j : Nat) : List Nat := (Ks440.members p.secs.length s).map fun i => (p.secs.getD i []).getD j 0
/-- v is the least limit with which s does, and is told -/
def IsLim (p : Ks440.Pool) (s v : Nat) : Prop := (∀ t, Ks440.holds p t s = true ↔ v ≤ t) ∧ v ∈ p.secs.flatMap fun r => r
def Good (p : Ks440.Pool) (many s : Nat) : Prop := 2 ≤ Ks440.size p s ∧ Ks440.size p s ≤ many
def spSecond (K : PySem.W.Frag) : Sp := fun vs H Q _ => ∃ (a : Addr) (l : List Nat), vs = [.ref a] ∧ SqL K H a (l.map vN) ∧ 2 ≤ l.length ∧ l.length ≤ 8 ∧ ∀ v H', Sec l v → Same H H' → Q (vN v) H'
def spLimitOf (K : PySem.W.Frag) : Sp := fun vs H Q _ => ∃ (p : Addr) (pool : Ks440.Pool) (s : Nat), vs = [.ref p, vN s, vN pool.spots] ∧ Plc K H p pool.secs ∧ pool.secs.length ≤ 8 ∧ (∀ r ∈ pool.secs, r.length = pool.spots) ∧ 1 ≤ pool.spots ∧ pool.spots ≤ 8 ∧ 2 ≤ Ks440.size pool s ∧
  ∀ v H', IsLim pool s v → Same H H' → Q (vN v) H'
def spLeastLimit (K : PySem.W.Frag) : Sp := fun vs H Q _ => ∃ (p : Addr) (pool : Ks440.Pool) (many : Nat), vs = [.ref p, vN many, vN pool.spots] ∧ Plc K H p pool.secs ∧ pool.secs.length ≤ 8 ∧ (∀ r ∈ pool.secs, r.length = pool.spots) ∧ 1 ≤ pool.spots ∧ pool.spots ≤ 8 ∧
  (Ks440.soonest pool many = none → ∀ H', Same H H' → Q .non H') ∧ (∀ v, Ks440.soonest pool many = some v → ∀ H', Same H H' → Q (vN v) H')
theorem ints_nats (l : List Nat) : l.map vN = (l.map Int.ofNat).map V.int := by
  rw [List.map_map]
  rfl
/-- of a rising arrangement of l the second item -/
theorem sec_of {l : List Nat} {ns : List Int} (hp : ns.Perm (l.map Int.ofNat)) (hs : ns.Pairwise (· ≤ ·)) (h2 : 2 ≤ l.length) : ∃ v : Nat, ns[1]? = some (v : Int) ∧ Sec l v := by
  have hlen : ns.length = l.length := by rw [hp.length_eq, List.length_map]
  match ns, hp, hs, hlen with
  | [], _, _, e => simp at e; omega
  | [_], _, _, e => simp at e; omega
  | x :: y :: r, hp, hs, _ =>
    have hy : y ∈ l.map Int.ofNat := hp.mem_iff.mp (List.mem_cons_of_mem _ List.mem_cons_self)
    obtain ⟨v, hv, e⟩ := List.mem_map.mp hy
    have e' : y = (v : Int) := e.symm
    subst e'
    refine ⟨v, rfl, hv, fun t => ?_⟩
    have c1 : l.countP (fun z => decide (z ≤ t)) = (l.map Int.ofNat).countP (fun z => decide (z ≤ (t : Int))) := by
      rw [List.countP_map]
      apply List.countP_congr
      intro z _
      simp
    rw [c1, ← hp.countP_eq]
    rw [List.pairwise_cons, List.pairwise_cons] at hs
    obtain ⟨a1, a2, _⟩ := hs
    have hxy := a1 (v : Int) List.mem_cons_self
    rw [List.countP_cons, List.countP_cons]
    constructor
    · intro h
      apply Decidable.byContradiction
      intro c
      have hr : r.countP (fun z => decide (z ≤ (t : Int))) = 0 := by
        rw [List.countP_eq_zero]
        intro z hz
        have := a2 z hz
        simp only [decide_eq_true_eq]
        omega
      rw [hr, if_neg (show ¬ decide ((v : Int) ≤ (t : Int)) = true by rw [decide_eq_true_eq]; omega)] at h
      have : (if decide (x ≤ (t : Int)) = true then 1 else 0) ≤ 1 := by split <;> omega
      omega
    · intro h
      rw [if_pos (show decide ((v : Int) ≤ (t : Int)) = true by rw [decide_eq_true_eq]; omega), if_pos (show decide (x ≤ (t : Int)) = true by rw [decide_eq_true_eq]; omega)]
      omega
theorem at_in {p : Ks440.Pool} (hrow : ∀ r ∈ p.secs, r.length = p.spots) {i j : Nat} (hi : i < p.secs.length) (hj : j < p.spots) : ∃ r v, p.secs[i]? = some r ∧ r[j]? = some v ∧ (p.secs.getD i []).getD j 0 = v ∧ v ∈ p.secs.flatMap fun r => r := by
  have h1 : p.secs[i]? = some p.secs[i] := List.getElem?_eq_getElem hi
  have hl : p.secs[i].length = p.spots := hrow _ (List.getElem_mem hi)
  have h2 : p.secs[i][j]? = some (p.secs[i][j]'(by omega)) := List.getElem?_eq_getElem (by omega)
  refine ⟨_, _, h1, h2, ?_, ?_⟩
  · rw [List.getD_eq_getElem?_getD, List.getD_eq_getElem?_getD, h1]
    show (p.secs[i][j]?).getD 0 = _
    rw [h2]
    rfl
  · exact List.mem_flatMap.mpr ⟨p.secs[i], List.getElem_mem hi, List.getElem_mem _⟩
theorem member_lt {n s i : Nat} (h : i ∈ Ks440.members n s) : i < n := List.mem_range.mp (List.mem_filter.mp h).1
theorem by_col {p : Ks440.Pool} (hrow : ∀ r ∈ p.secs, r.length = p.spots) {j : Nat} (hj : j < p.spots) (t s : Nat) : (Ks440.by_ p t s j).length = (col p s j).countP fun x => decide (x ≤ t) := by
  unfold Ks440.by_ col
  rw [List.countP_map, ← List.countP_eq_length_filter]
  apply List.countP_congr
  intro i hi
  obtain ⟨r, v, h1, h2, h3, _⟩ := at_in hrow (member_lt hi) hj
  rw [near_at h1 h2]
  show _ ↔ decide ((p.secs.getD i []).getD j 0 ≤ t) = true
  rw [h3]
theorem holds_iff {p : Ks440.Pool} {t s : Nat} : Ks440.holds p t s = true ↔ ∀ j, j < p.spots → 2 ≤ (Ks440.by_ p t s j).length := by
  unfold Ks440.holds
  rw [List.all_eq_true]
  constructor
  · intro h j hj
    exact of_decide_eq_true (h j (List.mem_range.mpr hj))
  · intro h j hj
    exact decide_eq_true (h j (List.mem_range.mp hj))
theorem lim_of {p : Ks440.Pool} (hrow : ∀ r ∈ p.secs, r.length = p.spots) {s m : Nat} {us : List Nat} (hl : us.length = p.spots) (hu : ∀ j v, us[j]? = some v → Sec (col p s j) v) (hm : m ∈ us) (hg : ∀ y ∈ us, y ≤ m) : IsLim p s m := by
  constructor
  · intro t
    rw [holds_iff]
    constructor
    · intro h
      obtain ⟨j, hj, e⟩ := List.getElem_of_mem hm
      have h1 := h j (by omega)
      rw [by_col hrow (by omega)] at h1
      have h2 := (hu j m (by rw [List.getElem?_eq_getElem hj, e])).2 t
      exact h2.mp h1
    · intro h j hj
      rw [by_col hrow hj]
      have hj' : j < us.length := by omega
      have h2 := (hu j us[j] (List.getElem?_eq_getElem hj')).2 t
      exact h2.mpr (Nat.le_trans (hg _ (List.getElem_mem hj')) h)
  · obtain ⟨j, hj, e⟩ := List.getElem_of_mem hm
    have h1 := (hu j m (by rw [List.getElem?_eq_getElem hj, e])).1
    obtain ⟨i, hi, e2⟩ := List.mem_map.mp h1
    obtain ⟨r, v, _, _, h3, h4⟩ := at_in hrow (member_lt hi) (show j < p.spots by omega)
    have e3 : v = m := h3.symm.trans e2
    rw [← e3]
    exact h4
/-! ### the soonest -/
theorem ins_mem (x : Nat) : ∀ (l : List Nat) (z : Nat), z ∈ Ks440.insert x l ↔ z = x ∨ z ∈ l
  | [], z => by
    show z ∈ [x] ↔ _
    simp
  | y :: l, z => by
    unfold Ks440.insert
    by_cases c : x < y
    · rw [if_pos c, List.mem_cons]
    · rw [if_neg c]
      by_cases e : x = y
      · rw [if_pos e, e, List.mem_cons]
        constructor
        · intro h
          exact .inr h
        · rintro (h | h)
          · exact .inl h
          · exact h
      · rw [if_neg e, List.mem_cons, ins_mem x l z, List.mem_cons]
        constructor
        · rintro (h | h | h)
          · exact .inr (.inl h)
          · exact .inl h
          · exact .inr (.inr h)
        · rintro (h | h | h)
          · exact .inr (.inl h)
          · exact .inl h
          · exact .inr (.inr h)
theorem ins_rises (x : Nat) : ∀ l : List Nat, l.Pairwise (· < ·) → (Ks440.insert x l).Pairwise (· < ·)
  | [], _ => List.pairwise_singleton _ _
  | y :: l, h => by
    rw [List.pairwise_cons] at h
    unfold Ks440.insert
    by_cases c : x < y
    · rw [if_pos c, List.pairwise_cons]
      refine ⟨fun z hz => ?_, List.pairwise_cons.mpr h⟩
      rcases List.mem_cons.mp hz with e | e
      · omega
      · have := h.1 z e
        omega
    · rw [if_neg c]
      by_cases e : x = y
      · rw [if_pos e]
        exact List.pairwise_cons.mpr h
      · rw [if_neg e, List.pairwise_cons]
        refine ⟨fun z hz => ?_, ins_rises x l h.2⟩
        rcases (ins_mem x l z).mp hz with e2 | e2
        · omega
        · exact h.1 z e2
theorem fold_ins : ∀ (l : List Nat), (l.foldr Ks440.insert [0]).Pairwise (· < ·) ∧ ∀ z ∈ l, z ∈ l.foldr Ks440.insert [0]
  | [] => ⟨List.pairwise_singleton _ _, fun z hz => by cases hz⟩
  | x :: l => by
    obtain ⟨h1, h2⟩ := fold_ins l
    refine ⟨ins_rises x _ h1, fun z hz => (ins_mem x _ z).mpr ?_⟩
    rcases List.mem_cons.mp hz with e | e
    · exact .inl e
    · exact .inr (h2 z e)
theorem find_first {P : Nat → Bool} {m : Nat} (hP : ∀ t, P t = true ↔ m ≤ t) : ∀ l : List Nat, l.Pairwise (· < ·) → m ∈ l → l.find? P = some m
  | [], _, h => by cases h
  | x :: l, hp, h => by
    rw [List.pairwise_cons] at hp
    rcases List.mem_cons.mp h with e | e
    · subst e
      exact List.find?_cons_of_pos ((hP m).mpr (Nat.le_refl _))
    · have hx := hp.1 m e
      rw [List.find?_cons_of_neg (fun z => by have := (hP x).mp z; omega)]
      exact find_first hP l hp.2 e
/-- so many do with a limit -/
def enough (p : Ks440.Pool) (n t : Nat) : Bool := match Ks440.fewest p t with
  | none => false
  | some s => decide (Ks440.size p s ≤ n)
theorem enough_iff {p : Ks440.Pool} {n t : Nat} : enough p n t = true ↔ ∃ s, s < 2 ^ p.secs.length ∧ Ks440.holds p t s = true ∧ Ks440.size p s ≤ n := by
  have hr := doing_rises p t (2 ^ p.secs.length)
  have hm : ∀ z, z ∈ doing p t (2 ^ p.secs.length) ↔ z < 2 ^ p.secs.length ∧ Ks440.holds p t z = true := fun z => by
    unfold doing
    rw [List.mem_filter, List.mem_range]
  have hf : Ks440.fewest p t = Ks440.fewestOf p (doing p t (2 ^ p.secs.length)) := rfl
  unfold enough
  rw [hf]
  generalize doing p t (2 ^ p.secs.length) = L at *
  cases L with
  | nil =>
    constructor
    · intro h
      cases h
    · rintro ⟨s, h1, h2, _⟩
      have := (hm s).mpr ⟨h1, h2⟩
      cases this
  | cons a r =>
    rw [List.pairwise_cons] at hr
    obtain ⟨i1, i2⟩ := fold_least p r a hr.1 hr.2
    show decide (Ks440.size p (r.foldl (fun b s => if Ks440.size p s < Ks440.size p b then s else b) a) ≤ n) = true ↔ _
    generalize r.foldl (fun b s => if Ks440.size p s < Ks440.size p b then s else b) a = b at *
    rw [decide_eq_true_eq]
    constructor
    · intro h
      have hb : b ∈ a :: r := by
        rcases i1 with e | e
        · rw [e]
          exact List.mem_cons_self
        · exact List.mem_cons_of_mem _ e
      have := (hm b).mp hb
      exact ⟨b, this.1, this.2, h⟩
    · rintro ⟨s, h1, h2, h3⟩
      have h4 := i2 s (List.mem_cons.mp ((hm s).mpr ⟨h1, h2⟩))
      unfold pLt at h4
      dsimp only at h4
      omega
theorem soonest_eq (p : Ks440.Pool) (n : Nat) : Ks440.soonest p n = (Ks440.times p).find? (enough p n) := rfl
theorem holds_size {p : Ks440.Pool} (h1 : 1 ≤ p.spots) {t s : Nat} (h : Ks440.holds p t s = true) : 2 ≤ Ks440.size p s := by
  have := holds_iff.mp h 0 h1
  have h2 : (Ks440.by_ p t s 0).length ≤ (Ks440.members p.secs.length s).length := List.length_filter_le _ _
  exact Nat.le_trans this h2
theorem soonest_none {p : Ks440.Pool} {n : Nat} (h1 : 1 ≤ p.spots) (h : ∀ s, s < 2 ^ p.secs.length → ¬ Good p n s) : Ks440.soonest p n = none := by
  rw [soonest_eq, List.find?_eq_none]
  intro t _ z
  obtain ⟨s, a, b, c⟩ := enough_iff.mp z
  exact h s a ⟨holds_size h1 b, c⟩
theorem soonest_some {p : Ks440.Pool} {n m s : Nat} (h1 : 1 ≤ p.spots) (hs : s < 2 ^ p.secs.length) (hg : Good p n s) (hm : IsLim p s m) (h : ∀ z, z < 2 ^ p.secs.length → Good p n z → ∃ v, IsLim p z v ∧ m ≤ v) : Ks440.soonest p n = some m := by
  rw [soonest_eq]
  refine find_first (fun t => ?_) _ (fold_ins _).1 ((fold_ins _).2 m hm.2)
  rw [enough_iff]
  constructor
  · rintro ⟨z, a, b, c⟩
    obtain ⟨v, hv, hle⟩ := h z a ⟨holds_size h1 b, c⟩
    exact Nat.le_trans hle ((hv.1 t).mp b)
  · intro hle
    exact ⟨s, hs, (hm.1 t).mpr hle, hg.2⟩
end Pg
namespace Pg
open PySem PySem.Spec PyProof.Rows L2
section
variable {P : Program} {w : World} {K : PySem.W.Frag} {mg : Str → Option Value} {base : Heap} {C : Addr}
abbrev sSecond : Stmt := top 17
theorem scSecond : FnScope ["numbers"] ["numbers"] (defScope sSecond) := ⟨rfl, rfl, rfl, by decide +kernel, rfl, by decide +kernel, by decide +kernel⟩
theorem ok_second {f : Addr} {fd : FuncData} (F : Fun K "second_least" "second_least" sSecond f fd) (mSorted : mg "sorted" = none) (gW : ∃ t, mg "WANTED" = some (.int 2 t)) : FnOk P w K mg base CX0 1 f fd ["numbers"] (spSecond K) := by
  refine F.ok scSecond (fun vs H Q E h => ?_) (fun cdv A outer s H vs Q E hr h => ?_)
  · obtain ⟨a, l, rfl, _⟩ := h
    rfl
  obtain ⟨a, l, rfl, ha, h2, h8, k⟩ := h
  refine ⟨_, pss_one (ps_ret (pe_ix ix_list (pe_callB cr_sorted (by rfl) mSorted (by decide +kernel) (pa_cons (pv 0) pa_nil)) (pe_op op_sub (pe_gint (by rfl) gW) pe_int) (fun _ _ => rfl))), ?_⟩
  rw [ints_nats] at ha
  refine ⟨_, rfl, a, _, rfl, ha, by rw [List.length_map]; omega, fun ns q hp hs nq => ?_⟩
  obtain ⟨v, hv, hsec⟩ := sec_of hp hs h2
  refine ⟨2, 1, rfl, rfl, q, _, 1, vN v, rfl, rfl, SqL.of upd_same, atI_nat (j := 1) (by rw [List.getElem?_map, hv]; rfl), k v _ hsec (same_new nq)⟩
abbrev sLimitOf : Stmt := top 18
theorem scLimitOf : FnScope ["places", "chosen", "spots", "some", "spot", "i"] ["places", "chosen", "spots"] (defScope sLimitOf) := ⟨rfl, rfl, rfl, by decide +kernel, rfl, by decide +kernel, by decide +kernel⟩
theorem ok_limit_of {f : Addr} {fd : FuncData} (F : Fun K "limit_of" "limit_of" sLimitOf f fd) (DM : Def P w K mg base CX0 2 "members" ["places", "chosen"] (spMembers K)) (DS : Def P w K mg base CX0 1 "second_least" ["numbers"] (spSecond K))
    (mMax : mg "max" = none) (mRange : mg "range" = none) : FnOk P w K mg base CX0 3 f fd ["places", "chosen", "spots"] (spLimitOf K) := by
  refine F.ok scLimitOf (fun vs H Q E h => ?_) (fun cdv A outer s H vs Q E hr h => ?_)
  · obtain ⟨p, pool, s, rfl, _⟩ := h
    rfl
  obtain ⟨p, pool, s, rfl, hp, hl, hrow, h1, hs, h2, k⟩ := h
  refine ⟨_, pss_cons (ps_set (i := 3) scLimitOf.nd rfl (Or.inr rfl) (pe_def DM hr (by rfl) (pa_cons (pv 0) (pa_cons (pv 1) pa_nil))))
    (pss_one (ps_ret (pe_callB (cr_max rfl) (by rfl) mMax (by decide +kernel) (pa_cons (pe_lc (own := [("spot", 4)]) (g := gName 4) (tt := tYes) (by rfl) scLimitOf.nd (pi_range1 (by rfl) mRange (pa_cons (pv 2) pa_nil))
      (blkOk_by (own := [("spot", 4)]) (N := ["places", "chosen", "spots", "some", "spot", "i"]) (sc := defScope sLimitOf) (by decide +kernel)) (fun _ _ _ _ _ => pg_name (i := 4) scLimitOf.nd rfl (Or.inr rfl))
      (fun _ _ _ _ _ => pts_nil)
      (fun _ _ _ _ _ => pe_def DS (hr.mono (by decide)) (by rfl) (pa_cons (pe_lc (wi := iList K (tVar 3)) (own := [("i", 5)]) (g := gName 5) (tt := tYes) (by rfl) scLimitOf.nd (pi_list (pv 3))
        (blkOk_by (own := [("i", 5)]) (N := ["places", "chosen", "spots", "some", "spot", "i"]) (by rfl)) (fun _ _ _ _ _ => pg_name (i := 5) scLimitOf.nd rfl (Or.inl rfl))
        (fun _ _ _ _ _ => pts_nil)
        (fun _ _ _ _ _ => pe_ix (r := rIxL K) ix_list (pe_ix (r := rIxL K) ix_list (pv 0) (pv 5) (fun _ _ => rfl)) (pv 4) (fun _ _ => rfl))) pa_nil))) pa_nil)))), ?_⟩
  have msz : (Ks440.members pool.secs.length s).length ≤ 8 := by
    have a3 : (Ks440.members pool.secs.length s).length ≤ (List.range pool.secs.length).length := List.length_filter_le _ _
    rw [List.length_range] at a3
    omega
  refine ⟨_, rfl, _, rfl, p, pool.secs, s, rfl, hp, by omega, fun H1 q s1 nq hq => ?_⟩
  refine ⟨_, rfl, (pool.spots : Int), rfl, by omega, by omega, fun D hD => ?_⟩
  rw [Int.toNat_natCast]
  refine lc_range (lo := 0) (n := pool.spots) (fun i H' => Same H1 H' ∧ ∃ us : List Nat, H' D = some (.lst (us.map vN)) ∧ us.length = i ∧ ∀ j v, us[j]? = some v → Sec (col pool s j) v) ⟨same_new hD, [], upd_same, rfl, fun j v z => by simp at z⟩ ?_ ?_
  · rintro j H' hj ⟨sm, us, hd, hu, hsec⟩
    rw [Int.zero_add]
    refine ⟨rfl, yes_go ?_⟩
    refine ⟨_, rfl, q, rfl, ⟨_, SqL.of (sm _ _ hq)⟩, fun D2 hD2 => ?_⟩
    refine lc_list (K := K) (a := q) (xs := (Ks440.members pool.secs.length s).map vN) (fun i H2 => Same H' H2 ∧ H2 D2 = some (.lst ((((Ks440.members pool.secs.length s).take i).map fun i => (pool.secs.getD i []).getD j 0).map vN))) ⟨same_new hD2, upd_same⟩ (fun i H2 _ ⟨sm2, _⟩ => SqL.of (sm2 _ _ (sm _ _ hq))) ?_ ?_
    · rintro i x H2 hi ⟨sm2, hd2⟩
      obtain ⟨m, hm, rfl⟩ := map_at hi
      have hlt := member_lt (List.mem_of_getElem? hm)
      obtain ⟨r, v, e1, e3, e4, _⟩ := at_in hrow hlt hj
      obtain ⟨qs, g1, g2, g3⟩ := hp.same ((s1.trans sm).trans sm2)
      have e2 : qs[m]? = some (qs[m]'(by omega)) := List.getElem?_eq_getElem (by omega)
      refine ⟨rfl, yes_go ?_⟩
      refine ⟨_, rfl, _, rfl, p, qs.map V.ref, m, .ref (qs[m]'(by omega)), rfl, rfl, g1, atI_nat (by rw [List.getElem?_map, e2]; rfl), _, rfl, (qs[m]'(by omega)), r.map vN, j, vN v, rfl, rfl, g3 m _ _ e2 e1, atI_nat (by rw [List.getElem?_map, e3]; rfl), _, hd2, ?_, same_upd sm2 hD2, ?_⟩
      · rw [List.length_map, List.length_map, List.length_take]
        exact small1000 (by omega)
      · rw [upd_same, take_more hm, List.map_append, List.map_append]
        show _ = some (HO.lst (_ ++ [vN ((pool.secs.getD m []).getD j 0)]))
        rw [e4]
    · rintro H2 ⟨sm2, hd2⟩
      rw [List.length_map, List.take_length] at hd2
      have hcol : (col pool s j).length = (Ks440.members pool.secs.length s).length := List.length_map _
      have h2' : 2 ≤ (Ks440.members pool.secs.length s).length := h2
      refine ⟨D2, col pool s j, rfl, SqL.of hd2, by omega, by omega, fun v H4 hv s4 => ⟨_, s4 _ _ (sm2 _ _ hd), ?_, same_upd ((sm.trans sm2).trans s4) hD, us ++ [v], ?_, ?_, ?_⟩⟩
      · rw [List.length_map]
        exact small1000 (by omega)
      · rw [upd_same, List.map_append]
        rfl
      · rw [List.length_append, hu]
        rfl
      · intro y z hz
        by_cases c : y < us.length
        · rw [List.getElem?_append_left c] at hz
          exact hsec y z hz
        · rw [List.getElem?_append_right (by omega)] at hz
          have hy0 : y - us.length = 0 := by
            rcases Nat.eq_zero_or_pos (y - us.length) with e | e
            · exact e
            · rw [List.getElem?_eq_none (show [v].length ≤ y - us.length from e)] at hz
              cases hz
          rw [hy0] at hz
          have z1 : v = z := Option.some.inj hz
          subst z1
          have ey : y = j := by omega
          subst ey
          exact hv
  · rintro H' ⟨sm, us, hd, hu, hsec⟩
    rw [ints_nats] at hd
    refine ⟨D, _, rfl, SqL.of hd, by rw [List.length_map]; omega, fun y hy hge => ?_⟩
    obtain ⟨v, hv, e⟩ := List.mem_map.mp hy
    subst e
    refine k v H' (lim_of hrow hu hsec hv fun z hz => ?_) (s1.trans sm)
    exact Int.ofNat_le.mp (hge _ (List.mem_map.mpr ⟨z, hz, rfl⟩))
abbrev sLeastLimit : Stmt := top 19
theorem scLeastLimit : FnScope ["places", "many", "spots", "found", "chosen", "size"] ["places", "many", "spots"] (defScope sLeastLimit) := ⟨rfl, rfl, rfl, by decide +kernel, rfl, by decide +kernel, by decide +kernel⟩
theorem ok_least_limit {f : Addr} {fd : FuncData} (F : Fun K "least_limit" "least_limit" sLeastLimit f fd) (DM : Def P w K mg base CX0 2 "members" ["places", "chosen"] (spMembers K)) (DA : Def P w K mg base CX0 1 "all_sets" ["places"] (spAllSets K))
    (DL : Def P w K mg base CX0 3 "limit_of" ["places", "chosen", "spots"] (spLimitOf K)) (mLen : mg "len" = none) (mMin : mg "min" = none) (gW : ∃ t, mg "WANTED" = some (.int 2 t)) : FnOk P w K mg base CX0 4 f fd ["places", "many", "spots"] (spLeastLimit K) := by
  refine F.ok scLeastLimit (fun vs H Q E h => ?_) (fun cdv A outer s H vs Q E hr h => ?_)
  · obtain ⟨p, pool, m, rfl, _⟩ := h
    rfl
  obtain ⟨p, pool, m, rfl, hp, hl, hrow, h1, hs, k1, k2⟩ := h
  refine ⟨_, pss_cons (ps_set (i := 3) scLeastLimit.nd rfl (Or.inl rfl) (pe_lst pa_nil))
    (pss_cons (ps_for PassesOwn.never rfl (pi_list (pe_def DA (hr.mono (by decide)) (by rfl) (pa_cons (pv 0) pa_nil))) (pg_name (i := 4) scLeastLimit.nd rfl (Or.inl rfl))
      (pss_cons (ps_set (i := 5) scLeastLimit.nd rfl (Or.inl rfl) (pe_callB call_lenN (by rfl) mLen PySem.boot_len (pa_cons (pe_def DM (hr.mono (by decide)) (by rfl) (pa_cons (pv 0) (pa_cons (pv 4) pa_nil))) pa_nil)))
      (pss_one (ps_if (PW.pt (pw_and (pt_cmpR op_le (pe_gint (by rfl) gW) (pv 5) (nomark _)) (pw_and1 (pt_cmpR op_le (pv 5) (pv 1) (nomark _)))))
        (pss_one (ps_expr (pe_bm PySem.F.plainAttrs_list PySem.F.slot_list_append PySem.F.type_list_append mt_append (pv 3) (pa_cons (pe_def DL hr (by rfl) (pa_cons (pv 0) (pa_cons (pv 4) (pa_cons (pv 2) pa_nil)))) pa_nil)))) pss_nil))))
    (pss_one (ps_ret (pe_ifExp (pt_cmpR (op_neD hr.units) (pv 3) (pe_lst pa_nil) (nomark _)) (pe_callB (cr_min rfl) (by rfl) mMin (by decide +kernel) (pa_cons (pv 3) pa_nil)) pe_non)))), ?_⟩
  have h8 := pow8 hl
  refine ⟨(by show 0 ≤ sizeLine; decide), fun F0 hF => ?_⟩
  refine ⟨_, rfl, p, pool.secs, rfl, hp.same (same_new hF), hl, fun H1 q s1 nq hq => ⟨q, rfl, ⟨_, SqL.of hq⟩, ?_⟩⟩
  have s01 : Same H H1 := (same_new hF).trans s1
  have hF1 : H1 F0 = some (.lst []) := s1 _ _ upd_same
  have qF : q ≠ F0 := fun z => by
    rw [z, upd_same] at nq
    cases nq
  refine for_list (K := K) (a := q) (xs := (List.range (2 ^ pool.secs.length)).map vN) (fun i σ H' => ∃ (c z : Option V) (us : List Nat), σ = [some (.ref p), some (vN m), some (vN pool.spots), some (.ref F0), c, z] ∧ Same H H' ∧ H' q = some (.lst ((List.range (2 ^ pool.secs.length)).map vN)) ∧ H' F0 = some (.lst (us.map vN)) ∧ us.length ≤ i ∧
      (∀ v ∈ us, ∃ s, s < i ∧ Good pool m s ∧ IsLim pool s v) ∧ ∀ s, s < i → Good pool m s → ∃ v ∈ us, IsLim pool s v)
    ⟨none, none, [], rfl, s01, hq, hF1, Nat.le_refl _, (fun v hv => absurd hv (List.not_mem_nil)), fun s hs => absurd hs (Nat.not_lt_zero _)⟩ (fun i σ H' _ ⟨_, _, _, _, _, hq', _⟩ => SqL.of hq') ?_ ?_
  · rintro i x σ H' hi ⟨c, z, us, rfl, sm, hq', hF', hu, ha, hb⟩
    obtain ⟨y, hy, rfl⟩ := map_at hi
    have hlt := (List.getElem?_eq_some_iff.mp hy).1
    rw [List.length_range] at hlt
    have em : y = i := by
      rw [List.getElem?_range hlt] at hy
      exact (Option.some.inj hy).symm
    subst em
    refine ⟨_, rfl, _, rfl, p, pool.secs, y, rfl, hp.same sm, by omega, fun H2 b s2 nb hb' => ⟨b, _, rfl, SqL.of hb', ?_⟩⟩
    have hz : ((Ks440.members pool.secs.length y).map vN).length = Ks440.size pool y := List.length_map _
    rw [hz]
    have sm2 := sm.trans s2
    refine ⟨_, rfl, _, _, rfl, rfl, decide (2 ≤ Ks440.size pool y), congrArg V.bl (dec_le 2 (Ks440.size pool y)), ?_⟩
    by_cases c1 : 2 ≤ Ks440.size pool y
    · refine if_true_of (decide_eq_true c1) ?_
      refine ⟨_, rfl, _, rfl, _, _, rfl, rfl, decide (Ks440.size pool y ≤ m), congrArg V.bl (dec_le (Ks440.size pool y) m), ?_⟩
      by_cases c2 : Ks440.size pool y ≤ m
      · refine if_true_of (decide_eq_true c2) ?_
        refine ⟨_, rfl, .inl ⟨rfl, _, SqL.of (s2 _ _ hF')⟩, _, rfl, _, rfl, _, rfl, p, pool, y, rfl, hp.same sm2, hl, hrow, h1, hs, c1, fun v H3 hv s3 => ?_⟩
        refine ⟨F0, _, _, rfl, rfl, s3 _ _ (s2 _ _ hF'), ?_, ?_⟩
        · rw [List.length_map]
          exact small1000 (by omega)
        · refine ⟨_, _, us ++ [v], rfl, same_upd (sm2.trans s3) hF, ?_, ?_, ?_, ?_, ?_⟩
          · rw [upd_ne qF]
            exact s3 _ _ (s2 _ _ hq')
          · rw [upd_same, List.map_append]
            rfl
          · rw [List.length_append]
            exact Nat.succ_le_succ hu
          · intro e he
            rcases List.mem_append.mp he with he | he
            · obtain ⟨t, t1, t2, t3⟩ := ha e he
              exact ⟨t, Nat.lt_succ_of_lt t1, t2, t3⟩
            · have e1 : e = v := List.mem_singleton.mp he
              subst e1
              exact ⟨y, Nat.lt_succ_self _, ⟨c1, c2⟩, hv⟩
          · intro t ht hg
            by_cases e : t = y
            · subst e
              exact ⟨v, List.mem_append_right _ (List.mem_singleton.mpr rfl), hv⟩
            · obtain ⟨u, u1, u2⟩ := hb t (by omega) hg
              exact ⟨u, List.mem_append_left _ u1, u2⟩
      · refine if_false_of (decide_eq_false c2) ?_
        exact ⟨_, _, us, rfl, sm2, s2 _ _ hq', s2 _ _ hF', Nat.le_succ_of_le hu, fun v hv => by
            obtain ⟨t, t1, t2, t3⟩ := ha v hv
            exact ⟨t, Nat.lt_succ_of_lt t1, t2, t3⟩, fun t ht hg => by
            by_cases e : t = y
            · subst e
              exact absurd hg.2 c2
            · exact hb t (by omega) hg⟩
    · refine if_false_of (decide_eq_false c1) ?_
      refine if_false_of rfl ?_
      exact ⟨_, _, us, rfl, sm2, s2 _ _ hq', s2 _ _ hF', Nat.le_succ_of_le hu, fun v hv => by
          obtain ⟨t, t1, t2, t3⟩ := ha v hv
          exact ⟨t, Nat.lt_succ_of_lt t1, t2, t3⟩, fun t ht hg => by
          by_cases e : t = y
          · subst e
            exact absurd hg.1 c1
          · exact hb t (by omega) hg⟩
  · rintro σ H' ⟨c, z, us, rfl, sm, hq', hF', hu, ha, hb⟩
    rw [List.length_map, List.length_range] at hu ha hb
    refine ⟨_, rfl, (by show 0 ≤ sizeLine; decide), fun y hy => ?_⟩
    have hF2 := (same_new (o := HO.lst []) hy) _ _ hF'
    refine ⟨_, _, .lst (SqL.of hF2) (dp_nats _), .lst (SqL.of upd_same) .nil, shaped_ints _, rfl, _, rfl, ?_⟩
    rw [eqv_nil]
    cases e : us.isEmpty with
    | true =>
      rw [List.isEmpty_iff] at e
      subst e
      refine if_false_of rfl (k1 (soonest_none h1 fun s hs hg => ?_) _ (sm.trans (same_new hy)))
      obtain ⟨v, hv, _⟩ := hb s hs hg
      cases hv
    | false =>
      rw [ints_nats] at hF2
      refine if_true_of rfl ⟨_, rfl, F0, _, rfl, SqL.of hF2, ?_, fun x hx hle => ?_⟩
      · rw [List.length_map, List.length_pos_iff]
        intro z
        rw [z] at e
        cases e
      · obtain ⟨v, hv, e2⟩ := List.mem_map.mp hx
        subst e2
        obtain ⟨s, t1, t2, t3⟩ := ha v hv
        refine k2 v (soonest_some h1 t1 t2 t3 fun b hb1 hb2 => ?_) _ (sm.trans (same_new hy))
        obtain ⟨u, u1, u2⟩ := hb b hb1 hb2
        exact ⟨u, u2, Int.ofNat_le.mp (hle _ (List.mem_map.mpr ⟨u, u1, rfl⟩))⟩
end
end Pg
namespace Pg
open PySem PySem.Spec PyProof.Rows L2
section
variable {P : Program} {w : World} {K : PySem.W.Frag} {mg : Str → Option Value} {base : Heap} {C : Addr}
abbrev sTold : Stmt := top 21
theorem scTold : FnScope ["many", "spots", "seconds", "found"] ["many", "spots", "seconds"] (defScope sTold) := ⟨rfl, rfl, rfl, by decide +kernel, rfl, by decide +kernel, by decide +kernel⟩
theorem ok_told {f : Addr} {fd : FuncData} (F : Fun K "told_soonest" "told_soonest" sTold f fd) (DP : Def P w K mg base (L2.CX P w) 4 "places_of" ["spots", "seconds"] (spPlaces K C)) (DL : Def P w K mg base CX0 4 "least_limit" ["places", "many", "spots"] (spLeastLimit K))
    (DW : Def P w K mg base (L2.CX P w) 3 "want" ["truth", "code"] (spWant C)) (gN : ∃ t, mg "NONE" = some (.int (-33) t)) :
    FnOk P w K mg base (L2.CX P w) 7 f fd ["many", "spots", "seconds"] (spTold3 K C ansSoonest) := by
  refine F.okX scTold (fun vs H Q E h => ?_) (fun cdv A outer s H vs Q E hr h => ?_)
  · obtain ⟨t, n, a, l, rfl, _⟩ := h
    rfl
  obtain ⟨t, n, a, l, rfl, ha, hl, k1, k2⟩ := h
  refine ⟨_, pss_cons (ps_set (i := 3) scTold.nd rfl (Or.inl rfl) (pe_def DL (hr.mono (by decide)) (by rfl) (pa_cons (pe_defX DP (hr.mono (by decide)) (by rfl) (takes_of rfl rfl rfl rfl) (pa_cons (pv 1) (pa_cons (pv 2) pa_nil))) (pa_cons (pv 0) (pa_cons (pv 1) pa_nil)))))
    (pss_cons (ps_expr (pe_defX DW (hr.mono (by decide)) (by rfl) (takes_of rfl rfl rfl rfl) (pa_cons (pe_cmpR op_notN (pv 3) pe_non (nomark _)) (pa_cons (pe_gint (by rfl) gN) pa_nil))))
    (pss_one (ps_ret (pe_lst (pa_cons (pv 3) pa_nil))))), ?_⟩
  refine ⟨_, rfl, _, rfl, n, a, l, rfl, ha, hl, fun hf H1 p s1 hp => ?_, fun nf => k2 (-22) ?_⟩
  · have hp : Plc K H1 p (poolOf n l).secs := hp
    refine ⟨_, rfl, _, rfl, p, poolOf n l, t, rfl, hp, pool_len hf, pool_rows hf, hf.1, hf.2.1, fun none H2 s2 => ?_, fun s some H2 s2 => ?_⟩
    · refine ⟨_, rfl, rfl, false, -33, rfl, fun z => Bool.noConfusion z, fun _ => (k2 (-33) ?_).from (s1.trans s2)⟩
      unfold ansSoonest Ks440.answer
      dsimp only
      rw [given_fine hf, none, out_no]
    · refine ⟨_, rfl, rfl, true, -33, rfl, fun _ => ?_, fun z => Bool.noConfusion z⟩
      refine ⟨_, rfl, (by show 1 ≤ sizeLine; decide), fun y hy => k1 _ y ?_⟩
      rw [upd_same]
      unfold ansSoonest Ks440.answer
      dsimp only
      rw [given_fine hf, some]
      rfl
  · unfold ansSoonest Ks440.answer
    dsimp only
    rw [given_not nf, out_no]
end
end Pg
namespace Pg
open PySem PySem.Spec PyProof.Rows L2
section
variable {P : Program} {w : World} {K : PySem.W.Frag} {mg : Str → Option Value} {base : Heap} {C : Addr}
abbrev sCall : Stmt := top 23
theorem scCall : FnScope ["n", "spots", "seconds", "e"] ["n", "spots", "seconds"] (defScope sCall) := ⟨rfl, rfl, rfl, by decide +kernel, rfl, by decide +kernel, by decide +kernel⟩
theorem ok_call {f : Addr} {fd : FuncData} (F : Fun K "soonest" "soonest" sCall f fd) (T : RefTxt K mg C) (D : Def P w K mg base (L2.CX P w) 7 "told_soonest" ["many", "spots", "seconds"] (spTold3 K C ansSoonest)) :
    FnOk P w K mg base CX0 8 f fd ["n", "spots", "seconds"] (spCall3 ansSoonest K) := by
  refine F.ok scCall (fun vs H Q E h => ?_) (fun cdv A outer s H vs Q E hr h => ?_)
  · obtain ⟨t, n, a, l, rfl, _⟩ := h
    rfl
  obtain ⟨t, n, a, l, rfl, ha, hl, k⟩ := h
  refine ⟨_, pss_one (ps_try_as (i := 3) (tb := fun W => tRet (tCallS (spTold3 K C ansSoonest) (WE W) (tCons (tVar 0) (tCons (tVar 1) (tCons (tVar 2) tNil)))))
      (ts := fun a cls d => tRet (tLst (tCons (tXf a cls d C "code" (tVar 3)) tNil))) (Wout := fun _ _ _ _ => False) rfl rfl scCall.nd rfl rfl ⟨rfl, by decide, Or.inl T.gC⟩ takes0
    (fun W pn xe tk _ => pss_one (ps_ret (pe_defX D hr (by rfl) tk (pa_cons (pv 0) (pa_cons (pv 1) (pa_cons (pv 2) pa_nil))))))
    (fun a oe cls d pn hz hf => pss_one (ps_ret (pe_lst (pa_cons (pe_xf T.xf T.noC hz hf (pv 3)) pa_nil))))), ?_⟩
  refine ⟨_, rfl, _, rfl, _, rfl, t, n, a, l, rfl, ha, hl, k, fun c e H' d sm hd => ?_⟩
  refine ⟨true, T.te, fun _ a0 _ => ?_, fun q => Bool.noConfusion q⟩
  refine ⟨_, rfl, rfl, rfl, d, _, .int c, rfl, hd, by simp [List.lookup], (by show 1 ≤ sizeLine; decide), fun p hp => k _ p ?_⟩
  rw [e, upd_same]
  rfl
end
end Pg
namespace Pg
open PySem PySem.Spec PyProof.Rows L2
/-! ## The end: what the top has written -/
/-- except S takes an error of S itself -/
theorem exm_same {K : PySem.W.Frag} {S : Addr} (h1 : PySem.W.subIn K (.ref S) (.type "BaseException") = some true) (h2 : PySem.W.isClsIn K S = true) (h3 : PySem.W.typeIn K (.ref S) = some (.type "type")) (h4 : PySem.W.subIn K (.ref S) (.ref S) = some true) : PySem.W.exmOne K (.ref S) (.ref S) = some true := by
  have e1 : (PySem.W.subIn K (.ref S) (.type "BaseException") == some true) = true := by
    rw [h1] <;> rfl
  have h5 : (PySem.W.clsIn K S).isSome = true := h2
  have e2 : ((PySem.W.clsIn K S).isSome && PySem.W.typeIn K (.ref S) == some (.type "type")) = true := by
    rw [h5, h3] <;> rfl
  exact (if_pos e1).trans ((if_pos e2).trans h4)
theorem all_mk {P : Program} {w : World} {K : PySem.W.Frag} {h : Heap} {mg : Str → Option Value} {fa C fI f0 f1 f2 f3 f4 f5 f6 f7 f8 f9 f10 : Addr} (X : K.In h) (G : h.Ns mainGlobals mg) (hfa : mg "soonest" = some (.ref fa))
    {nm q : Str} {N : Addr} {bs : List Value} {sn : List Str} {sub : List Value} {ab : Bool} {col : Option Bool} {dd : Option Addr} {m0 m1 m2 m3 m5 : Option Value}
    {odI anI od0 an0 od1 an1 od2 an2 od3 an3 od4 an4 od5 an5 od6 an6 od7 an7 od8 an8 od9 an9 od10 an10 : Option Addr} {slI sl0 sl1 sl2 sl3 sl4 sl5 sl6 sl7 sl8 sl9 sl10 : Array (Option Value)} {ocI kVI dcI pmI cdI ctI oc0 kV0 dc0 pm0 cd0 ct0 oc1 kV1 dc1 pm1 cd1 ct1 oc2 kV2 dc2 pm2 cd2 ct2 oc3 kV3 dc3 pm3 cd3 ct3 oc4 kV4 dc4 pm4 cd4 ct4 oc5 kV5 dc5 pm5 cd5 ct5 oc6 kV6 dc6 pm6 cd6 ct6 oc7 kV7 dc7 pm7 cd7 ct7 oc8 kV8 dc8 pm8 cd8 ct8 oc9 kV9 dc9 pm9 cd9 ct9 oc10 kV10 dc10 pm10 cd10 ct10 : Value} {tBAD tNONE tMOST_SPOTS tMOST_PLACES tMOST_SECONDS tWANTED : Tok}
    (aC : PySem.W.nsIn K mainGlobals "Refused" = some (some (.ref C)))
    (xL : K.lookup C = some (excClassObj nm q C N bs [.type "ValueError", .type "Exception", .type "BaseException", .type "object"] true sn sub ab col dd m0 m1 m2 m3 m5 "ValueError.__new__"))
    (sa : PySem.W.findIn K (.ref C) "__setattr__" = some (some (.builtin "object.__setattr__")))
    (ga : PySem.W.findIn K (.ref C) "__getattribute__" = some (some (.builtin "BaseException.__getattribute__")))
    (gg : PySem.W.findIn K (.ref C) "__getattr__" = some none)
    (nb : PySem.W.findIn K (.ref C) "code" = some none)
    (vV : PySem.W.findCls K (.type "ValueError") (.type "type") "__init__" = some (.val (.builtin "ValueError.__init__")))
    (aI : PySem.W.findIn K (.ref C) "__init__" = some (some (.ref fI)))
    (tI : PySem.W.typeIn K (.ref fI) = some (.type "function"))
    (lI : K.lookup fI = some ⟨ocI, odI, .func (PySem.W.fnOf "__init__" "Refused.__init__" (defArgs sInit) (defBody sInit) (defScope sInit) .none kVI dcI pmI anI cdI ctI), slI⟩)
    (cI : PySem.W.codeIn K cdI "Refused.__init__" = true)
    (kI : PySem.W.keepIn K (.ref fI) = true)
    (kC : PySem.W.keepIn K (.ref C) = true)
    (eC : PySem.W.subIn K (.ref C) (.type "BaseException") = some true)
    (tC : PySem.W.typeIn K (.ref C) = some (.type "type"))
    (hC : PySem.W.hasDictIn K C = true)
    (iC : PySem.W.isClsIn K C = true)
    (sC : PySem.W.subIn K (.ref C) (.ref C) = some true)
    (a0 : PySem.W.nsIn K mainGlobals "want" = some (some (.ref f0)))
    (l0 : K.lookup f0 = some ⟨oc0, od0, .func (PySem.W.fnOf "want" "want" (defArgs sWant) (defBody sWant) (defScope sWant) .none kV0 dc0 pm0 an0 cd0 ct0), sl0⟩)
    (c0 : PySem.W.codeIn K cd0 "want" = true)
    (k0 : PySem.W.keepIn K (.ref f0) = true)
    (a1 : PySem.W.nsIn K mainGlobals "are_seconds" = some (some (.ref f1)))
    (l1 : K.lookup f1 = some ⟨oc1, od1, .func (PySem.W.fnOf "are_seconds" "are_seconds" (defArgs sAre) (defBody sAre) (defScope sAre) .none kV1 dc1 pm1 an1 cd1 ct1), sl1⟩)
    (c1 : PySem.W.codeIn K cd1 "are_seconds" = true)
    (k1 : PySem.W.keepIn K (.ref f1) = true)
    (a2 : PySem.W.nsIn K mainGlobals "places_of" = some (some (.ref f2)))
    (l2 : K.lookup f2 = some ⟨oc2, od2, .func (PySem.W.fnOf "places_of" "places_of" (defArgs sPlaces) (defBody sPlaces) (defScope sPlaces) .none kV2 dc2 pm2 an2 cd2 ct2), sl2⟩)
    (c2 : PySem.W.codeIn K cd2 "places_of" = true)
    (k2 : PySem.W.keepIn K (.ref f2) = true)
    (a3 : PySem.W.nsIn K mainGlobals "has" = some (some (.ref f3)))
    (l3 : K.lookup f3 = some ⟨oc3, od3, .func (PySem.W.fnOf "has" "has" (defArgs sHas) (defBody sHas) (defScope sHas) .none kV3 dc3 pm3 an3 cd3 ct3), sl3⟩)
    (c3 : PySem.W.codeIn K cd3 "has" = true)
    (k3 : PySem.W.keepIn K (.ref f3) = true)
    (a4 : PySem.W.nsIn K mainGlobals "members" = some (some (.ref f4)))
    (l4 : K.lookup f4 = some ⟨oc4, od4, .func (PySem.W.fnOf "members" "members" (defArgs sMembers) (defBody sMembers) (defScope sMembers) .none kV4 dc4 pm4 an4 cd4 ct4), sl4⟩)
    (c4 : PySem.W.codeIn K cd4 "members" = true)
    (k4 : PySem.W.keepIn K (.ref f4) = true)
    (a5 : PySem.W.nsIn K mainGlobals "all_sets" = some (some (.ref f5)))
    (l5 : K.lookup f5 = some ⟨oc5, od5, .func (PySem.W.fnOf "all_sets" "all_sets" (defArgs sAllSets) (defBody sAllSets) (defScope sAllSets) .none kV5 dc5 pm5 an5 cd5 ct5), sl5⟩)
    (c5 : PySem.W.codeIn K cd5 "all_sets" = true)
    (k5 : PySem.W.keepIn K (.ref f5) = true)
    (a6 : PySem.W.nsIn K mainGlobals "second_least" = some (some (.ref f6)))
    (l6 : K.lookup f6 = some ⟨oc6, od6, .func (PySem.W.fnOf "second_least" "second_least" (defArgs sSecond) (defBody sSecond) (defScope sSecond) .none kV6 dc6 pm6 an6 cd6 ct6), sl6⟩)
    (c6 : PySem.W.codeIn K cd6 "second_least" = true)
    (k6 : PySem.W.keepIn K (.ref f6) = true)
    (a7 : PySem.W.nsIn K mainGlobals "limit_of" = some (some (.ref f7)))
    (l7 : K.lookup f7 = some ⟨oc7, od7, .func (PySem.W.fnOf "limit_of" "limit_of" (defArgs sLimitOf) (defBody sLimitOf) (defScope sLimitOf) .none kV7 dc7 pm7 an7 cd7 ct7), sl7⟩)
    (c7 : PySem.W.codeIn K cd7 "limit_of" = true)
    (k7 : PySem.W.keepIn K (.ref f7) = true)
    (a8 : PySem.W.nsIn K mainGlobals "least_limit" = some (some (.ref f8)))
    (l8 : K.lookup f8 = some ⟨oc8, od8, .func (PySem.W.fnOf "least_limit" "least_limit" (defArgs sLeastLimit) (defBody sLeastLimit) (defScope sLeastLimit) .none kV8 dc8 pm8 an8 cd8 ct8), sl8⟩)
    (c8 : PySem.W.codeIn K cd8 "least_limit" = true)
    (k8 : PySem.W.keepIn K (.ref f8) = true)
    (a9 : PySem.W.nsIn K mainGlobals "told_soonest" = some (some (.ref f9)))
    (l9 : K.lookup f9 = some ⟨oc9, od9, .func (PySem.W.fnOf "told_soonest" "told_soonest" (defArgs sTold) (defBody sTold) (defScope sTold) .none kV9 dc9 pm9 an9 cd9 ct9), sl9⟩)
    (c9 : PySem.W.codeIn K cd9 "told_soonest" = true)
    (k9 : PySem.W.keepIn K (.ref f9) = true)
    (a10 : PySem.W.nsIn K mainGlobals "soonest" = some (some (.ref f10)))
    (l10 : K.lookup f10 = some ⟨oc10, od10, .func (PySem.W.fnOf "soonest" "soonest" (defArgs sCall) (defBody sCall) (defScope sCall) .none kV10 dc10 pm10 an10 cd10 ct10), sl10⟩)
    (c10 : PySem.W.codeIn K cd10 "soonest" = true)
    (k10 : PySem.W.keepIn K (.ref f10) = true)
    (gBAD : PySem.W.nsIn K mainGlobals "BAD" = some (some (.int (-22) tBAD)))
    (gNONE : PySem.W.nsIn K mainGlobals "NONE" = some (some (.int (-33) tNONE)))
    (gMOST_SPOTS : PySem.W.nsIn K mainGlobals "MOST_SPOTS" = some (some (.int (8) tMOST_SPOTS)))
    (gMOST_PLACES : PySem.W.nsIn K mainGlobals "MOST_PLACES" = some (some (.int (8) tMOST_PLACES)))
    (gMOST_SECONDS : PySem.W.nsIn K mainGlobals "MOST_SECONDS" = some (some (.int (999) tMOST_SECONDS)))
    (gWANTED : PySem.W.nsIn K mainGlobals "WANTED" = some (some (.int (2) tWANTED)))
    (zValueError : PySem.W.nsIn K mainGlobals "ValueError" = some none)
    (zlen : PySem.W.nsIn K mainGlobals "len" = some none)
    (zrange : PySem.W.nsIn K mainGlobals "range" = some none)
    (zall : PySem.W.nsIn K mainGlobals "all" = some none)
    (zint : PySem.W.nsIn K mainGlobals "int" = some none)
    (zlist : PySem.W.nsIn K mainGlobals "list" = some none)
    (zmin : PySem.W.nsIn K mainGlobals "min" = some none)
    (zmax : PySem.W.nsIn K mainGlobals "max" = some none)
    (zsorted : PySem.W.nsIn K mainGlobals "sorted" = some none)
    : ∃ fd : FuncData, (∀ (s : Shared) (us : List Value), us.length = (["n", "spots", "seconds"] : List Str).length → BindsTo s fd ⟨us, []⟩ ((["n", "spots", "seconds"] : List Str).zip us)) ∧ ∀ base : Heap, K.In base → base.Ns mainGlobals mg → FnOk P w K mg base CX0 8 fa fd ["n", "spots", "seconds"] (spCall3 ansSoonest K) := by
  have e := hfa.symm.trans (PySem.W.mg_of X G a10)
  cases e
  have m_ValueError : mg "ValueError" = none := PySem.W.mg_none_of X G zValueError
  have m_len : mg "len" = none := PySem.W.mg_none_of X G zlen
  have m_range : mg "range" = none := PySem.W.mg_none_of X G zrange
  have m_all : mg "all" = none := PySem.W.mg_none_of X G zall
  have m_int : mg "int" = none := PySem.W.mg_none_of X G zint
  have m_list : mg "list" = none := PySem.W.mg_none_of X G zlist
  have m_min : mg "min" = none := PySem.W.mg_none_of X G zmin
  have m_max : mg "max" = none := PySem.W.mg_none_of X G zmax
  have m_sorted : mg "sorted" = none := PySem.W.mg_none_of X G zsorted
  have g_BAD : ∃ t, mg "BAD" = some (.int (-22) t) := ⟨_, PySem.W.mg_of X G gBAD⟩
  have g_NONE : ∃ t, mg "NONE" = some (.int (-33) t) := ⟨_, PySem.W.mg_of X G gNONE⟩
  have g_MOST_SPOTS : ∃ t, mg "MOST_SPOTS" = some (.int (8) t) := ⟨_, PySem.W.mg_of X G gMOST_SPOTS⟩
  have g_MOST_PLACES : ∃ t, mg "MOST_PLACES" = some (.int (8) t) := ⟨_, PySem.W.mg_of X G gMOST_PLACES⟩
  have g_MOST_SECONDS : ∃ t, mg "MOST_SECONDS" = some (.int (999) t) := ⟨_, PySem.W.mg_of X G gMOST_SECONDS⟩
  have g_WANTED : ∃ t, mg "WANTED" = some (.int (2) t) := ⟨_, PySem.W.mg_of X G gWANTED⟩
  have T : RefTxt K mg C := { gC := PySem.W.mg_of X G aC, oex := { cls := ⟨nm, q, N, bs, _, sn, sub, ab, col, dd, m0, m1, m2, m3, m5, xL, by decide +kernel⟩, sa := sa, exC := eC, tyC := tC, kC := kC }, xf := { ga := ga, gg := gg, exC := eC, hdC := hC }, noC := nb, te := exm_same eC iC tC sC, mVE := m_ValueError, vV := vV }
  have F_I := fun_mk (st := sInit) lI cI kI
  have b_I := F_I.binds (ps := ["self", "code"]) fun _ _ _ _ _ _ us hl => match us, hl with | [_, _], _ => rfl
  have F_want := fun_mk (st := sWant) l0 c0 k0
  have b_want := F_want.binds (ps := ["truth", "code"]) fun _ _ _ _ _ _ us hl => match us, hl with | [_, _], _ => rfl
  have F_are_seconds := fun_mk (st := sAre) l1 c1 k1
  have b_are_seconds := F_are_seconds.binds (ps := ["spots", "seconds"]) fun _ _ _ _ _ _ us hl => match us, hl with | [_, _], _ => rfl
  have F_places_of := fun_mk (st := sPlaces) l2 c2 k2
  have b_places_of := F_places_of.binds (ps := ["spots", "seconds"]) fun _ _ _ _ _ _ us hl => match us, hl with | [_, _], _ => rfl
  have F_has := fun_mk (st := sHas) l3 c3 k3
  have b_has := F_has.binds (ps := ["chosen", "i"]) fun _ _ _ _ _ _ us hl => match us, hl with | [_, _], _ => rfl
  have F_members := fun_mk (st := sMembers) l4 c4 k4
  have b_members := F_members.binds (ps := ["places", "chosen"]) fun _ _ _ _ _ _ us hl => match us, hl with | [_, _], _ => rfl
  have F_all_sets := fun_mk (st := sAllSets) l5 c5 k5
  have b_all_sets := F_all_sets.binds (ps := ["places"]) fun _ _ _ _ _ _ us hl => match us, hl with | [_], _ => rfl
  have F_second_least := fun_mk (st := sSecond) l6 c6 k6
  have b_second_least := F_second_least.binds (ps := ["numbers"]) fun _ _ _ _ _ _ us hl => match us, hl with | [_], _ => rfl
  have F_limit_of := fun_mk (st := sLimitOf) l7 c7 k7
  have b_limit_of := F_limit_of.binds (ps := ["places", "chosen", "spots"]) fun _ _ _ _ _ _ us hl => match us, hl with | [_, _, _], _ => rfl
  have F_least_limit := fun_mk (st := sLeastLimit) l8 c8 k8
  have b_least_limit := F_least_limit.binds (ps := ["places", "many", "spots"]) fun _ _ _ _ _ _ us hl => match us, hl with | [_, _, _], _ => rfl
  have F_told_soonest := fun_mk (st := sTold) l9 c9 k9
  have b_told_soonest := F_told_soonest.binds (ps := ["many", "spots", "seconds"]) fun _ _ _ _ _ _ us hl => match us, hl with | [_, _, _], _ => rfl
  have F_soonest := fun_mk (st := sCall) l10 c10 k10
  refine ⟨PySem.W.fnOf "soonest" "soonest" (defArgs sCall) (defBody sCall) (defScope sCall) .none kV10 dc10 pm10 an10 cd10 ct10, fun s us hu => match us, hu with | [_, _, _], _ => .of_eq rfl, fun base _ _ => ?_⟩
  have I : IniTxt P w K mg base C (spInit C) := ⟨_, _, ok_init F_I T, aI, tI, b_I⟩
  have D_want : Def P w K mg base (L2.CX P w) 3 "want" ["truth", "code"] (spWant C) := ⟨_, _, ok_want F_want T I, PySem.W.mg_of X G a0, k0, b_want⟩
  have D_are_seconds : Def P w K mg base CX0 1 "are_seconds" ["spots", "seconds"] (spAre K) := ⟨_, _, ok_are F_are_seconds m_len m_all g_MOST_PLACES g_MOST_SECONDS, PySem.W.mg_of X G a1, k1, b_are_seconds⟩
  have D_places_of : Def P w K mg base (L2.CX P w) 4 "places_of" ["spots", "seconds"] (spPlaces K C) := ⟨_, _, ok_places F_places_of D_want D_are_seconds m_len m_range g_BAD g_MOST_SPOTS, PySem.W.mg_of X G a2, k2, b_places_of⟩
  have D_has : Def P w K mg base CX0 1 "has" ["chosen", "i"] (spHas) := ⟨_, _, ok_has F_has, PySem.W.mg_of X G a3, k3, b_has⟩
  have D_members : Def P w K mg base CX0 2 "members" ["places", "chosen"] (spMembers K) := ⟨_, _, ok_members F_members D_has m_len m_range, PySem.W.mg_of X G a4, k4, b_members⟩
  have D_all_sets : Def P w K mg base CX0 1 "all_sets" ["places"] (spAllSets K) := ⟨_, _, ok_all_sets F_all_sets m_len m_range m_list, PySem.W.mg_of X G a5, k5, b_all_sets⟩
  have D_second_least : Def P w K mg base CX0 1 "second_least" ["numbers"] (spSecond K) := ⟨_, _, ok_second F_second_least m_sorted g_WANTED, PySem.W.mg_of X G a6, k6, b_second_least⟩
  have D_limit_of : Def P w K mg base CX0 3 "limit_of" ["places", "chosen", "spots"] (spLimitOf K) := ⟨_, _, ok_limit_of F_limit_of D_members D_second_least m_max m_range, PySem.W.mg_of X G a7, k7, b_limit_of⟩
  have D_least_limit : Def P w K mg base CX0 4 "least_limit" ["places", "many", "spots"] (spLeastLimit K) := ⟨_, _, ok_least_limit F_least_limit D_members D_all_sets D_limit_of m_len m_min g_WANTED, PySem.W.mg_of X G a8, k8, b_least_limit⟩
  have D_told_soonest : Def P w K mg base (L2.CX P w) 7 "told_soonest" ["many", "spots", "seconds"] (spTold3 K C ansSoonest) := ⟨_, _, ok_told F_told_soonest D_places_of D_least_limit D_want g_NONE, PySem.W.mg_of X G a9, k9, b_told_soonest⟩
  exact ok_call F_soonest T D_told_soonest
end Pg
open PySem PySem.W PyProof.Rows
set_option maxRecDepth 100000 in
set_option maxHeartbeats 8000000 in
theorem PySem.Challenge.cw_poolguards_s03_soonest_holds : PySem.Challenge.rw_poolguards_s03_soonest.Holds := by
  w_on; k_headS; (case hw => exact ⟨[.int 0, .int 0, .list []], by decide +kernel, by decide +kernel⟩)
  k_fillS
  refine L2.walk_specK (r := PySem.Challenge.rw_poolguards_s03_soonest) (k := 8) (CX := L2.CX0) (ps := ["n", "spots", "seconds"]) (sp := Pg.spCall3 Pg.ansSoonest) (by decide +kernel) rfl rfl ⟨rfl, by decide, by decide⟩ (fun w h Y => PySem.W.kIn_of Y) ?F ?S (fun _ _ _ _ z => z)
  case F =>
    intro w mg fa h Y KX G hmg
    refine' Pg.all_mk KX G hmg ?aC ?xL ?sa ?ga ?gg ?nb ?vV ?aI ?tI ?lI ?cI ?kI ?kC ?eC ?tC ?hC ?iC ?sC ?a0 ?l0 ?c0 ?k0 ?a1 ?l1 ?c1 ?k1 ?a2 ?l2 ?c2 ?k2 ?a3 ?l3 ?c3 ?k3 ?a4 ?l4 ?c4 ?k4 ?a5 ?l5 ?c5 ?k5 ?a6 ?l6 ?c6 ?k6 ?a7 ?l7 ?c7 ?k7 ?a8 ?l8 ?c8 ?k8 ?a9 ?l9 ?c9 ?k9 ?a10 ?l10 ?c10 ?k10 ?gBAD ?gNONE ?gMOST_SPOTS ?gMOST_PLACES ?gMOST_SECONDS ?gWANTED ?zValueError ?zlen ?zrange ?zall ?zint ?zlist ?zmin ?zmax ?zsorted
    (case aC => k_is)
    (case xL => k_is)
    (case sa => k_is)
    (case ga => k_is)
    (case gg => k_is)
    (case nb => k_is)
    (case vV => k_is)
    (case aI => k_is)
    (case tI => k_is)
    (case lI => k_is)
    (case cI => k_is)
    (case kI => k_is)
    (case kC => k_is)
    (case eC => k_is)
    (case tC => k_is)
    (case hC => k_is)
    (case iC => k_is)
    (case sC => first | rfl | k_is)
    (case a0 => k_is)
    (case l0 => k_is)
    (case c0 => k_is)
    (case k0 => k_is)
    (case a1 => k_is)
    (case l1 => k_is)
    (case c1 => k_is)
    (case k1 => k_is)
    (case a2 => k_is)
    (case l2 => k_is)
    (case c2 => k_is)
    (case k2 => k_is)
    (case a3 => k_is)
    (case l3 => k_is)
    (case c3 => k_is)
    (case k3 => k_is)
    (case a4 => k_is)
    (case l4 => k_is)
    (case c4 => k_is)
    (case k4 => k_is)
    (case a5 => k_is)
    (case l5 => k_is)
    (case c5 => k_is)
    (case k5 => k_is)
    (case a6 => k_is)
    (case l6 => k_is)
    (case c6 => k_is)
    (case k6 => k_is)
    (case a7 => k_is)
    (case l7 => k_is)
    (case c7 => k_is)
    (case k7 => k_is)
    (case a8 => k_is)
    (case l8 => k_is)
    (case c8 => k_is)
    (case k8 => k_is)
    (case a9 => k_is)
    (case l9 => k_is)
    (case c9 => k_is)
    (case k9 => k_is)
    (case a10 => k_is)
    (case l10 => k_is)
    (case c10 => k_is)
    (case k10 => k_is)
    (case gBAD => k_is)
    (case gNONE => k_is)
    (case gMOST_SPOTS => k_is)
    (case gMOST_PLACES => k_is)
    (case gMOST_SECONDS => k_is)
    (case gWANTED => k_is)
    (case zValueError => k_is)
    (case zlen => k_is)
    (case zrange => k_is)
    (case zall => k_is)
    (case zint => k_is)
    (case zlist => k_is)
    (case zmin => k_is)
    (case zmax => k_is)
    (case zsorted => k_is)
  case S =>
    intro K H xs a hO hwi hask hx
    obtain ⟨t, n, l, u⟩ := a
    have hw : (Codec.inInt 0 4294967295 t && (Codec.inInt 0 4294967295 n && ((Codec.inLen 0 72 l && l.all (Codec.inInt 0 4294967295)) && true))) = true := hwi
    have hx2 : L2.DwAll K H xs [.int t, .int n, .list (l.map WData.int)] := hx
    exact Pg.end3 (ans := Pg.ansSoonest) hw hx2 rfl
#print axioms PySem.Challenge.cw_poolguards_s03_soonest_holds
