import PyProof.Rows.All
import Wide.All
import OpenK.AllK
import Wide.FinOn
import HandS.ForMost
import HandS.Exc
import HandS.ExcOwn
import HandS.WordsExc
import HandS.ExcInit
import HandS.ExcField
import HandS.Lambda
import HandS.EndBits
import HandS.EndTab
import HandS.Flow
import HandS.IsInst
import HandS.Zip
import HandS.Walk
import HandS.DictComp
import HandS.More
import HandS.Sort
import HandS.Set
import HandS.TupSets
import HandS.SetFor
import HandS.NoneIn
import HandS.TupAny
import HandS.Conv
import HandS.Strs
import HandS.CallLocal
import HandS.Small
import KE.KeyNested
import HandS.TryOnly
import PySem.Challenge.RW_wholecommits_k58_whole_given_up_as_if_ne
set_option Elab.async false
set_option linter.all false
set_option maxRecDepth 100000
set_option maxHeartbeats 4000000
namespace K58
open PySem L2
/-! the text by places -/
def top (i : Nat) : Stmt := PySem.Challenge.pw_wholecommits_k58_whole_given_up_as_if_ne.main.body.getD i (.Pass ⟨0, 0, 0, 0⟩)
abbrev sInteger : Stmt := top 5
abbrev sWithin : Stmt := top 6
abbrev sPair : Stmt := top 7
abbrev sKey : Stmt := top 8
abbrev sWorth : Stmt := top 9
abbrev sRefInit : Stmt := inClass (top 17) 0
abbrev sRising : Stmt := top 19
abbrev sKeys : Stmt := top 20
abbrev sRange : Stmt := top 21
abbrev sRanges : Stmt := top 22
abbrev sWrite : Stmt := top 23
abbrev sWrites : Stmt := top 24
abbrev sSaw : Stmt := top 25
abbrev sTrInit : Stmt := inClass (top 26) 0
abbrev sTrSeen : Stmt := inClass (top 26) 1
abbrev sTrOf : Stmt := inClass (top 26) 2
abbrev sTied : Stmt := top 27
abbrev sBegins : Stmt := top 29
abbrev sWays : Stmt := top 30
abbrev sKept : Stmt := top 31
abbrev sRing : Stmt := top 33
abbrev sCkInit : Stmt := inClass (top 34) 0
abbrev sCkOpens : Stmt := inClass (top 34) 1
abbrev sCkOpen : Stmt := inClass (top 34) 2
abbrev sCkTrace : Stmt := inClass (top 34) 3
abbrev sCkWould : Stmt := inClass (top 34) 4
abbrev sCkCommits : Stmt := inClass (top 34) 5
abbrev sCkGives : Stmt := inClass (top 34) 6
abbrev sCkClose : Stmt := inClass (top 34) 7
abbrev sCkLast : Stmt := inClass (top 34) 8
abbrev sCkOes : Stmt := inClass (top 34) 9
abbrev sCkRem : Stmt := inClass (top 34) 10
abbrev sHand : Stmt := top 36
abbrev sDraw : Stmt := top 37
abbrev sSome : Stmt := top 38
abbrev sLKeys : Stmt := top 39
abbrev sLRange : Stmt := top 40
abbrev sLSeen : Stmt := top 41
abbrev sLWrites : Stmt := top 42
abbrev sTold : Stmt := top 43
abbrev sCommon : Stmt := top 44
abbrev sFurther : Stmt := top 45
abbrev sLaw : Stmt := top 46
/-- a def of the top, known and kept -/
structure Def (P : Program) (w : World) (K : PySem.W.Frag) (mg : Str → Option Value) (base : Heap) (CX : CXT) (k : Nat) (x : Str) (f : Addr) (fd : FuncData) (ps : List Str) (sp : Sp) : Prop where
  ok : FnOk P w K mg base CX k f fd ps sp
  gl : mg x = some (.ref f)
  kp : PySem.W.keepIn K (.ref f) = true
  bd : Binds K fd ps []
/-- a method -/
structure MDef (P : Program) (w : World) (K : PySem.W.Frag) (mg : Str → Option Value) (base : Heap) (CX : CXT) (k : Nat) (C : Addr) (x : Str) (f : Addr) (fd : FuncData) (ps : List Str) (sp : Sp) : Prop where
  ok : FnOk P w K mg base CX k f fd ps sp
  mt : Meth K C x f
  bd : Binds K fd ps []
section
variable {P : Program} {w : World} {K : PySem.W.Frag} {mg : Str → Option Value} {base : Heap}
theorem scInteger : FnScope ["thing"] ["thing"] (defScope sInteger) := ⟨rfl, rfl, rfl, by decide +kernel, rfl, by decide +kernel, by decide +kernel⟩
theorem scWithin : FnScope ["thing", "least", "most"] ["thing", "least", "most"] (defScope sWithin) := ⟨rfl, rfl, rfl, by decide +kernel, rfl, by decide +kernel, by decide +kernel⟩
theorem scPair : FnScope ["thing"] ["thing"] (defScope sPair) := ⟨rfl, rfl, rfl, by decide +kernel, rfl, by decide +kernel, by decide +kernel⟩
end
end K58

namespace K58
open PySem L2
/-- the built-ins' names are free -/
structure Bi (mg : Str → Option Value) : Prop where
  isi : mg "isinstance" = none
  int : mg "int" = none
  bool : mg "bool" = none
  str : mg "str" = none
  tuple : mg "tuple" = none
  list : mg "list" = none
  set : mg "set" = none
  len : mg "len" = none
  all : mg "all" = none
  any : mg "any" = none
  zip : mg "zip" = none
  min : mg "min" = none
  max : mg "max" = none
  sorted : mg "sorted" = none
  range : mg "range" = none
  abs : mg "abs" = none
theorem ki_int : PySem.W.kitOne K (.type "int") (.type "int") = some true := kit_ty (by decide +kernel)
theorem ki_int_bool : PySem.W.kitOne K (.type "int") (.type "bool") = some false := kit_ty (by decide +kernel)
theorem ki_str : PySem.W.kitOne K (.type "str") (.type "str") = some true := kit_ty (by decide +kernel)
theorem ki_tup : PySem.W.kitOne K (.type "tuple") (.type "tuple") = some true := kit_ty (by decide +kernel)
/-- a key: 1 to 12 letters from a to z -/
structure KeyT (z : Str) : Prop where
  lo : 1 ≤ z.length
  hi : z.length ≤ 12
  az : ∀ c ∈ z.cps.toList, 97 ≤ c ∧ c ≤ 122
def spInteger : Sp := fun vs H Q _ => ∃ i : Int, vs = [.int i] ∧ Q (.bl true) H
def spWithin : Sp := fun vs H Q _ => ∃ i lo hi : Int, vs = [.int i, .int lo, .int hi] ∧ Q (.bl (decide (lo ≤ i) && decide (i ≤ hi))) H
def spPair : Sp := fun vs H Q _ => ∃ (a : Addr) (xs : List V), vs = [.ref a] ∧ H a = some (.tup xs) ∧ xs.length = 2 ∧ Q (.bl true) H
def spKey : Sp := fun vs H Q _ => ∃ z : Str, vs = [.str z] ∧ KeyT z ∧ ∀ H', Same H H' → Q (.bl true) H'
def big : Int := 1000000000000000000
def spWorth : Sp := fun vs H Q _ => ∃ i : Int, vs = [.int i] ∧ -big ≤ i ∧ i ≤ big ∧ Q (.bl true) H
section
variable {P : Program} {w : World} {K : PySem.W.Frag} {mg : Str → Option Value} {base : Heap}
theorem ok_integer {f : Addr} {fd : FuncData} (F : Fun K "is_integer" "is_integer" sInteger f fd) (B : Bi mg) : FnOk P w K mg base CX0 1 f fd ["thing"] spInteger := by
  refine F.ok scInteger (fun vs H Q E h => ?_) (fun cdv A outer s H vs Q E hr h => ?_)
  · obtain ⟨i, rfl, _⟩ := h
    rfl
  · obtain ⟨i, rfl, k⟩ := h
    refine ⟨_, pss_one (ps_ret (pe_and (pe_callB call_isi (by rfl) B.isi (by decide +kernel) (pa_cons (pv 0) (pa_cons (pe_bltn (v := .ty "int") (by rfl) B.int (by decide +kernel) rfl) pa_nil)))
      (pe_one (pe_not (pe_callB call_isi (by rfl) B.isi (by decide +kernel) (pa_cons (pv 0) (pa_cons (pe_bltn (v := .ty "bool") (by rfl) B.bool (by decide +kernel) rfl) pa_nil))))))), ?_⟩
    refine ⟨_, rfl, _, _, _, _, _, rfl, .ty _, .base (.int i), ki_int, true, rfl, iteT ?_⟩
    exact ⟨_, rfl, _, _, _, _, _, rfl, .ty _, .base (.int i), ki_int_bool, false, rfl, k⟩
theorem ok_within {f fI : Addr} {fd fdI : FuncData} (F : Fun K "is_within" "is_within" sWithin f fd) (D : Def P w K mg base CX0 1 "is_integer" fI fdI ["thing"] spInteger) : FnOk P w K mg base CX0 2 f fd ["thing", "least", "most"] spWithin := by
  refine F.ok scWithin (fun vs H Q E h => ?_) (fun cdv A outer s H vs Q E hr h => ?_)
  · obtain ⟨i, lo, hi, rfl, _⟩ := h
    rfl
  · obtain ⟨i, lo, hi, rfl, k⟩ := h
    refine ⟨_, pss_one (ps_ret (pe_and (pe_call D.ok hr (by rfl) D.gl D.kp D.bd .nil pass0 (pa_cons (pv 0) pa_nil))
      (pe_one (pe_chain op_le op_le (pv 1) (pv 0) (pv 2))))), ?_⟩
    refine ⟨_, rfl, i, rfl, true, rfl, iteT ?_⟩
    refine ⟨_, rfl, _, rfl, _, _, rfl, rfl, decide (lo ≤ i), rfl, ?_⟩
    cases e : decide (lo ≤ i) with
    | true =>
      rw [e] at k
      exact iteT ⟨_, rfl, _, _, rfl, rfl, k⟩
    | false =>
      rw [e] at k
      exact iteF k
theorem ok_pair {f : Addr} {fd : FuncData} (F : Fun K "is_pair" "is_pair" sPair f fd) (B : Bi mg) : FnOk P w K mg base CX0 1 f fd ["thing"] spPair := by
  refine F.ok scPair (fun vs H Q E h => ?_) (fun cdv A outer s H vs Q E hr h => ?_)
  · obtain ⟨a, xs, rfl, _⟩ := h
    rfl
  · obtain ⟨a, xs, rfl, ha, hl, k⟩ := h
    refine ⟨_, pss_one (ps_ret (pe_and (pe_callB call_isi (by rfl) B.isi (by decide +kernel) (pa_cons (pv 0) (pa_cons (pe_bltn (v := .ty "tuple") (by rfl) B.tuple (by decide +kernel) rfl) pa_nil)))
      (pe_one (pe_cmpR op_eq (pe_callB call_len (by rfl) B.len (by decide +kernel) (pa_cons (pv 0) pa_nil)) pe_int (nomark _))))), ?_⟩
    refine ⟨_, rfl, _, _, _, _, _, rfl, .ty _, .base (.tup ha), ki_tup, true, rfl, iteT ?_⟩
    refine ⟨_, rfl, _, 2, rfl, .inr ⟨xs, SqT.of ha, hl.symm⟩, rfl, ?_⟩
    exact k
theorem scKey : FnScope ["thing", "sign"] ["thing"] (defScope sKey) := ⟨rfl, rfl, rfl, by decide +kernel, rfl, by decide +kernel, by decide +kernel⟩
theorem scWorth : FnScope ["thing"] ["thing"] (defScope sWorth) := ⟨rfl, rfl, rfl, by decide +kernel, rfl, by decide +kernel, by decide +kernel⟩
/-- what is put at a new place leaves the rest -/
theorem sput {H H' : Hp} {D : Addr} {o : HO} (s : Same H H') (n : H D = none) : Same H (upd H' D o) := fun b u e => by
  rw [upd_ne (ne_of_none e n)]
  exact s b u e
theorem snew {H : Hp} {D : Addr} {o : HO} (n : H D = none) : Same H (upd H D o) := sput (Same.refl H) n
/-- a comprehension without a test goes on -/
theorem tyes {σ : St} {H : Hp} {A B : Hp → Prop} (h : A H) : tYes σ H (fun b H3 => if b = true then A H3 else B H3) := by
  show if true = true then A H else B H
  exact iteT h
/-- n times True -/
abbrev yes (n : Nat) : List V := (List.replicate n true).map V.bl
theorem yes_snoc (n : Nat) : yes n ++ [V.bl true] = yes (n + 1) := by
  show (List.replicate n true).map V.bl ++ [true].map V.bl = _
  rw [← List.map_append, ← List.replicate_succ']
theorem yes_len (n : Nat) : (yes n).length = n := by simp
theorem yes_all (n : Nat) : (List.replicate n true).all id = true := by
  rw [List.all_eq_true]
  intro x hx
  rw [(List.mem_replicate.mp hx).2]
  rfl
theorem ok_key {f : Addr} {fd : FuncData} {t1 t2 : Tok} (F : Fun K "is_key" "is_key" sKey f fd) (B : Bi mg) (mL : mg "LETTERS" = some (.str "abcdefghijklmnopqrstuvwxyz" t1)) (mM : mg "MOST_LETTERS" = some (.int 12 t2)) : FnOk P w K mg base CX0 1 f fd ["thing"] spKey := by
  refine F.ok scKey (fun vs H Q E h => ?_) (fun cdv A outer s H vs Q E hr h => ?_)
  · obtain ⟨z, rfl, _⟩ := h
    rfl
  · obtain ⟨z, rfl, kz, k⟩ := h
    refine ⟨_, pss_cons (ps_if (PW.pt (pw_or (pt_not (pt_val (pe_callB call_isi (by rfl) B.isi (by decide +kernel) (pa_cons (pv 0) (pa_cons (pe_bltn (v := .ty "str") (by rfl) B.str (by decide +kernel) rfl) pa_nil)))))
        (pw_or1 (pt_not (pt_chain op_le op_le pe_int (pe_callB call_len (by rfl) B.len (by decide +kernel) (pa_cons (pv 0) pa_nil)) (pe_glob (v := .int 12) (by rfl) mM ⟨_, rfl⟩)))))) (pss_one (ps_ret pe_bl)) pss_nil)
      (pss_one (ps_ret (pe_callB (cr_all rfl) (by rfl) B.all (by decide +kernel) (pa_cons (pe_lc (own := [("sign", 1)]) (g := gName 1) rfl scKey.nd (pi_str (pv 0)) (blkOk_by (own := [("sign", 1)]) (N := ["thing", "sign"]) (sc := defScope sKey) (by decide +kernel))
        (fun _ _ _ _ _ => pg_name (i := 1) scKey.nd rfl (Or.inl rfl)) (fun _ _ _ _ _ => pts_nil)
        (fun _ _ _ _ _ => pe_cmpR op_in_sign (pv 1) (pe_glob (v := .str "abcdefghijklmnopqrstuvwxyz") (by rfl) mL ⟨_, rfl⟩) (by rfl))) pa_nil)))), ?_⟩
    refine ⟨_, rfl, _, _, _, _, _, rfl, .ty _, .base (.str z), ki_str, true, rfl, iteF ?_⟩
    have h12 : z.length ≤ sizeLine := Nat.le_trans kz.hi (by decide)
    refine ⟨_, rfl, _, z.length, rfl, ⟨h12, rfl⟩, _, _, rfl, rfl, decide ((1 : Int) ≤ z.length), rfl, ?_⟩
    have e1 : decide ((1 : Int) ≤ z.length) = true := decide_eq_true (by have := kz.lo; omega)
    have e2 : decide ((z.length : Int) ≤ 12) = true := decide_eq_true (by have := kz.hi; omega)
    rw [e1]
    refine iteT ⟨_, _, rfl, rfl, decide ((z.length : Int) ≤ 12), rfl, ?_⟩
    rw [e2]
    refine iteF ?_
    refine ⟨_, rfl, _, rfl, fun D hD => lc_it walk_str (fun i H' => Same H H' ∧ H' D = some (.lst (yes i))) ⟨snew hD, upd_same⟩ (fun _ _ _ _ => trivial) ?_ ?_⟩
    · rintro i x H1 H2 hi ⟨s1, hl⟩ ⟨rfl, c, hc, rfl⟩
      refine ⟨rfl, tyes ?_⟩
      refine ⟨_, rfl, c, _, rfl, rfl, ?_⟩
      have hm : c ∈ z.cps.toList := by
        rw [← Array.getElem?_toList] at hc
        exact List.mem_of_getElem? hc
      have hr' := kz.az c hm
      have e : decide (c ∈ ("abcdefghijklmnopqrstuvwxyz" : Str).cps.toList) = true := by
        have key : ∀ c : Nat, c < 123 → 97 ≤ c → c ∈ ("abcdefghijklmnopqrstuvwxyz" : Str).cps.toList := by decide +kernel
        exact decide_eq_true (key c (by omega) hr'.1)
      rw [e]
      have hlt : i < 16777216 := by
        have h1 : z.cps.size = z.length := rfl
        have := kz.hi
        omega
      exact ⟨yes i, hl, by rw [yes_len, PySem.sizeLine_eq]; exact hlt, sput s1 hD, by rw [upd_same, yes_snoc]⟩
    · rintro H1 ⟨s1, hl⟩
      refine ⟨D, _, rfl, SqL.of hl, ?_⟩
      rw [yes_all]
      exact k H1 s1
end
end K58

/-! tuples of texts and of such: their order, by the model -/
namespace KT
open PySem PyProof.Rows
open PySem.SeqAt
open PySem.AutoSeq1 (wpAny_loadPart')
open PySem.MeetsSeq PySem.MeetsSeq2 PySem.MeetsSeq3
/-- u < v is k, in this state -/
def LtAt (A : Around) (s : Shared) (u v : Value) (k : Bool) : Prop := ∀ (prog : Program) (w : World) (E : Value → Shared → Prop) (Q : Value → Shared → Prop), Q (.bool k) s → wpAny (model prog w) A (richCompare .Lt u v) Q E s
/-- the order of two rows, item by item -/
inductive LtRel (A : Around) (s : Shared) : List Value → List Value → Bool → Prop
  | both : LtRel A s [] [] false
  | less (v : Value) (vs : List Value) : LtRel A s [] (v :: vs) true
  | more (u : Value) (us : List Value) : LtRel A s (u :: us) [] false
  | same {u v : Value} {us vs : List Value} {k : Bool} : EqAt A s u v true → LtRel A s us vs k → LtRel A s (u :: us) (v :: vs) k
  | diff {u v : Value} {us vs : List Value} {k : Bool} : EqAt A s u v false → LtAt A s u v k → LtRel A s (u :: us) (v :: vs) k
theorem tup_lt (l b : Addr) (its its2 : Array Value) (n n2 : Nat) (dd dd2 : Option Addr) (sl sl2 : Array (Option Value)) (k : Bool) :
    Meets (Builtin.«tuple.__lt__» ⟨[.ref l, .ref b], []⟩)
      (fun A R s => s.heap.get? l = some { cls := .type "tuple", dict := dd, data := .seq its n, slots := sl } ∧ s.heap.get? b = some { cls := .type "tuple", dict := dd2, data := .seq its2 n2, slots := sl2 } ∧
        LtRel A.in1 s its.toList its2.toList k ∧ R (.ok (.ret (.bool k))) s) :=
  .of_wp fun prog w A R s h => by
    obtain ⟨hp, g, d, tk, os⟩ := s
    obtain ⟨hl, hb, hr, hk⟩ := h
    have ff := AutoSeq1.sub_tuple_tuple
    wp_walk using wpAny_loadPart' hl, wpAny_loadPart' hb, wpAny_forIn_list _ (fun rest b s' => b.1 = none ∧ s' = ⟨hp, g, d, tk, os⟩ ∧ ∃ (us vs : List Value), rest = us.zip vs ∧
      LtRel A.in1 ⟨hp, g, d, tk, os⟩ us vs k ∧ us.length + its2.size = vs.length + its.size) _
    case turn =>
      rintro ⟨y, x⟩ rest b s' ⟨hb', rfl, us, vs, hz, hrel, hlen⟩
      cases hrel with
      | both => cases hz
      | less v vs => cases hz
      | more u us => cases hz
      | @same u v us vs _ he hrest =>
        rw [List.zip_cons_cons] at hz
        injection hz with hyx hr2
        injection hyx with hy hx
        subst hy hx
        simp only [List.length_cons] at hlen
        refine wpAny_bind (he prog w _ _ ?_)
        wp_walk
        exact ⟨rfl, rfl, us, vs, hr2, hrest, by omega⟩
      | @diff u v us vs _ he hlt =>
        rw [List.zip_cons_cons] at hz
        injection hz with hyx hr2
        injection hyx with hy hx
        subst hy hx
        refine wpAny_bind (he prog w _ _ ?_)
        have hri := hlt prog w
        wp_walk using hri
        exact ⟨_, rfl, by simpa using hk⟩
    case fin =>
      rintro ⟨b1, b2⟩ s' ⟨hb', rfl, us, vs, hz, hrel, hlen⟩
      simp only at hb'
      subst hb'
      have hv : k = decide (its.size < its2.size) := by
        cases hrel with
        | both =>
          simp only [List.length_nil] at hlen
          exact (decide_eq_false (by omega)).symm
        | less v vs =>
          simp only [List.length_nil, List.length_cons] at hlen
          exact (decide_eq_true (by omega)).symm
        | more u us =>
          simp only [List.length_nil, List.length_cons] at hlen
          exact (decide_eq_false (by omega)).symm
        | same he hr2 => rw [List.zip_cons_cons] at hz; cases hz
        | diff he hr2 => rw [List.zip_cons_cons] at hz; cases hz
      rw [hv] at hk
      wp_walk
      exact ⟨_, rfl, by simpa [Builtin.Tuple.tupleCompareSizes] using hk⟩
    case h =>
      exact ⟨rfl, rfl, its.toList, its2.toList, rfl, hr, by rw [Array.length_toList, Array.length_toList]; omega⟩
theorem tup_ltAt {A : Around} {s : Shared} {l b : Addr} {its its2 : Array Value} {k : Bool} (hl : IsTup s.heap l its) (hb : IsTup s.heap b its2) (hu : A.units < cLine) (hr : LtRel A.in1 s its.toList its2.toList k) : LtAt A s (.ref l) (.ref b) k := by
  intro prog w E Q hq
  obtain ⟨⟨c1, dd, dat, sl⟩, ho, hc, n, hd⟩ := id hl
  obtain ⟨⟨c2, dd2, dat2, sl2⟩, ho2, hc2, n2, hd2⟩ := id hb
  simp only at hc hd hc2 hd2
  subst hc hd hc2 hd2
  exact richCompare_meets_room (op := .Lt) ⟨_, ho, rfl⟩ ⟨_, ho2, rfl⟩ PySem.F.slot_tuple_lt PySem.F.entry_tuple_lt (PySem.F.args_tuple_lt_2 _ _) (tup_lt l b its its2 n n2 dd dd2 sl sl2 k)
    ⟨ho, ho2, hr, show Value.bool k ≠ Value.notImplemented ∧ Q (.bool k) s from ⟨(fun x => nomatch x), hq⟩⟩ hu
/-- a text below another one -/
def tlt (x y : Str) : Bool := decide (x.cps.toList < y.cps.toList)
/-- rows of texts -/
def rlt : List Str → List Str → Bool
  | [], [] => false
  | [], _ :: _ => true
  | _ :: _, [] => false
  | x :: xs, y :: ys => if x = y then rlt xs ys else tlt x y
theorem txt_ltAt (A : Around) (s : Shared) (x y : Str) (t u : Tok) : LtAt A s (.str x t) (.str y u) (tlt x y) := fun prog w E Q h =>
  (PyProof.Rows.lt_str h : wpAny (model prog w) A (compareOp .Lt (.str x t) (.str y u)) Q E s)
theorem txts_rel (A : Around) (s : Shared) : ∀ {xs ys : List Str} {us vs : List Value}, StrsAre us xs → StrsAre vs ys → LtRel A s us vs (rlt xs ys)
  | [], [], _, _, .nil, .nil => .both
  | [], y :: ys, _, _, .nil, .cons _ t h => .less _ _
  | x :: xs, [], _, _, .cons _ t h, .nil => .more _ _
  | x :: xs, y :: ys, _, _, .cons _ t h, .cons _ u h2 => by
    have ih := txts_rel A s h h2
    have he := EqAt.str_str (A := A) (s := s) x t y u
    unfold rlt
    by_cases e : x = y
    · subst e
      rw [if_pos rfl]
      rw [beq_self_eq_true] at he
      exact .same he ih
    · rw [if_neg e]
      rw [show (x == y) = false from beq_eq_false_iff_ne.mpr e] at he
      exact .diff he (txt_ltAt A s x y t u)
/-- a range as data: from, to, own texts -/
structure Rg where
  lo : Str
  hi : Str
  own : List Str
  deriving DecidableEq
/-- ranges in order -/
def rgLt (r q : Rg) : Bool := if r.lo = q.lo then (if r.hi = q.hi then rlt r.own q.own else tlt r.hi q.hi) else tlt r.lo q.lo
def Rg.key (r : Rg) : NestedKey := .tup [.text r.lo, .text r.hi, .tup (r.own.map .text)]
theorem texts_inj : ∀ {xs ys : List Str}, xs.map NestedKey.text = ys.map NestedKey.text → xs = ys
  | [], [], _ => rfl
  | [], _ :: _, h => by cases h
  | _ :: _, [], h => by cases h
  | x :: xs, y :: ys, h => by
    rw [List.map_cons, List.map_cons] at h
    injection h with h1 h2
    injection h1 with h1
    rw [h1, texts_inj h2]
theorem Rg.key_inj {r q : Rg} (h : r.key = q.key) : r = q := by
  obtain ⟨a, b, c⟩ := r
  obtain ⟨a', b', c'⟩ := q
  unfold Rg.key at h
  injection h with h
  injection h with h1 h
  injection h with h2 h
  injection h with h3 h
  injection h1 with h1
  injection h2 with h2
  injection h3 with h3
  have h4 := texts_inj h3
  simp only at h1 h2 h4
  subst h1 h2 h4
  rfl
/-- a range stands in the heap at a -/
def RgIn (h : Heap) (a : Addr) (r : Rg) : Prop := ∃ (o : Addr) (its its2 : Array Value) (t1 t2 : Tok), IsTup h a its ∧ its.toList = [.str r.lo t1, .str r.hi t2, .ref o] ∧ IsTup h o its2 ∧ StrsAre its2.toList r.own
theorem nested_txts {h : Heap} : ∀ {xs : List Str} {us : List Value}, StrsAre us xs → NestedAll h (xs.map NestedKey.text) us
  | [], _, .nil => .nil
  | x :: xs, _, .cons _ t r => .cons (.text x t) (nested_txts r)
theorem RgIn.own {h : Heap} {o : Addr} {its : Array Value} {xs : List Str} (p : IsTup h o its) (q : StrsAre its.toList xs) : NestedIs h (.tup (xs.map .text)) (.ref o) := by
  obtain ⟨ob, h1, h2, n, h3⟩ := p
  exact .tup h1 h2 h3 (nested_txts q)
theorem RgIn.nested {h : Heap} {a : Addr} {r : Rg} (x : RgIn h a r) : NestedIs h r.key (.ref a) := by
  obtain ⟨o, its, its2, t1, t2, p, e, p2, q⟩ := x
  have h3 := RgIn.own p2 q
  obtain ⟨ob, h1, h2, n, hd⟩ := p
  refine .tup h1 h2 hd ?_
  rw [e]
  exact .cons (.text _ _) (.cons (.text _ _) (.cons h3 .nil))
theorem depth_txts : ∀ xs : List Str, NestedKey.depthAll (xs.map NestedKey.text) ≤ 1
  | [] => by simp [NestedKey.depthAll]
  | x :: xs => by
    have := depth_txts xs
    simp only [List.map_cons, NestedKey.depthAll, NestedKey.depth]
    omega
theorem Rg.depth (r : Rg) : r.key.depth ≤ 8 := by
  have := depth_txts r.own
  unfold Rg.key
  simp only [NestedKey.depth, NestedKey.depthAll]
  omega
theorem rg_rel {A : Around} {s : Shared} {a b : Addr} {r q : Rg} {its its' : Array Value} {o o' : Addr} {t1 t2 u1 u2 : Tok} {is2 is2' : Array Value} (hu : A.units + 8 < cLine)
    (e : its.toList = [.str r.lo t1, .str r.hi t2, .ref o]) (e' : its'.toList = [.str q.lo u1, .str q.hi u2, .ref o']) (p : IsTup s.heap o is2) (p' : IsTup s.heap o' is2') (x : StrsAre is2.toList r.own) (x' : StrsAre is2'.toList q.own) :
    LtRel A s its.toList its'.toList (rgLt r q) := by
  rw [e, e']
  have h1 := EqAt.str_str (A := A) (s := s) r.lo t1 q.lo u1
  have h2 := EqAt.str_str (A := A) (s := s) r.hi t2 q.hi u2
  have dd : (NestedKey.tup (r.own.map .text)).depth ≤ 2 := by
    have := depth_txts r.own
    simp only [NestedKey.depth]
    omega
  have h3 := eqAt_key (.tup (r.own.map .text)) (.tup (q.own.map .text)) A s (.ref o) (.ref o') (RgIn.own p x) (RgIn.own p' x') (by omega)
  unfold rgLt
  by_cases c1 : r.lo = q.lo
  · rw [if_pos c1]
    rw [show (r.lo == q.lo) = true from beq_iff_eq.mpr c1] at h1
    refine .same h1 ?_
    by_cases c2 : r.hi = q.hi
    · rw [if_pos c2]
      rw [show (r.hi == q.hi) = true from beq_iff_eq.mpr c2] at h2
      refine .same h2 ?_
      by_cases c3 : r.own = q.own
      · have b : NestedKey.beq (.tup (r.own.map .text)) (.tup (q.own.map .text)) = true := by rw [c3]; exact NestedKey.beq_self _
        rw [b] at h3
        have z : rlt r.own q.own = false := by
          rw [c3]
          generalize q.own = l
          induction l with
          | nil => rfl
          | cons y l ih => unfold rlt; rw [if_pos rfl]; exact ih
        rw [z]
        exact .same h3 .both
      · have b : NestedKey.beq (.tup (r.own.map .text)) (.tup (q.own.map .text)) = false := by
          rw [← NestedKey.decide_eq]
          refine decide_eq_false fun z => c3 ?_
          injection z with z
          exact texts_inj z
        rw [b] at h3
        exact .diff h3 (tup_ltAt p p' (by omega) (txts_rel _ _ x x'))
    · rw [if_neg c2]
      rw [show (r.hi == q.hi) = false from beq_eq_false_iff_ne.mpr c2] at h2
      exact .diff h2 (txt_ltAt A s _ _ _ _)
  · rw [if_neg c1]
    rw [show (r.lo == q.lo) = false from beq_eq_false_iff_ne.mpr c1] at h1
    exact .diff h1 (txt_ltAt A s _ _ _ _)
theorem rg_ltAt {A : Around} {s : Shared} {a b : Addr} {r q : Rg} (hu : A.units + 9 < cLine) (x : RgIn s.heap a r) (y : RgIn s.heap b q) : LtAt A s (.ref a) (.ref b) (rgLt r q) := by
  obtain ⟨o, its, its2, t1, t2, p, e, p2, z⟩ := x
  obtain ⟨o', its', its2', u1, u2, p', e', p2', z'⟩ := y
  exact tup_ltAt p p' (by omega) (rg_rel (a := a) (b := b) (A := A.in1) (by show A.units + 1 + 8 < cLine; omega) e e' p2 p2' z z')
end KT
namespace K58
open PySem L2
/-- a range stands at a -/
def RgAt (H : Hp) (x : V) (r : KT.Rg) : Prop := ∃ a o : Addr, x = .ref a ∧ H a = some (.tup [.str r.lo, .str r.hi, .ref o]) ∧ H o = some (.tup (r.own.map V.str))
theorem RgAt.same {H H' : Hp} {x : V} {r : KT.Rg} (h : RgAt H x r) (s : Same H H') : RgAt H' x r := by
  obtain ⟨a, o, e, h1, h2⟩ := h
  exact ⟨a, o, e, s _ _ h1, s _ _ h2⟩
theorem RgAt.inn {X : Cx} {pins : List (Addr × Obj)} {σ : L2.St} {H : Hp} {s : Shared} {a : Addr} {r : KT.Rg} (I : Inv X pins σ H s) (h : RgAt H (.ref a) r) : KT.RgIn s.heap a r := by
  obtain ⟨a', o, e, h1, h2⟩ := h
  cases e
  obtain ⟨_, its, rv, p⟩ := (show ObjOk X.prog X.w H s.heap a (.tup [.str r.lo, .str r.hi, .ref o]) from I.hok a _ h1)
  obtain ⟨_, its2, rv2, p2⟩ := (show ObjOk X.prog X.w H s.heap o (.tup (r.own.map V.str)) from I.hok o _ h2)
  cases rv with
  | cons r1 rv =>
    cases rv with
    | cons r2 rv =>
      cases rv with
      | cons r3 rv =>
        cases rv
        obtain ⟨t1, rfl⟩ := r1
        obtain ⟨t2, rfl⟩ := r2
        cases r3
        exact ⟨o, _, _, t1, t2, p, rfl, p2, strsAre_of rv2⟩
/-- one < other, of texts or of ranges -/
def rLtX : R2 := fun x y H Q => (∃ i j, x = .str i ∧ y = .str j ∧ Q (.bl (KT.tlt i j)) H) ∨ (∃ r q, RgAt H x r ∧ RgAt H y q ∧ Q (.bl (KT.rgLt r q)) H)
theorem op_ltX {X : Cx} (hu : X.A.units + 9 < cLine) : OpR X (compareOp .Lt) rLtX := by
  intro pins s σ H x y v u Q I rx ry h
  rcases h with ⟨i, j, rfl, rfl, q⟩ | ⟨r, q, hr, hq, k⟩
  · exact op_lt_str pins s σ H _ _ v u Q I rx ry ⟨i, j, rfl, rfl, q⟩
  · obtain ⟨a, o, rfl, _⟩ := id hr
    obtain ⟨b, o', rfl, _⟩ := id hq
    cases rx
    cases ry
    exact KT.rg_ltAt hu (hr.inn I) (hq.inn I) _ _ _ _ ⟨.bl _, H, I, rfl, k⟩
end K58

/-! sets of whatever can be added and gathered -/
namespace KS
open PySem PySem.Spec PyProof.Rows L2
def freshSet (w : World) : Obj := { cls := .type "set", dict := none, data := .set #[] 0 (.fresh 0 0 (!w.params.followText "set-order")) }
/-- a kind of members and of sets of them -/
structure Sys (P : Program) (w : World) (κ : Type) [DecidableEq κ] where
  is : Heap → κ → Value → Prop
  At : Heap → Addr → List (κ × Value) → Prop
  room : Around → Prop
  stay : ∀ {h h' : Heap} {k : κ} {v : Value}, is h k v → (∀ b o, h.get? b = some o → h'.get? b = some o) → is h' k v
  keep : ∀ {h h' : Heap} {a : Addr} {L : List (κ × Value)}, At h a L → (∀ o, h.get? a = some o → h'.get? a = some o) → (∀ p ∈ L, is h' p.1 p.2) → At h' a L
  fresh : ∀ {h : Heap} {a : Addr}, h.get? a = some (freshSet w) → At h a []
  nodup : ∀ {h : Heap} {a : Addr} {L : List (κ × Value)}, At h a L → (L.map (·.1)).Nodup
  mem : ∀ {h : Heap} {a : Addr} {L : List (κ × Value)}, At h a L → ∀ p ∈ L, is h p.1 p.2
  add : ∀ {A : Around} {E : Value → Shared → Prop} {s : Shared} {a : Addr} {L : List (κ × Value)} {k : κ} {v : Value} {Q : Bool → Shared → Prop}, At s.heap a L → is s.heap k v → room A → L.length < 2 →
    (∀ b h' L' tk, Heap.SameBut a s.heap h' → s.toks ≤ tk → At h' a L' → (k ∈ L.map (·.1) → L' = L) → (k ∉ L.map (·.1) → L'.Perm ((k, v) :: L)) → Q b { s with heap := h', toks := tk }) →
    wpAny (model P w) A (setAdd a v) Q E s
  gather : ∀ {A : Around} {E : Value → Shared → Prop} {s : Shared} {a : Addr} {L : List (κ × Value)} {Q : List Value → Shared → Prop}, At s.heap a L → A.handled = none →
    (∀ s' out, (∀ b o, s.heap.get? b = some o → s'.heap.get? b = some o) → s.heap.objs.size ≤ s'.heap.objs.size → s'.gens = s.gens → s'.os = s.os → out.Perm (L.map (·.2)) → Q out s') →
    wpAny (model P w) A (collect (.ref a)) Q E s
variable {P : Program} {w : World} {κ : Type} [DecidableEq κ]
/-- what has come from the first i items -/
structure Came (ks : List (κ × Value)) (i : Nat) (L : List (κ × Value)) : Prop where
  sub : ∀ p ∈ L, p ∈ ks.take i
  all : ∀ p ∈ ks.take i, p.1 ∈ L.map (·.1)
  len : L.length ≤ i
theorem Came.zero (ks : List (κ × Value)) : Came ks 0 [] := ⟨fun p h => (by cases h), fun p h => (by simp at h), Nat.le_refl _⟩
theorem Came.same {ks L : List (κ × Value)} {i : Nat} {x : κ × Value} (g : Came ks i L) (h : ks[i]? = some x) (hm : x.1 ∈ L.map (·.1)) : Came ks (i + 1) L := by
  refine ⟨fun p hp => ?_, fun p hp => ?_, Nat.le_succ_of_le g.len⟩
  · rw [take_next h]
    exact List.mem_append_left _ (g.sub p hp)
  · rw [take_next h] at hp
    rcases List.mem_append.mp hp with z | z
    · exact g.all p z
    · rw [List.mem_singleton.mp z]; exact hm
theorem Came.more {ks L L' : List (κ × Value)} {i : Nat} {x : κ × Value} (g : Came ks i L) (h : ks[i]? = some x) (pm : L'.Perm (x :: L)) : Came ks (i + 1) L' := by
  refine ⟨fun p hp => ?_, fun p hp => ?_, ?_⟩
  · rw [take_next h]
    rcases List.mem_cons.mp (pm.mem_iff.mp hp) with e | z
    · rw [e]; exact List.mem_append_right _ (List.mem_singleton.mpr rfl)
    · exact List.mem_append_left _ (g.sub p z)
  · rw [take_next h] at hp
    rw [(pm.map (·.1)).mem_iff, List.map_cons]
    rcases List.mem_append.mp hp with z | z
    · exact List.mem_cons_of_mem _ (g.all p z)
    · rw [List.mem_singleton.mp z]; exact List.mem_cons_self
  · rw [pm.length_eq]
    exact Nat.succ_le_succ g.len
section
variable {A : Around} {E : Value → Shared → Prop} {s : Shared}
/-- the loop of set.update, for lists of at most two -/
theorem update_g (Y : Sys P w κ) {I : Addr} {fp wr : List Addr} {G : Array GenState → Array GenState → Prop} {n : Nat} {Pv : Nat → Value → Prop} {St : Nat → Shared → Prop} {R : Result → Shared → Prop}
    (W : WalksS P w A.in1 I fp wr G n Pv St) (S : Addr) (hSf : S ∉ fp) (ks : List (κ × Value)) (hn : n = ks.length) (hfew : ks.length ≤ 2) (hval : ∀ i v, Pv i v → ∃ p, ks[i]? = some p ∧ v = p.2)
    (h0 : Heap) (hk : ∀ p ∈ ks, Y.is h0 p.1 p.2) (hS0 : h0.get? S = none) (hw0 : ∀ b ∈ wr, h0.get? b = none) (hu : Y.room A.in1) :
    ∀ (k i : Nat) (s : Shared), n - i = k → i ≤ n → St i s → (∀ b o, h0.get? b = some o → s.heap.get? b = some o) → (∃ L, Y.At s.heap S L ∧ Came ks i L) →
      (∀ s' L, Moved (S :: wr) G s s' → Y.At s'.heap S L → Came ks n L → (∀ b o, h0.get? b = some o → s'.heap.get? b = some o) → R (.ok (.ret .none)) s') →
      codeAny (model P w) A (.builtin "set.update.loop" ⟨[.ref S, .ref I], []⟩) R s := by
  have hSw : S ∉ wr := fun h => hSf (W.sub _ h)
  have hsub : ∀ b ∈ wr, b ∈ S :: wr := fun b hb => List.mem_cons_of_mem _ hb
  have keepM : ∀ {s s' : Shared}, Moved wr G s s' → (∀ b o, h0.get? b = some o → s.heap.get? b = some o) → ∀ b o, h0.get? b = some o → s'.heap.get? b = some o := fun hm hkp b o e =>
    hm.heap b o (fun hb => by rw [hw0 b hb] at e; cases e) (hkp b o e)
  intro k
  induction k with
  | zero =>
    intro i s hk' hi hst hkp ⟨L, hS, g⟩ hR
    have hin : i = n := by omega
    subst hin
    refine codeAny_builtin F.entry_set_update_loop ?_
    rw [Around.under_plainId F.plain_set_update_loop _]
    show wpAny _ A.in1 (pyNext (.ref I) >>= _) _ _ s
    refine wpAny_bind (W.done s _ _ hst fun s' hm => ?_)
    show wpAny _ A.in1 (ret Value.none) _ _ s'
    have hkp' := keepM hm hkp
    have sub : ∀ p ∈ L, p ∈ ks := fun p hp => List.mem_of_mem_take (g.sub p hp)
    exact wpAny_pure (hR s' L (hm.mono hsub) (Y.keep hS (fun o e => hm.heap S o hSw e) fun p hp => Y.stay (hk p (sub p hp)) hkp') g hkp')
  | succ k ih =>
    intro i s hk' hi hst hkp ⟨L, hS, g⟩ hR
    have hlt : i < n := by omega
    refine codeAny_builtin F.entry_set_update_loop ?_
    rw [Around.under_plainId F.plain_set_update_loop _]
    show wpAny _ A.in1 (pyNext (.ref I) >>= _) _ _ s
    refine wpAny_bind (W.item i s _ _ hlt hst fun v s' hP hst' hm => ?_)
    obtain ⟨p, hp, rfl⟩ := hval i v hP
    have hkp' := keepM hm hkp
    have sub : ∀ p ∈ L, p ∈ ks := fun p hp => List.mem_of_mem_take (g.sub p hp)
    have hS' : Y.At s'.heap S L := Y.keep hS (fun o e => hm.heap S o hSw e) fun q hq => Y.stay (hk q (sub q hq)) hkp'
    have hx : Y.is s'.heap p.1 p.2 := Y.stay (hk p (List.mem_of_getElem? hp)) hkp'
    show wpAny _ A.in1 (holding [p.2] (setAdd S p.2) >>= _) _ _ s'
    refine wpAny_bind (wpAny_holding ?_)
    refine Y.add hS' hx hu (by have := g.len; omega) fun b h' L' tk hsb htk hS2 c1 c2 => ?_
    have g' : Came ks (i + 1) L' := by
      rcases Classical.em (p.1 ∈ L.map (·.1)) with c | c
      · rw [c1 c]; exact g.same hp c
      · exact g.more hp (c2 c)
    have hkp2 : ∀ b o, h0.get? b = some o → h'.get? b = some o := fun b o e => (hsb.2 b (fun z => by rw [z, hS0] at e; cases e)).trans (hkp' b o e)
    refine wpAny_pure ⟨plainId_quiet F.plain_set_update_loop _, ih (i + 1) _ (by omega) hlt (W.frame _ s' _ _ hst' htk fun b hb o e => ?_) hkp2 ⟨L', hS2, g'⟩ fun s'' L2 hm'' hS'' g'' hkp'' => ?_⟩
    · rw [hsb.2 b (fun h : b = S => hSf (by rw [← h]; exact hb))]; exact e
    · refine hR s'' L2 (Moved.trans W.gtrans ((hm.mono hsub).then_heap htk fun b o hb e => ?_) hm'') hS'' g'' hkp''
      rw [hsb.2 b (fun h : b = S => hb (by rw [h]; exact List.mem_cons_self))]; exact e
set_option maxHeartbeats 3200000 in
/-- set(xs) -/
theorem call_set_g (Y : Sys P w κ) {l : Addr} {items : Array Value} (ks : List (κ × Value)) {Q : Value → Shared → Prop} (hh : A.handled = none) (hl : s.heap.IsList l items) (hit : items.toList = ks.map fun p => p.2)
    (hk : ∀ p ∈ ks, Y.is s.heap p.1 p.2) (hfew : ks.length ≤ 2) (hu : Y.room A.in1.in1.in1)
    (h : ∀ (h' : Heap) (tk : Nat) L, Y.At h' s.heap.objs.size L → Came ks ks.length L → (∀ b o, s.heap.get? b = some o → h'.get? b = some o) → Q (.ref s.heap.objs.size) { s with heap := h', toks := tk }) :
    wpAny (model P w) A (call (.type "set") [.ref l]) Q E s := by
  have hisz : items.size = ks.length := by
    have q := congrArg List.length hit
    rw [Array.length_toList, List.length_map] at q
    exact q
  obtain ⟨c, tl, hmro⟩ := F.called_set.mro
  have hmade := F.called_set.made
  have hsub := F.called_set.sub
  refine wpAny_call (codeAny_of_tree ?_)
  show wpAny _ _ (callAny (.type "set") _) _ _ _
  refine wpAny_pure ⟨Code.quiet_builtin _ (by decide +kernel), codeAny_builtin F.entry_type_call ?_⟩
  rw [Around.under_plain (weight_type_call_type "set" [.ref l] []) rfl]
  have h1 := F.called_set.notType
  have h2 := F.called_set.canCreate
  have hct := F.typeCall_set_1 (.ref l)
  repeat (any_goals (first | assumption | wp_step))
  refine codeAny_mono (code_set_led1 (.ref l) (E := E) (Q₁ := fun obj s₁ => obj = .ref s.heap.objs.size ∧ s₁ = { s with heap := s.heap.push (freshSet w) }) ⟨rfl, rfl⟩) fun r s₁ hr => ?_
  cases r with
  | error e => exact hr
  | ok fl =>
    cases fl with
    | ret obj =>
      obtain ⟨rfl, rfl⟩ := hr
      have hS : (s.heap.push (freshSet w)).get? s.heap.objs.size = some (freshSet w) := Heap.get?_push_size _ rfl
      have hT : Shared.TypeIs { s with heap := s.heap.push (freshSet w) } (.ref s.heap.objs.size) "set" := ⟨_, hS, rfl⟩
      have hli := F.called_set.init.lookup
      have hbi := F.called_set.init.bind (.ref s.heap.objs.size)
      repeat (any_goals (first | assumption | wp_step))
      refine codeAny_mono (codeAny_call_builtin (R := wants (fun r s₂ => r = .none ∧ ∃ h' tk L, s₂ = { s with heap := h', toks := tk } ∧ Y.At h' s.heap.objs.size L ∧ Came ks ks.length L ∧
          (∀ b o, s.heap.get? b = some o → h'.get? b = some o)) E) F.called_set.init.plain F.entry_set_init (check_set_init_1 hT ?_)) fun r₂ s₂ hr₂ => ?_
      · obtain ⟨ol, hol, hcl, nl, hdl⟩ := hl
        obtain ⟨ocls, odict, odata, oslots⟩ := ol
        simp only at hcl hdl
        subst hcl; subst hdl
        have hol' : (s.heap.push (freshSet w)).get? l = some { cls := .type "list", dict := odict, data := .seq items nl, slots := oslots } := Heap.get?_push_of_some _ hol
        have hsls := F.sub_list_set
        have hslf := F.sub_list_frozenset
        have hne : (Value.type "list" == Value.type "dict") = false := by decide
        have hl1 : (s.heap.push (freshSet w)).IsList l items := ⟨_, hol', rfl, nl, rfl⟩
        unfold Builtin.«set.__init__» noKeywords Builtin.Frozenset.updateFrom
        generalize hPI : pyIter = PI
        wp_walk
        subst hPI
        refine wpAny_pyIter_list hl1 ?_
        refine wpAny_bind (wpAny_runValue ?_)
        have hlS : l < s.heap.objs.size := Heap.lt_size hol
        have hh3 : A.in1.in1.in1.handled = none := by simp [hh]
        have hz1 : (s.heap.push (freshSet w)).objs.size = s.heap.objs.size + 1 := Heap.size_push ..
        have hneI : l ≠ (s.heap.push (freshSet w)).objs.size := by
          rw [Heap.size_push]; exact Nat.ne_of_lt (Nat.lt_succ_of_lt hlS)
        have hSf : s.heap.objs.size ∉ [(s.heap.push (freshSet w)).objs.size, l] := by
          rw [Heap.size_push]; simp only [List.mem_cons, List.mem_singleton, List.not_mem_nil, or_false, not_or]
          exact ⟨Nat.ne_of_lt (Nat.lt_succ_self _), Nat.ne_of_gt hlS⟩
        have hval : ∀ (i : Nat) (v : Value), items[i]? = some v → ∃ p, ks[i]? = some p ∧ v = p.2 := fun i v hv => by
          have q : items.toList[i]? = some v := by rw [Array.getElem?_toList]; exact hv
          rw [hit, List.getElem?_map] at q
          cases hq : ks[i]? with
          | none => rw [hq] at q; cases q
          | some p =>
            rw [hq] at q
            exact ⟨p, rfl, (Option.some.inj q).symm⟩
        have none_of : ∀ b, s.heap.objs.size ≤ b → s.heap.get? b = none := fun b hb => by
          cases q : s.heap.get? b with
          | none => rfl
          | some o => exact absurd (Nat.lt_of_lt_of_le (Heap.lt_size q) hb) (Nat.lt_irrefl _)
        refine update_g Y ((Walks.list hh3 _ l hneI items).toS) s.heap.objs.size
          hSf ks hisz hfew hval s.heap hk (none_of _ (Nat.le_refl _)) (fun b hb => none_of b (by
            rw [List.mem_singleton.mp hb, Heap.size_push]
            exact Nat.le_succ _)) hu (items.size - 0) 0 _ (by omega) (Nat.zero_le _)
          ⟨⟨_, Heap.get?_push_size _ rfl, rfl, rfl⟩, (hl1.push _)⟩ (fun b o e => Heap.get?_push_of_some _ (Heap.get?_push_of_some _ e)) ?hS0 ?hR
        case hS0 =>
          have hget : ((s.heap.push (freshSet w)).push { cls := .type "list_iterator", data := .fields #[.ref l, .int 0 0] }).get? s.heap.objs.size = some (freshSet w) := Heap.get?_push_of_some _ hS
          exact ⟨[], Y.fresh hget, Came.zero ks⟩
        case hR =>
          intro s' L hm hS' g' hkp
          obtain ⟨h', g2, d', tk', os'⟩ := s'
          have eg : g2 = s.gens := hm.gens
          have ed : d' = s.drawn := hm.drawn
          have eo : os' = s.os := hm.os
          subst eg; subst ed; subst eo
          show wpAny _ _ _ _ _ _
          refine wpAny_pure ?_
          show wpAny _ _ (ret Value.none) _ _ _
          rw [hisz] at g'
          exact wpAny_pure ⟨rfl, h', tk', L, rfl, hS', g', hkp⟩
      · cases r₂ with
        | error e => exact hr₂
        | ok fl₂ =>
          cases fl₂ with
          | ret r =>
            obtain ⟨rfl, h', tk, L, rfl, hS', g', hk'⟩ := hr₂
            repeat (any_goals (first | assumption | wp_step))
            exact h _ _ _ hS' g' hk'
          | _ => exact hr₂.elim
    | _ => exact hr.elim
end
end KS

namespace KS
open PySem PySem.Spec PyProof.Rows L2
variable {P : Program} {w : World} {κ : Type} [DecidableEq κ]
section
variable {A : Around} {E : Value → Shared → Prop} {s : Shared}
/-- what a rank needs: any two members compare by it -/
structure Ranked (Y : Sys P w κ) (rk : κ → Int) (D : κ → Prop) : Prop where
  kind : ∀ {A : Around} {E : Value → Shared → Prop} {s : Shared} (L : List (κ × Value)), 2 ≤ L.length → A.units + 12 < cLine → (∀ p ∈ L, Y.is s.heap p.1 p.2) → (∀ p ∈ L, D p.1) → ∀ Q : SortKind → Shared → Prop,
    (∀ κ', (∀ p ∈ L, ∀ q ∈ L, ∀ (Q : Bool → Shared → Prop) (E : Value → Shared → Prop), Q (decide (rk p.1 < rk q.1)) s → wpAny (model P w) A (keyLt' κ' p.2 q.2) Q E s) → Q κ' s) →
    wpAny (model P w) A (keyKind' (L.map (·.2)).toArray) Q E s
  inj : ∀ {h : Heap} {k k' : κ} {v : Value}, Y.is h k v → Y.is h k' v → k = k'
/-- sorted(set) -/
theorem sorted_g {Y : Sys P w κ} {rk : κ → Int} {D : κ → Prop} (K : Ranked Y rk D) {a : Addr} {L : List (κ × Value)} {Q : Value → Shared → Prop} (R : Y.At s.heap a L) (hh : A.handled = none) (hu : A.units + 16 < cLine) (hD : ∀ p ∈ L, D p.1) (hfew : L.length < 64)
    (hQ : ∀ s' p (out : Array Value) (c : Nat) (L' : List (κ × Value)), (∀ b o, s.heap.get? b = some o → s'.heap.get? b = some o) → s'.gens = s.gens → s'.os = s.os → s.heap.objs.size ≤ p →
      s'.heap.get? p = some (seqObj "list" out c) → out.toList = L'.map (fun q => q.2) → L'.Perm L → L'.Pairwise (fun q r => rk q.1 ≤ rk r.1) → Q (.ref p) s') :
    wpAny (model P w) A (call (.builtin "sorted") [.ref a]) Q E s := by
  refine Calls.call_function_entry kind_sorted plain_sorted entry_sorted (args_sorted1 _) ?_
  unfold Builtin.«sorted»
  refine wpAny_bind (m := checkCount "sorted" 1 1 _) (wpAny_pure ?_)
  refine wpAny_bind (Y.gather (A := A.in1) R hh fun s1 vs k1 hz g1 o1 pm => ?_)
  obtain ⟨L1, p1, e1⟩ := perm_lift Prod.snd pm L rfl
  subst e1
  have hvl : (L1.map Prod.snd).length < 64 := by rw [List.length_map, p1.length_eq]; exact hfew
  refine wpAny_bind (wpAny_newList ?_ (by rw [sizeLine_eq]; omega))
  have hoL : (s1.heap.push (seqObj "list" (L1.map Prod.snd).toArray 0)).get? s1.heap.objs.size = some (seqObj "list" (L1.map Prod.snd).toArray 0) := Heap.get?_push_size _ rfl
  have m1 : ∀ p ∈ L1, Y.is s1.heap p.1 p.2 := fun p hp => Y.stay (Y.mem R p (p1.mem_iff.mp hp)) k1
  have d1 : ∀ p ∈ L1, D p.1 := fun p hp => hD p (p1.mem_iff.mp hp)
  let r : Value → Int := fun v => by
    classical
    exact if h : ∃ k, (k, v) ∈ L1 then rk (Classical.choose h) else 0
  have hr : ∀ p ∈ L1, r p.2 = rk p.1 := fun p hp => by
    have h : ∃ k, (k, p.2) ∈ L1 := ⟨p.1, hp⟩
    have e : r p.2 = rk (Classical.choose h) := dif_pos h
    have e2 : Classical.choose h = p.1 := K.inj (m1 _ (Classical.choose_spec h)) (m1 p hp)
    rw [e, e2]
  refine wpAny_bind (wpAny_holding (wpAny_call_entry slot_list_sort ⟨_, hoL, rfl⟩ entry_list_sort (SK.plain_sort (s := { s1 with heap := s1.heap.push (seqObj "list" (L1.map Prod.snd).toArray 0) }) (r := r) hoL hvl (fun h2 Q' hQ' => ?_) fun ps out h1 h2 h3 => ⟨_, rfl, ?_⟩) (args_list_sort _)))
  · refine K.kind (s := { s1 with heap := TS.midHeap (s1.heap.push (seqObj "list" (L1.map Prod.snd).toArray 0)) s1.heap.objs.size (L1.map Prod.snd) }) L1 (by rw [List.length_map] at h2; exact h2) (by simp; omega) (fun p hp => Y.stay (m1 p hp) fun b o e => ?_) d1 Q' fun κ' hc => ?_
    · exact TS.midHeap_old (Nat.ne_of_lt (Heap.lt_size e)) (Heap.get?_push_of_some _ e)
    · refine hQ' κ' fun x y hx hy Q2 E2 q2 => ?_
      rw [pairsOf_toList] at hx hy
      obtain ⟨px, hpx, ex⟩ := List.mem_map.mp (mem_zip_self hx).2
      obtain ⟨py, hpy, ey⟩ := List.mem_map.mp (mem_zip_self hy).2
      rw [← ex, ← ey]
      refine hc px hpx py hpy Q2 E2 ?_
      rw [← hr px hpx, ← hr py hpy]
      have e3 : px.2 = x.1 := ex
      have e4 : py.2 = y.1 := ey
      rw [e3, e4]
      exact q2
  · obtain ⟨q1, q2⟩ := TS.out_rank h1 h2 h3
    obtain ⟨L', p', e'⟩ := perm_lift Prod.snd q1 L1 rfl
    obtain ⟨c, hc⟩ := sortedHeap_at (vs := L1.map Prod.snd) (out := out) hoL
    refine wpAny_pure ⟨_, rfl, hQ _ s1.heap.objs.size out c L' (fun b u e => ?_) g1 o1 hz hc e'.symm (p'.trans p1) ?_⟩
    · have q := k1 b u e
      have hlt := Heap.lt_size q
      show (sortedHeap (s1.heap.push (seqObj "list" (L1.map Prod.snd).toArray 0)) s1.heap.objs.size (L1.map Prod.snd) out).get? b = some u
      rw [sortedHeap_old (Nat.ne_of_lt hlt) (by rw [size_push']; exact Nat.lt_succ_of_lt hlt)]
      exact Heap.get?_push_of_some _ q
    · rw [← e', List.pairwise_map] at q2
      refine List.Pairwise.imp_of_mem (fun {x y} hx hy h => ?_) q2
      have := hr x (p'.mem_iff.mp hx)
      have := hr y (p'.mem_iff.mp hy)
      omega
end
end KS

/-! sets of texts -/
namespace KS
open PySem PySem.Spec PyProof.Rows L2
theorem isStr {P : Program} {w : World} (k : Str) (u : Tok) : (strKind P w).is k (.str k u) = true := by
  show Value.isStrOf k (.str k u) = true
  simp [Value.isStrOf]
variable {P : Program} {w : World}
def rowT (w : World) (p : Str × Value) : Int × Value := (hashStr w p.1, p.2)
def AtT (w : World) (h : Heap) (a : Addr) (L : List (Str × Value)) : Prop :=
  ∃ (o : Obj) (es : Array (Int × Value)) (ep : Nat) (t : SetTable), h.get? a = some o ∧ o.ExactSet ∧ o.data = .set es ep t ∧ es.toList = L.map (rowT w) ∧ (L.map (·.1)).Nodup ∧ (∀ p ∈ L, ∃ u, p.2 = .str p.1 u) ∧
    L.length < 64 ∧ t.fits es.size = true ∧ Ris t.place.toList ∧ (w.params.followText "set-order" = true ∨ t.led = true)
section
variable {A : Around} {E : Value → Shared → Prop} {s : Shared}
theorem tail_t {g : Bool → Sem Unit} (hg : ∀ (b : Bool) (s₁ : Shared) (Q' : Unit → Shared → Prop), Q' () s₁ → wpAny (model P w) A (g b) Q' E s₁)
    {a : Addr} {o : Obj} {es : Array (Int × Value)} {ep : Nat} {t : SetTable} (ho : s.heap.get? a = some o) (hd : o.data = .set es ep t)
    {es1 : Array (Int × Value)} {t2 : SetTable} (hb1 : es1.size < scanBound) (hf2 : t2.fits es1.size = true) (hr : Ris t2.place.toList) (hl : w.params.followText "set-order" = true ∨ t2.led = true) {wasDummy : Bool} {R : Option Bool → Shared → Prop}
    (hR : ∀ (h' : Heap) (es' : Array (Int × Value)) (ep' : Nat) (t' : SetTable), Heap.SameBut a s.heap h' → h'.get? a = some { o with data := .set es' ep' t' } → es'.toList.Perm es1.toList → t'.fits es'.size = true → Ris t'.place.toList →
      (w.params.followText "set-order" = true ∨ t'.led = true) → R (some true) { s with heap := h' }) :
    wpAny (model P w) A (do
        storeSet a es1 t2
        if (!wasDummy && t2.tooFull) = true then do
            g (relayAll t2 es1 (SetTable.grown es1.size)).2.2
            storeSet a (relayAll t2 es1 (SetTable.grown es1.size)).1 (relayAll t2 es1 (SetTable.grown es1.size)).2.1
            pure (some true)
          else pure (some true)) R E s := by
  refine wpAny_bind (wpAny_storeSet_of ho hd ?_ (fits_of_scanBound hb1))
  have ho1 := store_at (es' := es1) (t' := t2) ho hd
  have sb1 := Heap.SameBut.update s.heap a (Obj.putSet es1 t2)
  split
  · have pm := relayAll_perm t2 es1 (SetTable.grown es1.size)
    have hf3 := relayAll_fits t2 es1 (SetTable.grown es1.size)
    have hr3 := relayAll_ris t2 es1 (SetTable.grown es1.size)
    have hl3 := relayAll_led t2 es1 (SetTable.grown es1.size)
    generalize relayAll t2 es1 (SetTable.grown es1.size) = Z at pm hf3 hr3 hl3 ⊢
    obtain ⟨es2, t3, gave⟩ := Z
    dsimp only at pm hf3 hr3 hl3 ⊢
    have hsz : es2.size = es1.size := by rw [← Array.length_toList, pm.length_eq, Array.length_toList]
    have hb2 : es2.size < scanBound := by rw [hsz]; exact hb1
    refine wpAny_bind (hg _ _ _ ?_)
    refine wpAny_bind (wpAny_storeSet_of ho1 rfl ?_ (fits_of_scanBound hb2))
    have ho2 := store_at (es' := es2) (t' := t3) ho1 rfl
    exact wpAny_pure (hR _ es2 _ t3 (sb1.trans (Heap.SameBut.update _ a _)) ho2 pm hf3 hr3 (hl.imp id fun z => by rw [hl3]; exact z))
  · exact wpAny_pure (hR _ es1 _ t2 sb1 ho1 (List.Perm.refl _) hf2 hr hl)
theorem elems_t {L : List (Str × Value)} (h : ∀ p ∈ L, ∃ u, p.2 = Value.str p.1 u) : ElemsOf (strKind P w) (L.map (rowT w)) := fun e he => by
  obtain ⟨p, hp, rfl⟩ := List.mem_map.mp he
  obtain ⟨u, e⟩ := h p hp
  refine ⟨⟨p.1, ?_, rfl⟩, ?_⟩
  · show (strKind P w).is p.1 p.2 = true
    rw [e]; exact isStr _ _
  · show p.2.scannable = true
    rw [e]; rfl
theorem add_t {a : Addr} {L : List (Str × Value)} {k : Str} {v : Value} {Q : Bool → Shared → Prop} (R : AtT w s.heap a L) (hv : ∃ u, v = Value.str k u) (hfew : L.length < 2)
    (hQ : ∀ b h' L' tk, Heap.SameBut a s.heap h' → s.toks ≤ tk → AtT w h' a L' → (k ∈ L.map (·.1) → L' = L) → (k ∉ L.map (·.1) → L'.Perm ((k, v) :: L)) → Q b { s with heap := h', toks := tk }) :
    wpAny (model P w) A (setAdd a v) Q E s := by
  obtain ⟨u, rfl⟩ := hv
  obtain ⟨o, es, ep, t, ho, hex, hd, hrow, nd, hm, hb, hf, hr, hl⟩ := R
  have hkey : (strKind P w).is k (.str k u) = true := isStr k u
  have hsc : (Value.str k u).scannable = true := rfl
  have hsz0 : es.size = L.length := by rw [← Array.length_toList, hrow, List.length_map]
  have hel : ElemsOf (strKind P w) es.toList := by rw [hrow]; exact elems_t hm
  have hbs : es.size < scanBound := by rw [hsz0]; exact Nat.lt_trans hb (by decide)
  unfold setAdd
  refine wpAny_holding ?_
  refine wpAny_bind ((strKind P w).pyHash hkey ?_)
  show wpAny (model P w) A (setAddHashed a (.str k u) (hashStr w k)) Q E { s with toks := s.toks + 1 }
  unfold setAddHashed setAddHashedIn
  refine wpAny_holding (wpAny_bind (wpAny_setState_of ho hd hf ?_))
  dsimp only
  rw [byScan_of hsc hbs hel]
  simp only [↓reduceIte]
  unfold setAddByScan
  refine wpAny_bind ?_
  refine wpAny_bind (wpAny_rule ?_)
  refine wpAny_bind (wpAny_setScan_of hkey ho hd hf hel ?_)
  cases hfi : List.findIdx? (fun e => (strKind P w).is k e.2) es.toList with
  | some j =>
    dsimp only
    obtain ⟨hj, pj, _⟩ := List.findIdx?_eq_some_iff_getElem.mp hfi
    have hin : k ∈ L.map (·.1) := by
      have he : es.toList[j] ∈ L.map (rowT w) := by rw [← hrow]; exact List.getElem_mem hj
      obtain ⟨p, hp, ep⟩ := List.mem_map.mp he
      obtain ⟨u', e'⟩ := hm p hp
      rw [← ep] at pj
      have pj' : (strKind P w).is k p.2 = true := pj
      rw [e'] at pj'
      have : k = p.1 := (strKind P w).inj _ _ _ pj' (isStr p.1 u')
      exact List.mem_map.mpr ⟨p, hp, this.symm⟩
    exact wpAny_pure (wpAny_pure (hQ false s.heap L (s.toks + 1) (Heap.SameBut.refl a s.heap) (Nat.le_succ _) ⟨o, es, ep, t, ho, hex, hd, hrow, nd, hm, hb, hf, hr, hl⟩ (fun _ => rfl) fun z => absurd hin z))
  | none =>
    dsimp only
    have hnk : k ∉ L.map (·.1) := fun z => by
      obtain ⟨p, hp, e⟩ := List.mem_map.mp z
      obtain ⟨u', e'⟩ := hm p hp
      have he : rowT w p ∈ es.toList := by rw [hrow]; exact List.mem_map.mpr ⟨p, hp, rfl⟩
      have c := List.findIdx?_eq_none_iff.mp hfi _ he
      have c' : (strKind P w).is k p.2 = false := c
      rw [e', ← e, isStr] at c'
      cases c'
    have hgw : ∀ (b : Bool) {s₁ : Shared} {Q' : Unit → Shared → Prop}, Q' () s₁ → wpAny (model P w) A (match b with | true => rule "set.scan.the-table-gave-way" | false => pure ()) Q' E s₁ :=
      fun b s₁ Q' q => by cases b <;> first | exact wpAny_pure q | exact wpAny_rule q
    have pm := layNew_perm t es (hashStr w k) (.str k u)
    have hf1 := layNew_fits t es (hashStr w k) (.str k u)
    have hr1 := layNew_ris t es (hashStr w k) (.str k u) hr
    have hl1 := layNew_led t es (hashStr w k) (.str k u)
    generalize layNew t es (hashStr w k) (.str k u) = Z at pm hf1 hr1 hl1 ⊢
    obtain ⟨es1, t1, wasDummy, gave⟩ := Z
    dsimp only at pm hf1 hr1 hl1 ⊢
    rw [Array.toList_push, hrow] at pm
    have pc : es1.toList.Perm (rowT w (k, .str k u) :: L.map (rowT w)) := pm.trans (List.perm_append_singleton _ _)
    have hsz : es1.size = L.length + 1 := by rw [← Array.length_toList, pc.length_eq, List.length_cons, List.length_map]
    have hb1 : es1.size < scanBound := by rw [hsz]; exact Nat.lt_trans (Nat.lt_succ_of_le (Nat.succ_le_of_lt hfew)) (by decide)
    have hled : w.params.followText "set-order" = true ∨ t1.led = true := hl.imp id fun z => by rw [hl1]; exact z
    have fin : ∀ (h' : Heap) (es' : Array (Int × Value)) (ep' : Nat) (t' : SetTable), Heap.SameBut a s.heap h' → h'.get? a = some { o with data := .set es' ep' t' } → es'.toList.Perm es1.toList → t'.fits es'.size = true → Ris t'.place.toList →
        (w.params.followText "set-order" = true ∨ t'.led = true) → Q true { s with heap := h', toks := s.toks + 1 } := fun h' es' ep' t' sb hg' pe hf' hr' hl' => by
      obtain ⟨L', pL, eL⟩ := perm_lift (rowT w) (pe.trans pc) ((k, Value.str k u) :: L) rfl
      refine hQ true h' L' (s.toks + 1) sb (Nat.le_succ _) ⟨_, es', ep', t', hg', hex, rfl, eL.symm, ?_, fun p hp => ?_, ?_, hf', hr', hl'⟩ (fun z => absurd z hnk) fun _ => pL
      · exact (pL.map (·.1)).nodup_iff.mpr (List.nodup_cons.mpr ⟨hnk, nd⟩)
      · rcases List.mem_cons.mp (pL.mem_iff.mp hp) with z | z
        · rw [z]; exact ⟨u, rfl⟩
        · exact hm p z
      · rw [pL.length_eq, List.length_cons]; omega
    refine wpAny_bind (hgw _ ?_)
    split
    · refine wpAny_bind ?_
      rw [hashByValue_scannable 8 hsc]
      refine wpAny_pure ?_
      refine tail_t (s := { s with toks := s.toks + 1 }) ?_ ho hd hb1 ?_ ?_ ?_ ?_
      · intro b s₁ Q' q; cases b <;> first | exact wpAny_pure q | exact wpAny_rule q
      · first | (split <;> first | exact hf1 | exact SetTable.fits_plain_off hf1) | exact hf1
      · first | (split <;> exact hr1) | exact hr1
      · first | (split <;> exact hled) | exact hled
      · intro h' es' ep' t' sb hg' pe hf' hr' hl'; dsimp only; exact wpAny_pure (fin h' es' ep' t' sb hg' pe hf' hr' hl')
    · refine wpAny_bind (wpAny_pure ?_)
      simp only [↓reduceIte]
      refine tail_t (s := { s with toks := s.toks + 1 }) ?_ ho hd hb1 hf1 hr1 hled ?_
      · intro b s₁ Q' q; cases b <;> first | exact wpAny_pure q | exact wpAny_rule q
      · intro h' es' ep' t' sb hg' pe hf' hr' hl'; dsimp only; exact wpAny_pure (fin h' es' ep' t' sb hg' pe hf' hr' hl')
theorem gather_t {a : Addr} {L : List (Str × Value)} {Q : List Value → Shared → Prop} (R : AtT w s.heap a L) (hh : A.handled = none)
    (hQ : ∀ s' out, (∀ b o, s.heap.get? b = some o → s'.heap.get? b = some o) → s.heap.objs.size ≤ s'.heap.objs.size → s'.gens = s.gens → s'.os = s.os → out.Perm (L.map (·.2)) → Q out s') :
    wpAny (model P w) A (collect (.ref a)) Q E s := by
  obtain ⟨o, es, ep, t, ho, hex, hd, hrow, nd, hm, hb, hf, hr, hl⟩ := R
  have hsz0 : es.size = L.length := by rw [← Array.length_toList, hrow, List.length_map]
  refine collect_set hh ⟨o, ho, hex.1, hd⟩ hf (by rw [hsz0]; exact Nat.lt_trans hb (by decide)) hr hl fun s' out k z g e pm => hQ s' out k z g e ?_
  rw [hrow, List.map_map] at pm
  exact pm
end
def YT (P : Program) (w : World) : Sys P w Str where
  is := fun _ k v => ∃ u, v = .str k u
  At := AtT w
  room := fun _ => True
  stay := fun h _ => h
  keep := fun {h h' a L} R k _ => by
    obtain ⟨o, es, ep, t, ho, r⟩ := R
    exact ⟨o, es, ep, t, k o ho, r⟩
  fresh := fun {h a} ho => ⟨_, #[], 0, _, ho, ⟨rfl, rfl, rfl⟩, rfl, rfl, List.nodup_nil, (fun p hp => by cases hp), (by decide), rfl, List.Pairwise.nil, by
    show _ ∨ (!w.params.followText "set-order") = true
    cases w.params.followText "set-order"
    · exact .inr rfl
    · exact .inl rfl⟩
  nodup := fun R => by
    obtain ⟨o, es, ep, t, ho, hex, hd, hrow, nd, hm, r⟩ := R
    exact nd
  mem := fun R => by
    obtain ⟨o, es, ep, t, ho, hex, hd, hrow, nd, hm, r⟩ := R
    exact hm
  add := fun R hv _ hf hQ => add_t R hv hf hQ
  gather := fun R hh hQ => gather_t R hh hQ
/-- texts by a rank -/
theorem rankedT {rk : Str → Int} {D : Str → Prop} (hr : ∀ x y, D x → D y → _root_.KT.tlt x y = decide (rk x < rk y)) : Ranked (YT P w) rk D where
  kind := fun {A E s} L h2 hu hi hD Q h => by
    have key : ∀ L : List (Str × Value), (∀ p ∈ L, ∃ u, p.2 = Value.str p.1 u) → StrsAre (L.map (·.2)) (L.map (·.1)) := by
      intro L
      induction L with
      | nil => intro _; exact .nil
      | cons p L ih =>
        intro hp
        obtain ⟨u, e⟩ := hp p List.mem_cons_self
        rw [List.map_cons, List.map_cons, e]
        exact .cons _ u (ih fun q hq => hp q (List.mem_cons_of_mem _ hq))
    have hS := key L hi
    match L, h2 with
    | p1 :: p2 :: L, _ =>
      rw [List.map_cons, List.map_cons] at hS ⊢
      rw [keyKind_strs hS]
      refine wpAny_pure (h oneType' fun p hp q hq Q2 E2 q2 => ?_)
      obtain ⟨u, e⟩ := hi p hp
      obtain ⟨u', e'⟩ := hi q hq
      rw [e, e']
      refine PySem.W.kas_lt_str ?_
      rw [← hr p.1 q.1 (hD p hp) (hD q hq)] at q2
      exact q2
  inj := fun {h k k' v} x y => by
    obtain ⟨u, e⟩ := x
    obtain ⟨u', e'⟩ := y
    rw [e] at e'
    cases e'
    rfl
end KS

/-! sets of ranges: at most two -/
namespace KS
open PySem PySem.Spec PyProof.Rows L2 KT
open PySem.SeqAt
variable {P : Program} {w : World}
abbrev NK (P : Program) (w : World) : HeapKind P w NestedKey := nestedKind P w
abbrev rhash (P : Program) (w : World) (r : Rg) : Int := (NK P w).hash r.key
def isR (h : Heap) (r : Rg) (v : Value) : Prop := ∃ a, v = .ref a ∧ RgIn h a r
theorem isTup_stay {h h' : Heap} {a : Addr} {its : Array Value} (x : IsTup h a its) (k : ∀ b o, h.get? b = some o → h'.get? b = some o) : IsTup h' a its := by
  obtain ⟨o, ho, r⟩ := x
  exact ⟨o, k a o ho, r⟩
theorem rgIn_stay {h h' : Heap} {a : Addr} {r : Rg} (x : RgIn h a r) (k : ∀ b o, h.get? b = some o → h'.get? b = some o) : RgIn h' a r := by
  obtain ⟨o, its, its2, t1, t2, p, e, p2, q⟩ := x
  exact ⟨o, its, its2, t1, t2, isTup_stay p k, e, isTup_stay p2 k, q⟩
theorem rgIn_key {P : Program} {w : World} {h : Heap} {a : Addr} {r : Rg} (x : RgIn h a r) : (NK P w).is h r.key a := ⟨x.nested, r.depth⟩
theorem isTup_type {s : Shared} {a : Addr} {its : Array Value} (x : IsTup s.heap a its) : s.TypeIs (.ref a) "tuple" := by
  obtain ⟨o, ho, hc, r⟩ := x
  exact ⟨o, ho, hc⟩
theorem rgIn_same {h h' : Heap} {a b : Addr} {r : Rg} {o : Obj} {es : Array (Int × Value)} {ep : Nat} {t : SetTable} (hb : RgIn h b r) (ho : h.get? a = some o) (hd : o.data = .set es ep t) (hs : Heap.SameBut a h h') : RgIn h' b r := by
  have key : ∀ {c : Addr} {its : Array Value}, IsTup h c its → IsTup h' c its := fun {c its} x => by
    obtain ⟨o', ho', hc, n, hd'⟩ := x
    have hne : c ≠ a := by
      rintro rfl
      obtain rfl : o' = o := Option.some.inj (ho'.symm.trans ho)
      rw [hd] at hd'
      exact nomatch hd'
    exact ⟨o', (hs.2 c hne).trans ho', hc, n, hd'⟩
  obtain ⟨o2, its, its2, t1, t2, p, e, p2, q⟩ := hb
  exact ⟨o2, its, its2, t1, t2, key p, e, key p2, q⟩
section
variable {A : Around} {E : Value → Shared → Prop} {s : Shared}
theorem aClass_str (n : Nat) (z : Str) (t : Tok) : ofAClassStatement n (.str z t) = pure false := by cases n <;> rfl
theorem aClass_seq (n : Nat) {b : Addr} {its : Array Value} {Q : Bool → Shared → Prop} (hT : IsTup s.heap b its) (hi : ∀ v ∈ its.toList, ∀ Q : Bool → Shared → Prop, Q false s → wpAny (model P w) A (ofAClassStatement n v) Q E s) (h : Q false s) :
    wpAny (model P w) A (ofAClassStatement (n + 1) (.ref b)) Q E s := by
  have hT' := isTup_type hT
  obtain ⟨o, ho, _, c, hd⟩ := hT
  unfold ofAClassStatement
  refine wpAny_bind (wpAny_typeOf hT' ?_)
  dsimp only
  have e : (("tuple" : String) == "tuple") = true := by decide
  simp only [e, if_true, Bool.not_true, Bool.false_eq_true, if_false]
  try refine wpAny_bind (wpAny_pure ?_)
  try simp only [Bool.not_true, Bool.false_eq_true, if_false]
  show wpAny _ _ (seqItems? (.ref b) >>= _) _ _ s
  refine wpAny_bind (wpAny_seqItems ho hd ?_)
  dsimp only
  refine wpAny_bind ?_
  show wpAny _ _ (forIn its _ _) _ _ s
  rw [← Array.forIn_toList]
  refine wpAny_forIn_list _ (fun rest r s' => r.1 = none ∧ s' = s ∧ ∀ v ∈ rest, ∀ Q : Bool → Shared → Prop, Q false s → wpAny (model P w) A (ofAClassStatement n v) Q E s) _ ?_ ?_ _ _ ⟨rfl, rfl, hi⟩
  · rintro v rest r s' ⟨hr, rfl, hall⟩
    refine wpAny_bind (hall v List.mem_cons_self _ ?_)
    simp only [Bool.false_eq_true, if_false]
    exact wpAny_pure ⟨rfl, rfl, fun u hu' => hall u (List.mem_cons_of_mem _ hu')⟩
  · rintro ⟨r1, r2⟩ s' ⟨hr, rfl, _⟩
    simp only at hr
    subst hr
    exact wpAny_pure h
theorem aClass_rg {r : Rg} {b : Addr} {Q : Bool → Shared → Prop} (x : RgIn s.heap b r) (h : Q false s) : wpAny (model P w) A (ofAClassStatement 8 (.ref b)) Q E s := by
  obtain ⟨o, its, its2, t1, t2, p, e, p2, q⟩ := x
  refine aClass_seq 7 p (fun v hv Q' hQ => ?_) h
  rw [e] at hv
  simp only [List.mem_cons, List.not_mem_nil, or_false] at hv
  rcases hv with rfl | rfl | rfl
  · rw [aClass_str]; exact wpAny_pure hQ
  · rw [aClass_str]; exact wpAny_pure hQ
  · refine aClass_seq 6 p2 (fun v hv Q2 hQ2 => ?_) hQ
    have key : ∀ {us : List Value} {xs : List Str}, StrsAre us xs → ∀ v ∈ us, ∃ z t, v = Value.str z t := by
      intro us xs h
      induction h with
      | nil => intro v hv; cases hv
      | cons z t _ ih =>
        intro v hv
        rcases List.mem_cons.mp hv with e | hv
        · exact ⟨z, t, e⟩
        · exact ih v hv
    obtain ⟨z, t, rfl⟩ := key q v hv
    rw [aClass_str]; exact wpAny_pure hQ2
theorem hashBy_rg {r : Rg} {b : Addr} {Q : Bool → Shared → Prop} (x : RgIn s.heap b r) (h : Q false s) : wpAny (model P w) A (hashByValue 8 (.ref b)) Q E s := by
  obtain ⟨o, its, its2, t1, t2, p, e, p2, q⟩ := x
  have hT := isTup_type p
  obtain ⟨ob, ho, hc, n, hd⟩ := p
  unfold hashByValue
  refine wpAny_bind (wpAny_specialOf hT F.slot_tuple_hash.lookup ?_)
  show wpAny _ _ (seqItems? (.ref b) >>= _) _ _ s
  refine wpAny_bind (wpAny_seqItems ho hd ?_)
  refine wpAny_bind ?_
  show wpAny _ _ (forIn its _ _) _ _ s
  rw [← Array.forIn_toList, e]
  rw [List.forIn_cons]
  rw [show hashByValue 7 (.str r.lo t1) = pure false from rfl]
  refine wpAny_bind ?_
  refine wpAny_bind (wpAny_pure ?_)
  simp only [Bool.not_false, if_true]
  refine wpAny_pure ?_
  refine wpAny_pure ?_
  exact wpAny_pure h
theorem seen_rg {r : Rg} {b : Addr} {Q : Bool → Shared → Prop} (hk : RgIn s.heap b r) {ys : List Value} (hy : ∀ y ∈ ys, ∃ r' c, y = Value.ref c ∧ RgIn s.heap c r') (h : Q false s) :
    wpAny (model P w) A (searchCouldBeSeen (.ref b) ys) Q E s := by
  unfold searchCouldBeSeen
  refine wpAny_bind ?_
  refine wpAny_forIn_list _ (fun rest r s' => r.1 = none ∧ s' = s ∧ ∀ y ∈ rest, ∃ r' c, y = Value.ref c ∧ RgIn s.heap c r') _ ?_ ?_ _ _ ⟨rfl, rfl, hy⟩
  · rintro v rest r s' ⟨hr, rfl, hall⟩
    obtain ⟨k', c, rfl, hc⟩ := hall v List.mem_cons_self
    have rest' : ∀ y ∈ rest, ∃ r' c, y = Value.ref c ∧ RgIn s'.heap c r' := fun u hu' => hall u (List.mem_cons_of_mem _ hu')
    dsimp only
    by_cases hv : (b == c || (carriedByValue (.ref b) && carriedByValue (.ref c))) = true
    · refine wp_if_pos hv ?_
      exact wpAny_pure ⟨rfl, rfl, rest'⟩
    · refine wp_if_neg hv ?_
      refine wpAny_bind ((NK P w).quiet (rgIn_key hk) ?_)
      simp only [Bool.not_true, Bool.false_eq_true, if_false]
      refine wpAny_bind ((NK P w).quiet (rgIn_key hc) ?_)
      simp only [Bool.not_true, Bool.false_eq_true, if_false]
      refine wpAny_bind (aClass_rg hk ?_)
      simp only [Bool.false_eq_true, if_false]
      refine wpAny_bind (aClass_rg hc ?_)
      simp only [Bool.false_eq_true, if_false]
      exact wpAny_pure ⟨rfl, rfl, rest'⟩
  · rintro ⟨r1, r2⟩ s' ⟨hr, rfl, _⟩
    simp only at hr
    subst hr
    exact wpAny_pure h
end
def rowR (hs : Rg → Int) (p : Rg × Value) : Int × Value := (hs p.1, p.2)
structure AtR (w : World) (hs : Rg → Int) (h : Heap) (a : Addr) (L : List (Rg × Value)) (es : Array (Int × Value)) (ep : Nat) (t : SetTable) : Prop where
  ob : ∃ o, h.get? a = some o ∧ o.ExactSet ∧ o.data = .set es ep t
  rows : es.toList = L.map (rowR hs)
  tab : TabOk t (L.map fun p => hs p.1)
  nd : (L.map (·.1)).Nodup
  mem : ∀ p ∈ L, isR h p.1 p.2
  led : w.params.followText "set-order" = true ∨ t.led = true
  mask : t.mask = 7
  few : L.length ≤ 2
section
variable {hs : Rg → Int} {A : Around} {E : Value → Shared → Prop} {s : Shared} {a : Addr} {L : List (Rg × Value)} {es : Array (Int × Value)} {ep : Nat} {t : SetTable}
theorem AtR.size (R : AtR w hs s.heap a L es ep t) : es.size = L.length := by
  have h := congrArg List.length R.rows
  rw [Array.length_toList, List.length_map] at h
  exact h
theorem AtR.fits (R : AtR w hs s.heap a L es ep t) : t.fits es.size = true := by
  have h1 := R.tab.sz
  rw [List.length_map] at h1
  have h2 := R.size
  have h3 := R.few
  have h4 := R.mask
  unfold SetTable.fits SetTable.fill
  rw [R.tab.dm, Bool.and_eq_true, beq_iff_eq, decide_eq_true_eq]
  show t.place.size = es.size ∧ t.place.size + 0 ≤ t.mask
  omega
theorem AtR.entry (R : AtR w hs s.heap a L es ep t) {i : Nat} {p : Rg × Value} (h : L[i]? = some p) : es[i]? = some (hs p.1, p.2) := by
  rw [← Array.getElem?_toList, R.rows, List.getElem?_map, h] <;> rfl
theorem AtR.gw (R : AtR w hs s.heap a L es ep t) : ¬ t.gaveWay = true := by
  unfold SetTable.gaveWay
  rw [mask_odd R.tab.mok]
  decide
theorem find_from (R : AtR w hs s.heap a L es ep t) {x : Addr} {k : Rg} (hx : RgIn s.heap x k) (hu : A.units + 8 < cLine) {K : Nat} (hKf : K < 10 * SetTable.turns t.mask)
    (hK : way t.mask (hs k) K ∉ t.place.toList) (hKb : ∀ c, c < K → way t.mask (hs k) c ∈ t.place.toList) {Q : SetFound → Shared → Prop}
    (hin : k ∈ L.map (·.1) → Q (.there none) s) (hout : k ∉ L.map (·.1) → Q (.free (way t.mask (hs k) K) false) s) :
    ∀ (f c : Nat) (stand : Option SetTable.Probe), stand.getD (t.probeStart (hs k)) = nth t.mask (runAt t.mask (SetTable.bits (hs k) % (t.mask + 1)) (SetTable.bits (hs k))) c → c ≤ K → K - c < f →
      (∀ (i : Nat) p, L[i]? = some p → p.1 = k → ∃ c', c ≤ c' ∧ c' < K ∧ t.place.toList[i]? = some (way t.mask (hs k) c')) →
      wpAny (model P w) A (setSearchFrom a (.ref x) (hs k) true f stand) Q E s := by
  intro f
  induction f with
  | zero => exact fun c stand _ _ hf _ => absurd hf (Nat.not_lt_zero _)
  | succ f find_next =>
    intro c stand hst hc hf hre
    obtain ⟨o, ho, hex, hd⟩ := R.ob
    rw [setSearchFrom_succ]
    refine wpAny_bind (wpAny_setState_of ho hd R.fits ?_)
    dsimp only
    refine wp_if_neg R.gw ?_
    try refine wpAny_bind (wpAny_pure ?_)
    have hnd : (nth t.mask (runAt t.mask (SetTable.bits (hs k) % (t.mask + 1)) (SetTable.bits (hs k))) c).dummy = none := by
      have key : ∀ (n : Nat) (p : SetTable.Probe), p.dummy = none → (nth t.mask p n).dummy = none := by
        intro n
        induction n with
        | zero => intro p h; exact h
        | succ n ih =>
          intro p h
          refine ih (adv t.mask p) ?_
          unfold adv
          split <;> exact h
      exact key c _ rfl
    have sh : ∀ q, nth t.mask (nth t.mask (runAt t.mask (SetTable.bits (hs k) % (t.mask + 1)) (SetTable.bits (hs k))) c) q = nth t.mask (runAt t.mask (SetTable.bits (hs k) % (t.mask + 1)) (SetTable.bits (hs k))) (c + q) := fun q => (nth_add t.mask c _ q).symm
    have e1 : ∀ q, (nth t.mask (nth t.mask (runAt t.mask (SetTable.bits (hs k) % (t.mask + 1)) (SetTable.bits (hs k))) c) q).j = way t.mask (hs k) (c + q) := fun q => congrArg SetTable.Probe.j (sh q)
    have spec := go_spec t R.tab.ris R.tab.dm (fun i => (es[i]?.map (·.1)).getD 0) (hs k) (10 * SetTable.turns t.mask) (K - c) _ hnd (by omega)
      (fun q hq => by rw [e1]; exact hKb (c + q) (by omega)) (by rw [e1, show c + (K - c) = K by omega]; exact hK)
    have hashAt : ∀ (i : Nat) p, L[i]? = some p → (fun i => (es[i]?.map (·.1)).getD 0) i = hs p.1 := fun i p hp => by
      show (es[i]?.map (·.1)).getD 0 = _
      rw [R.entry hp] <;> rfl
    rcases spec with ⟨q, i, hq, hi, hh, hno, hpr⟩ | ⟨hno, hpr⟩
    · have hpr' : t.probe (fun i => (es[i]?.map (·.1)).getD 0) (hs k) (stand.getD (t.probeStart (hs k))) = some (.candidate (way t.mask (hs k) (c + q)) i (nth t.mask (runAt t.mask (SetTable.bits (hs k) % (t.mask + 1)) (SetTable.bits (hs k))) (c + (q + 1)))) := by
        rw [hst, ← e1, ← sh]
        exact hpr
      rw [hpr']
      dsimp only
      rw [e1] at hi
      have hil : i < L.length := by
        have h1 : i < t.place.toList.length := (List.getElem?_eq_some_iff.mp hi).1
        have h2 := R.tab.sz
        rw [List.length_map] at h2
        rw [Array.length_toList] at h1
        omega
      have hp : L[i]? = some L[i] := List.getElem?_eq_getElem hil
      generalize hpe : L[i] = p at hp
      have hmem : p ∈ L := List.mem_of_getElem? hp
      obtain ⟨pa, epa, hpt⟩ := R.mem p hmem
      have rest : wpAny (model P w) A (searchRest a (.ref x) (hs k) true f es t (way t.mask (hs k) (c + q)) i (nth t.mask (runAt t.mask (SetTable.bits (hs k) % (t.mask + 1)) (SetTable.bits (hs k))) (c + (q + 1)))) Q E s := by
        unfold searchRest
        rw [R.entry hp]
        dsimp only
        have hq0 : ∀ {Q' : Bool → Shared → Prop}, Q' (decide (p.1 = k)) s → wpAny (model P w) A (eqBool p.2 (.ref x)) Q' E s := fun {Q'} h => by
          rw [epa]
          refine (NK P w).eqBool hu (rgIn_key hpt) (rgIn_key hx) ?_
          have e2 : decide (p.1.key = k.key) = decide (p.1 = k) := decide_eq_decide.mpr ⟨Rg.key_inj, fun e => by rw [e]⟩
          rw [e2]
          exact h
        refine wpAny_bind (wpAny_holding (hq0 ?_))
        refine wpAny_bind (wpAny_setState_of ho hd R.fits ?_)
        dsimp only
        by_cases hkk : p.1 = k
        · refine wp_if_pos (by simp [hkk]) ?_
          refine wpAny_pure (hin ?_)
          exact List.mem_map.mpr ⟨p, hmem, hkk⟩
        · refine wp_if_neg (by simp [hkk]) ?_
          try refine wpAny_bind (wpAny_pure ?_)
          rw [sameMem]
          dsimp only
          have hsl : t.slot (way t.mask (hs k) (c + q)) = .live i := slot_live R.tab.ris hi
          simp only [if_true, hsl, R.entry hp]
          rw [epa]
          refine wpAny_bind (wpAny_isSame_ref_self (wpAny_bind (wpAny_pure ?_)))
          simp only [if_true]
          refine wp_if_neg (by simp [hkk]) ?_
          refine find_next (c + (q + 1)) _ rfl (by omega) (by omega) fun i0 p0 h0 hk0 => ?_
          obtain ⟨c', a1, a2, a3⟩ := hre i0 p0 h0 hk0
          refine ⟨c', ?_, a2, a3⟩
          rcases Nat.lt_or_ge c' (c + q) with z | z
          · exfalso
            refine hno (c' - c) i0 (by omega) (by rw [e1, show c + (c' - c) = c' by omega]; exact a3) ?_
            exact (hashAt i0 p0 h0).trans (congrArg hs hk0)
          · rcases Nat.lt_or_ge (c + q) c' with y | y
            · omega
            · exfalso
              have ec : c' = c + q := Nat.le_antisymm y z
              rw [ec] at a3
              have s0 := slot_live R.tab.ris a3
              rw [hsl] at s0
              injection s0 with s0
              rw [← s0, hp] at h0
              exact hkk ((congrArg Prod.fst (Option.some.inj h0)).trans hk0)
      by_cases hl : t.led = true
      · refine wp_if_neg (by simp [hl]) ?_
        try refine wpAny_bind (wpAny_pure ?_)
        exact rest
      · refine wp_if_pos (by simp [hl]) ?_
        refine wpAny_bind (seen_rg hx (fun y hy => ?_) ?_)
        · obtain ⟨e, he, ee⟩ := List.mem_map.mp hy
          have he1 : e ∈ es ∧ e.1 = hs k := by simpa using he
          have he2 : e ∈ es.toList := by simpa using he1.1
          rw [R.rows] at he2
          obtain ⟨p2, hp2, e2⟩ := List.mem_map.mp he2
          obtain ⟨a2, ea2, hr2⟩ := R.mem p2 hp2
          refine ⟨p2.1, a2, ?_, hr2⟩
          rw [← ee, ← e2]
          exact ea2
        · refine wp_if_neg (by decide) ?_
          try refine wpAny_bind (wpAny_pure ?_)
          exact rest
    · have hpr' : t.probe (fun i => (es[i]?.map (·.1)).getD 0) (hs k) (stand.getD (t.probeStart (hs k))) = some (.empty (way t.mask (hs k) K) none) := by
        have e2 : way t.mask (hs k) K = (nth t.mask (nth t.mask (runAt t.mask (SetTable.bits (hs k) % (t.mask + 1)) (SetTable.bits (hs k))) c) (K - c)).j := by
          rw [e1, show c + (K - c) = K by omega]
        rw [hst, e2]
        exact hpr
      rw [hpr']
      dsimp only
      refine wpAny_pure (hout fun hm => ?_)
      obtain ⟨p0, h0, hk0⟩ := List.mem_map.mp hm
      obtain ⟨i0, hi0, e0⟩ := List.getElem_of_mem h0
      have h00 : L[i0]? = some p0 := by rw [List.getElem?_eq_getElem hi0, e0]
      obtain ⟨c', a1, a2, a3⟩ := hre i0 p0 h00 hk0
      refine hno (c' - c) i0 (by omega) (by rw [e1, show c + (c' - c) = c' by omega]; exact a3) ?_
      exact (hashAt i0 p0 h00).trans (congrArg hs hk0)
theorem find_at (R : AtR w hs s.heap a L es ep t) {x : Addr} {k : Rg} (hx : RgIn s.heap x k) (hu : A.units + 8 < cLine) {Q : SetFound → Shared → Prop}
    (hin : k ∈ L.map (·.1) → Q (.there none) s)
    (hout : ∀ K, k ∉ L.map (·.1) → way t.mask (hs k) K ∉ t.place.toList → (∀ c, c < K → way t.mask (hs k) c ∈ t.place.toList) → Q (.free (way t.mask (hs k) K) false) s) :
    wpAny (model P w) A (setSearch a (.ref x) (hs k) true) Q E s := by
  have hmk := R.mask
  have hfw := R.few
  obtain ⟨K, hKf, hK, hKb⟩ := R.tab.first (by rw [List.length_map]; omega) (hs k)
  have hbig : K < 100000 := by
    have : 10 * SetTable.turns t.mask ≤ 1420 := by
      unfold SetTable.turns
      rcases R.tab.mok with e | e | e <;> omega
    omega
  unfold setSearch
  refine find_from R hx hu hKf hK hKb hin (fun hn => hout K hn hK hKb) 100000 0 none rfl (Nat.zero_le _) (by omega) fun i p hp hk => ?_
  have hi : (L.map fun p => hs p.1)[i]? = some (hs k) := by rw [List.getElem?_map, hp, ← hk] <;> rfl
  have hil : i < t.place.toList.length := by
    have h1 : i < L.length := (List.getElem?_eq_some_iff.mp hp).1
    have h2 := R.tab.sz
    rw [List.length_map] at h2
    rw [Array.length_toList]
    omega
  have hj := List.getElem?_eq_getElem hil
  obtain ⟨c, hc, e⟩ := R.tab.before hK hi hj
  exact ⟨c, Nat.zero_le _, hc, by rw [hj, e]⟩
theorem add_r {v : Value} {k : Rg} {Q : Bool → Shared → Prop} (hhs : ∀ r : Rg, (NK P w).hash r.key = hs r) (R : AtR w hs s.heap a L es ep t) (hv : isR s.heap k v) (hu : A.units + 8 < cLine) (hfew : L.length < 2)
    (hQ : ∀ b h' L' tk, Heap.SameBut a s.heap h' → s.toks ≤ tk → (∃ es' ep' t', AtR w hs h' a L' es' ep' t') → (k ∈ L.map (·.1) → L' = L) → (k ∉ L.map (·.1) → L'.Perm ((k, v) :: L)) → Q b { s with heap := h', toks := tk }) :
    wpAny (model P w) A (setAdd a v) Q E s := by
  obtain ⟨x, rfl, hx⟩ := hv
  obtain ⟨o, ho, hex, hd⟩ := R.ob
  have hsl := R.size
  have hmk := R.mask
  unfold setAdd
  refine wpAny_holding ?_
  refine wpAny_bind ((NK P w).pyHash hu (rgIn_key hx) ?_)
  rw [hhs k]
  generalize htk : s.toks + (NK P w).draws k.key = tk
  have htk' : s.toks ≤ tk := by omega
  unfold setAddHashed
  refine wpAny_holding ?_
  rw [show (100000 : Nat) = 99999 + 1 from rfl, setAddHashedIn_succ]
  refine wpAny_bind (wpAny_setState_of ho hd R.fits ?_)
  dsimp only
  refine wp_if_neg (by simp [byScan, Value.scannable]) ?_
  try refine wpAny_bind (wpAny_pure ?_)
  refine wpAny_bind (find_at (s := { s with toks := tk }) R hx hu (fun hm => ?_) fun K hm hK hb => ?_)
  · dsimp only
    exact wpAny_pure (hQ false s.heap L tk (Heap.SameBut.refl a s.heap) htk' ⟨es, ep, t, R⟩ (fun _ => rfl) fun z => absurd hm z)
  · dsimp only
    refine wpAny_bind (wpAny_setState_of ho hd R.fits ?_)
    dsimp only
    obtain ⟨q1, q2, q3, q4, q5, q6, q7, q8, q9⟩ := R.tab.put hK hb
    generalize hpt : t.put (way t.mask (hs k) K) = pt at q1 q3 q4 q5 q6 q7 q8 q9 ⊢
    obtain ⟨t1, p⟩ := pt
    dsimp only at q1 q3 q4 q5 q6 q7 q8 q9 ⊢
    subst q1
    have hin : (SetTable.insertAt es (SetTable.below t.place (way t.mask (hs k) K)) (hs k, Value.ref x)).toList = (L.take (SetTable.below t.place (way t.mask (hs k) K)) ++ (k, Value.ref x) :: L.drop (SetTable.below t.place (way t.mask (hs k) K))).map (rowR hs) := by
      rw [SetTable.toList_insertAt, List.map_append, List.map_cons, List.map_take, List.map_drop, R.rows] <;> rfl
    generalize hpp : SetTable.below t.place (way t.mask (hs k) K) = p at q2 q3 hin ⊢
    have pm := put_perm L p (k, Value.ref x)
    have hlen : (L.take p ++ (k, Value.ref x) :: L.drop p).length = L.length + 1 := pm.length_eq
    have hhs : (L.take p ++ (k, Value.ref x) :: L.drop p).map (fun p => hs p.1) = (L.map fun p => hs p.1).take p ++ hs k :: (L.map fun p => hs p.1).drop p := by
      rw [List.map_append, List.map_cons, List.map_take, List.map_drop]
    rw [← hhs] at q3
    have nd1 : ((L.take p ++ (k, Value.ref x) :: L.drop p).map (·.1)).Nodup := by
      refine (pm.map (·.1)).nodup_iff.mpr ?_
      rw [List.map_cons]
      exact List.nodup_cons.mpr ⟨hm, R.nd⟩
    have hes : (SetTable.insertAt es p (hs k, Value.ref x)).size = L.length + 1 := by
      have h := congrArg List.length hin
      rw [Array.length_toList, List.length_map, hlen] at h
      exact h
    generalize SetTable.insertAt es p (hs k, Value.ref x) = es1 at hin hes ⊢
    generalize L.take p ++ (k, Value.ref x) :: L.drop p = L1 at pm hlen q3 nd1 hin
    have hnf : ∀ t2 : SetTable, t2.place = t1.place → t2.dummies = t1.dummies → t2.mask = t1.mask → ¬ (!false && t2.tooFull) = true := fun t2 a1 a2 a3 => by
      unfold SetTable.tooFull
      have e9 : t2.fill = L.length + 1 := by
        unfold SetTable.fill at q9 ⊢
        rw [a1, a2, q9, List.length_map]
      simp only [Bool.not_false, Bool.true_and, decide_eq_true_eq, e9, a3, q4, hmk]
      omega
    have fin : ∀ t2 : SetTable, t2.place = t1.place → t2.dummies = t1.dummies → t2.mask = t1.mask → t2.led = t1.led → TabOk t2 (L1.map fun p => hs p.1) →
        wpAny (model P w) A (do
          storeSet a es1 t2
          if (!false && t2.tooFull) = true then do
              setRelay a (SetTable.grown (es.size + 1))
              pure true
            else pure true) Q E { s with toks := tk } := fun t2 a1 a2 a3 a4 T => by
      refine wpAny_bind (wpAny_storeSet_of ho hd ?_ (by rw [hes, sizeLine_eq]; omega))
      have sb : Heap.SameBut a s.heap (s.heap.update a (Obj.putSet es1 t2)) := Heap.SameBut.update ..
      have ho1 := store_at (es' := es1) (t' := t2) ho hd
      refine wp_if_neg (hnf t2 a1 a2 a3) ?_
      refine wpAny_pure (hQ true _ L1 tk sb htk' ⟨es1, ep + 1, t2, ⟨_, ho1, ⟨hex.1, hex.2.1, hex.2.2⟩, rfl⟩, hin, T, nd1, fun p hp => ?_, ?_, by rw [a3, q4]; exact hmk, by rw [hlen]; omega⟩ (fun z => absurd z hm) fun _ => pm)
      · rcases List.mem_cons.mp (pm.mem_iff.mp hp) with e | hp
        · rw [e]; exact ⟨x, rfl, rgIn_same hx ho hd sb⟩
        · obtain ⟨b, eb, hb⟩ := R.mem p hp
          exact ⟨b, eb, rgIn_same hb ho hd sb⟩
      · rw [a4, q5]; exact R.led
    by_cases hpl : t1.plain = true
    · first
        | (refine wpAny_bind ?_; refine wp_if_pos hpl ?_; refine hashBy_rg (s := { s with toks := tk }) hx ?_)
        | refine wp_if_pos hpl (wpAny_bind (hashBy_rg (s := { s with toks := tk }) hx ?_))
      simp only [Bool.false_eq_true, if_false]
      exact fin { t1 with plain := false } rfl rfl rfl rfl ⟨q3.ris, q3.dm, q3.sz, q3.mok, q3.bd, q3.reach⟩
    · first
        | (refine wpAny_bind ?_; refine wp_if_neg hpl ?_; refine wpAny_pure ?_)
        | refine wp_if_neg hpl (wpAny_bind (wpAny_pure ?_))
      simp only [if_true]
      exact fin t1 rfl rfl rfl rfl q3
theorem gather_r {Q : List Value → Shared → Prop} (R : AtR w hs s.heap a L es ep t) (hh : A.handled = none)
    (hQ : ∀ s' out, (∀ b o, s.heap.get? b = some o → s'.heap.get? b = some o) → s.heap.objs.size ≤ s'.heap.objs.size → s'.gens = s.gens → s'.os = s.os → out.Perm (L.map (·.2)) → Q out s') :
    wpAny (model P w) A (collect (.ref a)) Q E s := by
  obtain ⟨o, ho, hex, hd⟩ := R.ob
  refine collect_set hh ⟨o, ho, hex.1, hd⟩ R.fits (by rw [R.size]; exact Nat.lt_of_le_of_lt R.few (by decide)) R.tab.ris R.led fun s' out k z g e pm => hQ s' out k z g e ?_
  rw [R.rows, List.map_map] at pm
  exact pm
end
def YR (P : Program) (w : World) : Sys P w Rg where
  is := isR
  At := fun h a L => ∃ es ep t, AtR w (rhash P w) h a L es ep t
  room := fun A => A.units + 8 < cLine
  stay := fun h k => by
    obtain ⟨a, e, x⟩ := h
    exact ⟨a, e, rgIn_stay x k⟩
  keep := fun {h h' a L} R k m => by
    obtain ⟨es, ep, t, R⟩ := R
    obtain ⟨o, ho, r⟩ := R.ob
    exact ⟨es, ep, t, ⟨o, k o ho, r⟩, R.rows, R.tab, R.nd, m, R.led, R.mask, R.few⟩
  fresh := fun {h a} ho => ⟨#[], 0, _, ⟨_, ho, ⟨rfl, rfl, rfl⟩, rfl⟩, rfl, ⟨List.Pairwise.nil, rfl, rfl, .inl rfl, fun x hx => (by cases hx), fun i h j hi => (by simp at hi)⟩, List.nodup_nil, (fun p hp => by cases hp), by
    show _ ∨ (!w.params.followText "set-order") = true
    cases w.params.followText "set-order"
    · exact .inr rfl
    · exact .inl rfl, rfl, by decide⟩
  nodup := fun R => by
    obtain ⟨es, ep, t, R⟩ := R
    exact R.nd
  mem := fun R => by
    obtain ⟨es, ep, t, R⟩ := R
    exact R.mem
  add := fun R hv hu hf hQ => by
    obtain ⟨es, ep, t, R⟩ := R
    exact add_r (fun _ => rfl) R hv hu hf hQ
  gather := fun R hh hQ => by
    obtain ⟨es, ep, t, R⟩ := R
    exact gather_r R hh hQ
end KS

/-! ranges sorted by a rank -/
namespace KS
open PySem PySem.Spec PyProof.Rows L2 KT
open PySem.SeqAt
variable {P : Program} {w : World}
section
variable {A : Around} {E : Value → Shared → Prop} {s : Shared}
theorem keyLt_rg {a b : Addr} {r q : Rg} {Q : Bool → Shared → Prop} (hu : A.units + 12 < cLine) (x : RgIn s.heap a r) (y : RgIn s.heap b q) (h : Q (rgLt r q) s) : wpAny (model P w) A (keyLt' (tuples' true) (.ref a) (.ref b)) Q E s := by
  obtain ⟨o, its, its2, t1, t2, p, e, p2, z⟩ := x
  obtain ⟨o', its', its2', u1, u2, p', e', p2', z'⟩ := y
  have hs1 : its.size = 3 := by rw [← Array.length_toList, e] <;> rfl
  have hs2 : its'.size = 3 := by rw [← Array.length_toList, e'] <;> rfl
  obtain ⟨ob, ho, hc, n, hd⟩ := p
  obtain ⟨ob', ho', hc', n', hd'⟩ := p'
  refine PySem.W.kat_lt ho hd ho' hd' ?_
  rw [hs1, hs2, e, e']
  show PySem.W.KatLex P w A true (decide (3 < 3)) _ [(.str r.lo t1, .str q.lo u1), (.str r.hi t2, .str q.hi u2), (.ref o, .ref o')] 0 s
  have dd : (NestedKey.tup (r.own.map .text)).depth ≤ 2 := by
    have := depth_txts r.own
    simp only [NestedKey.depth]
    omega
  have h3 := eqAt_key (.tup (r.own.map .text)) (.tup (q.own.map .text)) A s (.ref o) (.ref o') (RgIn.own p2 z) (RgIn.own p2' z') (by omega)
  unfold rgLt at h
  refine PySem.W.kat_cons (EqAt.str_str r.lo t1 q.lo u1 P w _ _ ?_)
  refine PySem.W.kat_go (fun c1 => ?_) (fun c1 => ?_)
  · rw [beq_iff_eq] at c1
    rw [if_pos c1] at h
    refine PySem.W.kat_yes (PySem.W.kat_cons (EqAt.str_str r.hi t2 q.hi u2 P w _ _ ?_))
    refine PySem.W.kat_go (fun c2 => ?_) (fun c2 => ?_)
    · rw [beq_iff_eq] at c2
      rw [if_pos c2] at h
      refine PySem.W.kat_yes (PySem.W.kat_cons (h3 P w _ _ ?_))
      refine PySem.W.kat_go (fun c3 => ?_) (fun c3 => ?_)
      · refine PySem.W.kat_yes (PySem.W.kat_nil ?_)
        have c4 : r.own = q.own := by
          rw [← NestedKey.decide_eq, decide_eq_true_eq] at c3
          injection c3 with c3
          exact texts_inj c3
        have z2 : rlt r.own q.own = false := by
          rw [c4]
          generalize q.own = l
          induction l with
          | nil => rfl
          | cons y l ih => unfold rlt; rw [if_pos rfl]; exact ih
        rw [z2] at h
        exact h
      · refine PySem.W.kat_no (PySem.W.kat_one _ _ ?_)
        exact tup_ltAt p2 p2' (by omega) (txts_rel _ _ z z') P w _ _ h
    · rw [beq_eq_false_iff_ne] at c2
      rw [if_neg c2] at h
      exact PySem.W.kat_no (PySem.W.kat_one _ _ (txt_ltAt A s r.hi q.hi t2 u2 P w _ _ h))
  · rw [beq_eq_false_iff_ne] at c1
    rw [if_neg c1] at h
    exact PySem.W.kat_no (oneLt_str h)
theorem kat_rgs : ∀ L : List (Rg × Value), (∀ p ∈ L, isR s.heap p.1 p.2) → ∃ fs : List Value, PySem.W.KatTups s.heap (L.map (·.2)) fs ∧ fs.length = L.length ∧ ∀ f ∈ fs, ∃ z t, f = Value.str z t
  | [], _ => ⟨[], .nil, rfl, fun f hf => by cases hf⟩
  | p :: L, h => by
    obtain ⟨fs, h1, h2, h3⟩ := kat_rgs L fun q hq => h q (List.mem_cons_of_mem _ hq)
    obtain ⟨a, ea, o, its, its2, t1, t2, ⟨ob, ho, hc, n, hd⟩, e, _⟩ := h p List.mem_cons_self
    refine ⟨.str p.1.lo t1 :: fs, ?_, by rw [List.length_cons, List.length_cons, h2], fun f hf => ?_⟩
    · rw [List.map_cons, ea]
      refine .cons ho hc hd ?_ h1
      rw [← Array.getElem?_toList, e] <;> rfl
    · rcases List.mem_cons.mp hf with z | z
      · exact ⟨_, _, z⟩
      · exact h3 f z
end
/-- ranges by a rank -/
theorem rankedR {rk : Rg → Int} {D : Rg → Prop} (hr : ∀ x y, D x → D y → rgLt x y = decide (rk x < rk y)) : Ranked (YR P w) rk D where
  kind := fun {A E s} L h2 hu hi hD Q h => by
    obtain ⟨fs, h1, hl, h3⟩ := kat_rgs L hi
    refine PySem.W.kat_kind (T := .type "str") h1 (by omega) (fun f hm => ?_) (by rfl) ?_
    · obtain ⟨x, t, rfl⟩ := h3 f hm
      exact PySem.W.Looks.now
    · have e : (Value.type "str" != Value.type "tuple") = true := by first | decide +kernel | rfl | decide
      rw [e]
      refine h (tuples' true) fun p hp q hq Q2 E2 q2 => ?_
      obtain ⟨a, ea, xa⟩ := hi p hp
      obtain ⟨b, eb, xb⟩ := hi q hq
      rw [ea, eb]
      rw [← hr p.1 q.1 (hD p hp) (hD q hq)] at q2
      exact keyLt_rg hu xa xb q2
  inj := fun {h k k' v} x y => by
    obtain ⟨a, ea, xa⟩ := x
    obtain ⟨b, eb, xb⟩ := y
    rw [ea] at eb
    injection eb with eb
    subst eb
    exact Rg.key_inj (NestedIs.inj _ _ _ xa.nested xb.nested)
end KS

/-! sorted(set(xs)) for lists of at most two members -/
namespace KS
open PySem PySem.Spec PyProof.Rows L2
theorem vals_zip {κ : Type} : ∀ {zs : List (κ × V)} {us : List Value}, Vals (zs.map (·.2)) us → ((zs.map (·.1)).zip us).map (·.2) = us ∧ ((zs.map (·.1)).zip us).map (·.1) = zs.map (·.1) ∧ ∀ p ∈ (zs.map (·.1)).zip us, ∃ x, (p.1, x) ∈ zs ∧ RelV x p.2
  | [], _, .nil => ⟨rfl, rfl, fun p hp => by cases hp⟩
  | z :: zs, _, .cons r t => by
    obtain ⟨h1, h2, h3⟩ := vals_zip t
    refine ⟨by rw [List.map_cons, List.zip_cons_cons, List.map_cons, h1], by rw [List.map_cons, List.zip_cons_cons, List.map_cons, h2], fun p hp => ?_⟩
    rw [List.map_cons, List.zip_cons_cons] at hp
    rcases List.mem_cons.mp hp with e | hp
    · rw [e]; exact ⟨z.2, List.mem_cons_self, r⟩
    · obtain ⟨x, h4, h5⟩ := h3 p hp
      exact ⟨x, List.mem_cons_of_mem _ h4, h5⟩
theorem back {κ : Type} {zs : List (κ × V)} : ∀ L : List (κ × Value), (∀ p ∈ L, ∃ x, (p.1, x) ∈ zs ∧ RelV x p.2) → ∃ ys : List (κ × V), Vals (ys.map (·.2)) (L.map (·.2)) ∧ ys.map (·.1) = L.map (·.1) ∧ ∀ y ∈ ys, y ∈ zs
  | [], _ => ⟨[], .nil, rfl, fun y hy => by cases hy⟩
  | p :: L, h => by
    obtain ⟨ys, h1, h2, h3⟩ := back L fun q hq => h q (List.mem_cons_of_mem _ hq)
    obtain ⟨x, h4, h5⟩ := h p List.mem_cons_self
    refine ⟨(p.1, x) :: ys, .cons h5 h1, by rw [List.map_cons, List.map_cons, h2], fun y hy => ?_⟩
    rcases List.mem_cons.mp hy with e | hy
    · rw [e]; exact h4
    · exact h3 y hy
section
variable {X : Cx} {κ : Type} [DecidableEq κ]
def tSortedSet (K : PySem.W.Frag) (rk : κ → Int) (D : κ → Prop) (Is : Hp → κ → V → Prop) (ta : TE) : TE := fun σ H Q => ta σ H fun x H1 => ∃ (l : Addr) (zs : List (κ × V)), x = V.ref l ∧ SqL K H1 l (zs.map (·.2)) ∧ zs.length ≤ 2 ∧ (∀ z ∈ zs, Is H1 z.1 z.2 ∧ D z.1) ∧
  ∀ p (ys : List (κ × V)), H1 p = none → (∀ y ∈ ys, y ∈ zs) → (∀ z ∈ zs, z.1 ∈ ys.map (·.1)) → ys.Pairwise (fun y y' => rk y.1 < rk y'.1) → Q (.ref p) (upd H1 p (.lst (ys.map (·.2))))
theorem pe_sortedSet (Y : Sys X.prog X.w κ) {rk : κ → Int} {D : κ → Prop} (Kr : Ranked Y rk D) (hinj : ∀ x y, D x → D y → rk x = rk y → x = y) {Is : Hp → κ → V → Prop}
    (hIs : ∀ {pins : List (Addr × Obj)} {σ : L2.St} {H : Hp} {s : Shared} {k : κ} {x : V} {u : Value}, Inv X pins σ H s → Is H k x → RelV x u → Y.is s.heap k u) (hroom : Y.room X.A.in1.in1.in1) (hu : X.A.units + 16 < cLine)
    {a : Expr} {ta : TE} {p p2 q pos : Pos} (hc : X.calm = true) (hg : Gl X "sorted") (hm : X.mg "sorted" = none) (hg2 : Gl X "set") (hm2 : X.mg "set" = none) (ha : PE X a ta)
    (na : starEach [a] X.env = (false, eval a X.env) :: starEach [] X.env := by rfl) : PE X (.Call (.Name "sorted" p) [.Call (.Name "set" p2) [a] [] q] [] pos) (tSortedSet X.K rk D Is ta) := by
  refine ⟨fun pins s σ H Q I h => ?_⟩
  refine Call_ (ld_blt I hg hm (by decide +kernel : bootBuiltins "sorted" = some (.builtin "sorted")) ?_)
  refine PyProof.Rows.callWith_builtin1 (PyProof.Rows.args_cons ?_ rfl) rfl rfl
  refine Call_ (ld_blt I hg2 hm2 PyProof.Rows.boot_set ?_)
  refine PyProof.Rows.callWith_type1 (PyProof.Rows.args_cons (thn (ha.run pins s σ H _ I h) fun v s1 ⟨x, H1, I1, r1, q1⟩ => PyProof.Rows.args_nil ?_) na) na rfl
  obtain ⟨l, zs, rfl, hl, h2, hz, q1⟩ := q1
  cases r1
  obtain ⟨its, rv, pl, hsz⟩ := I1.list hl
  obtain ⟨e1, e2, e3⟩ := vals_zip rv
  have hlen : ((zs.map (·.1)).zip its).length = zs.length := by
    have := congrArg List.length e2
    rw [List.length_map, List.length_map] at this
    exact this
  have hisk : ∀ p ∈ (zs.map (·.1)).zip its, Y.is s1.heap p.1 p.2 := fun p hp => by
    obtain ⟨x, h4, h5⟩ := e3 p hp
    exact hIs I1 (hz _ h4).1 h5
  have hDk : ∀ p ∈ (zs.map (·.1)).zip its, D p.1 := fun p hp => by
    obtain ⟨x, h4, h5⟩ := e3 p hp
    exact (hz _ h4).2
  refine call_set_g Y ((zs.map (·.1)).zip its) (I1.ok.hd hc) pl.isList (by rw [e1]) hisk (by rw [hlen]; exact h2) hroom fun h' tk L R C hk => ?_
  refine PyProof.Rows.args_nil ?_
  have I2 : Inv X pins σ H1 { s1 with heap := h', toks := tk } := I1.kept fun b o e => hk b o e
  rw [hlen] at C
  have hLsub : ∀ p ∈ L, p ∈ (zs.map (·.1)).zip its := fun p hp => List.mem_of_mem_take (C.sub p hp)
  have hLlen : L.length ≤ 2 := Nat.le_trans C.len h2
  obtain ⟨s2, hs2⟩ : ∃ s2 : Shared, s2 = { s1 with heap := h', toks := tk } := ⟨_, rfl⟩
  have R2 : Y.At s2.heap s1.heap.objs.size L := by rw [hs2]; exact R
  rw [← hs2] at I2 ⊢
  clear hs2
  refine sorted_g (s := s2) Kr R2 (I1.ok.hd hc) hu (fun p hp => hDk p (hLsub p hp)) (by omega) fun s' p out c L' k g o hp hg' hout pm pw => ?_
  have hL' : ∀ p ∈ L', p ∈ (zs.map (·.1)).zip its := fun p hp => hLsub p (pm.mem_iff.mp hp)
  obtain ⟨ys, v1, v2, v3⟩ := back (zs := zs) L' fun p hp => e3 p (hL' p hp)
  have hn : H1 p = none := I2.hok.fresh hp
  have hyl : ys.length = L'.length := by
    have := congrArg List.length v2
    rw [List.length_map, List.length_map] at this
    exact this
  have hlen2 : (ys.map (·.2)).length ≤ sizeLine := by rw [List.length_map, hyl, pm.length_eq, sizeLine_eq]; omega
  have hv : Vals (ys.map (·.2)) out.toList := by rw [hout]; exact v1
  have J : Inv X pins σ (upd H1 p (.lst (ys.map (·.2)))) { s2 with heap := s'.heap, gens := s'.gens, drawn := s'.drawn, toks := s'.toks } :=
    I2.call (ch := []) (Un.laid k hp hn) (I2.hok.laid k hp ⟨hlen2, out.toList, c, hv, hg'⟩) (by rw [g]; exact I2.bare) (fun _ z => nomatch z)
  have e : s' = { s2 with heap := s'.heap, gens := s'.gens, drawn := s'.drawn, toks := s'.toks } := by
    cases s'
    cases s2
    cases o
    rfl
  rw [e]
  refine ⟨.ref p, _, J, rfl, q1 p ys hn v3 (fun z hz' => ?_) ?_⟩
  · rw [v2, (pm.map (·.1)).mem_iff]
    have hm1 : z.1 ∈ ((zs.map (·.1)).zip its).map (·.1) := by rw [e2]; exact List.mem_map.mpr ⟨z, hz', rfl⟩
    obtain ⟨p0, hp0, e0⟩ := List.mem_map.mp hm1
    have := C.all p0 (by rw [← hlen, List.take_length]; exact hp0)
    rw [e0] at this
    exact this
  · have nd : (L'.map (·.1)).Nodup := (pm.map (·.1)).nodup_iff.mpr (Y.nodup R)
    have a1 : (L'.map (·.1)).Pairwise (fun k k' => rk k < rk k') := by
      rw [List.pairwise_map]
      have nd' := List.pairwise_map.mp nd
      have both := List.Pairwise.and pw nd'
      refine List.Pairwise.imp_of_mem (fun {x y} hx hy h => ?_) both
      obtain ⟨h5, h6⟩ := h
      have h7 := hDk x (hL' x hx)
      have h8 := hDk y (hL' y hy)
      rcases Int.lt_or_eq_of_le h5 with z | z
      · exact z
      · exact absurd (hinj _ _ h7 h8 z) h6
    rw [← v2, List.pairwise_map] at a1
    exact a1
end
end KS
namespace K58
open PySem L2
/-- the six keys -/
def six : List Str := ["a", "b", "c", "d", "da", "z"]
def kIx (z : Str) : Int := six.findIdx (· == z)
def Six (z : Str) : Prop := z ∈ six
theorem six_lt (x y : Str) (hx : Six x) (hy : Six y) : KT.tlt x y = decide (kIx x < kIx y) := by
  have key : ∀ x ∈ six, ∀ y ∈ six, KT.tlt x y = decide (kIx x < kIx y) := by decide +kernel
  exact key x hx y hy
theorem six_inj (x y : Str) (hx : Six x) (hy : Six y) (e : kIx x = kIx y) : x = y := by
  have key : ∀ x ∈ six, ∀ y ∈ six, kIx x = kIx y → x = y := by decide +kernel
  exact key x hx y hy e
theorem six_bd (x : Str) (hx : Six x) : 0 ≤ kIx x ∧ kIx x < 6 := by
  have key : ∀ x ∈ six, 0 ≤ kIx x ∧ kIx x < 6 := by decide +kernel
  exact key x hx
/-- ranges over the six keys, with at most one key of their own -/
structure RgOk (r : KT.Rg) : Prop where
  lo : Six r.lo
  hi : Six r.hi
  own : r.own = [] ∨ ∃ k, r.own = [k] ∧ Six k
def oIx : List Str → Int
  | [] => 0
  | k :: _ => 1 + kIx k
def rIx (r : KT.Rg) : Int := kIx r.lo * 100 + kIx r.hi * 10 + oIx r.own
theorem oIx_bd {r : KT.Rg} (h : RgOk r) : 0 ≤ oIx r.own ∧ oIx r.own < 7 := by
  rcases h.own with e | ⟨k, e, hk⟩
  · rw [e]; exact ⟨by decide, by decide⟩
  · rw [e]
    have := six_bd k hk
    show 0 ≤ 1 + kIx k ∧ 1 + kIx k < 7
    omega
theorem rgIx_lt (x y : KT.Rg) (hx : RgOk x) (hy : RgOk y) : KT.rgLt x y = decide (rIx x < rIx y) := by
  have a1 := six_bd _ hx.lo
  have a2 := six_bd _ hx.hi
  have a3 := oIx_bd hx
  have b1 := six_bd _ hy.lo
  have b2 := six_bd _ hy.hi
  have b3 := oIx_bd hy
  unfold KT.rgLt rIx
  by_cases c1 : x.lo = y.lo
  · rw [if_pos c1, c1]
    by_cases c2 : x.hi = y.hi
    · rw [if_pos c2, c2]
      have e : KT.rlt x.own y.own = decide (oIx x.own < oIx y.own) := by
        rcases hx.own with e | ⟨k, e, hk⟩ <;> rcases hy.own with e' | ⟨k', e', hk'⟩ <;> rw [e, e']
        · rfl
        · have := six_bd _ hk'
          show true = decide (0 < 1 + kIx k')
          exact (decide_eq_true (by omega)).symm
        · have := six_bd _ hk
          show false = decide (1 + kIx k < 0)
          exact (decide_eq_false (by omega)).symm
        · show (if k = k' then false else KT.tlt k k') = decide (1 + kIx k < 1 + kIx k')
          by_cases c3 : k = k'
          · rw [if_pos c3, c3]
            exact (decide_eq_false (by omega)).symm
          · rw [if_neg c3, six_lt k k' hk hk']
            exact decide_eq_decide.mpr (by omega)
      rw [e]
      exact decide_eq_decide.mpr (by omega)
    · rw [if_neg c2, six_lt _ _ hx.hi hy.hi]
      have : kIx x.hi ≠ kIx y.hi := fun z => c2 (six_inj _ _ hx.hi hy.hi z)
      exact decide_eq_decide.mpr (by omega)
  · rw [if_neg c1, six_lt _ _ hx.lo hy.lo]
    have : kIx x.lo ≠ kIx y.lo := fun z => c1 (six_inj _ _ hx.lo hy.lo z)
    exact decide_eq_decide.mpr (by omega)
theorem rgIx_inj (x y : KT.Rg) (hx : RgOk x) (hy : RgOk y) (e : rIx x = rIx y) : x = y := by
  have a1 := six_bd _ hx.lo
  have a2 := six_bd _ hx.hi
  have a3 := oIx_bd hx
  have b1 := six_bd _ hy.lo
  have b2 := six_bd _ hy.hi
  have b3 := oIx_bd hy
  unfold rIx at e
  have c1 := six_inj _ _ hx.lo hy.lo (by omega)
  have c2 := six_inj _ _ hx.hi hy.hi (by omega)
  have c3 : oIx x.own = oIx y.own := by omega
  have c4 : x.own = y.own := by
    rcases hx.own with e | ⟨k, e, hk⟩ <;> rcases hy.own with e' | ⟨k', e', hk'⟩ <;> rw [e, e'] at c3 ⊢
    · have := six_bd _ hk'
      simp only [oIx] at c3
      omega
    · have := six_bd _ hk
      simp only [oIx] at c3
      omega
    · simp only [oIx] at c3
      rw [six_inj k k' hk hk' (by omega)]
  obtain ⟨a, b, c⟩ := x
  obtain ⟨a', b', c'⟩ := y
  simp only at c1 c2 c4
  rw [c1, c2, c4]
def isTx : Hp → Str → V → Prop := fun _ k x => x = .str k
/-- sorted(set(xs)), at most two of the six keys -/
theorem pe_sortedKeys {X : Cx} (hu : X.A.units + 16 < cLine) {a : Expr} {ta : TE} {p p2 q pos : Pos} (hc : X.calm = true) (hg : Gl X "sorted") (hm : X.mg "sorted" = none) (hg2 : Gl X "set") (hm2 : X.mg "set" = none) (ha : PE X a ta)
    (na : starEach [a] X.env = (false, eval a X.env) :: starEach [] X.env := by rfl) : PE X (.Call (.Name "sorted" p) [.Call (.Name "set" p2) [a] [] q] [] pos) (KS.tSortedSet X.K kIx Six isTx ta) :=
  KS.pe_sortedSet (KS.YT X.prog X.w) (KS.rankedT six_lt) six_inj (fun _ h r => by
    cases h
    obtain ⟨t, rfl⟩ := r
    exact ⟨t, rfl⟩) trivial hu hc hg hm hg2 hm2 ha na
/-- sorted(set(xs)), at most two ranges -/
theorem pe_sortedRgs {X : Cx} (hu : X.A.units + 16 < cLine) {a : Expr} {ta : TE} {p p2 q pos : Pos} (hc : X.calm = true) (hg : Gl X "sorted") (hm : X.mg "sorted" = none) (hg2 : Gl X "set") (hm2 : X.mg "set" = none) (ha : PE X a ta)
    (na : starEach [a] X.env = (false, eval a X.env) :: starEach [] X.env := by rfl) : PE X (.Call (.Name "sorted" p) [.Call (.Name "set" p2) [a] [] q] [] pos) (KS.tSortedSet X.K rIx RgOk (fun H r x => RgAt H x r) ta) :=
  KS.pe_sortedSet (KS.YR X.prog X.w) (KS.rankedR rgIx_lt) rgIx_inj (fun {pins σ H s k x u} I h r => by
    obtain ⟨b, o, e, _⟩ := id h
    subst e
    cases r
    exact ⟨b, rfl, h.inn I⟩) (show X.A.in1.in1.in1.units + 8 < cLine by simp; omega) hu hc hg hm hg2 hm2 ha na
end K58

namespace K58
open PySem L2
/-! ### comprehensions that leave the heap's things alone -/
def LP (f : Nat → V) (D : Addr) (H1 : Hp) (i : Nat) (H : Hp) : Prop := Same H1 H ∧ H D = some (.lst ((List.range i).map f))
def LF (c : Nat → Bool) (f : Nat → V) (D : Addr) (H1 : Hp) (i : Nat) (H : Hp) : Prop := Same H1 H ∧ H D = some (.lst (((List.range i).filter c).map f))
theorem line_big : (1000000 : Nat) < sizeLine := by rw [sizeLine_eq]; decide
section
variable {J : It} {n : Nat} {G : Hp → Prop} {Y : Nat → Hp → V → Hp → Prop} {g : TG} {tt : TT} {te : TE} {vs : List Nat} {σ : L2.St} {H1 : Hp} {D : Addr} {Qd : Hp → Prop}
theorem lc_map (w : Walk J n G Y) (f : Nat → V) (hn : n ≤ 1000000) (hD : H1 D = none) (hG : ∀ H, Same H1 H → G H)
    (hs : ∀ i x H H', i < n → Same H1 H → Y i H x H' → (∀ H4, Same H H4 → ∃ acc, H4 D = some (.lst acc) ∧ acc.length < sizeLine ∧ LP f D H1 (i + 1) (upd H4 D (.lst (acc ++ [f i])))) →
      g x (wipe σ vs) H' fun σ2 H2 => wipe σ2 vs = wipe σ vs ∧ tt σ2 H2 fun b H3 =>
        if b = true then te σ2 H3 fun y H4 => ∃ acc, H4 D = some (.lst acc) ∧ acc.length < sizeLine ∧ LP f D H1 (i + 1) (upd H4 D (.lst (acc ++ [y]))) else LP f D H1 (i + 1) H3)
    (hd : ∀ H, Same H1 H → H D = some (.lst ((List.range n).map f)) → Qd H) :
    ∃ W : Nat → Nat → Hp → Prop, (∃ m, W 0 m (upd H1 D (.lst []))) ∧ ∀ i m H, W i m H →
      (J.stop i H ∧ Qd H) ∨ (J.go i H ∧ ∃ Nx : Hp → Prop, (∀ H', Nx H' → ∃ m', m' < m ∧ W (i + 1) m' H') ∧ ∀ x H', J.yld i H x H' → g x (wipe σ vs) H' fun σ2 H2 => wipe σ2 vs = wipe σ vs ∧ tt σ2 H2 fun b H3 =>
        if b = true then te σ2 H3 fun y H4 => ∃ acc, H4 D = some (.lst acc) ∧ acc.length < sizeLine ∧ Nx (upd H4 D (.lst (acc ++ [y]))) else Nx H3) := by
  refine lc_it w (LP f D H1) ⟨snew hD, upd_same⟩ (fun i H _ p => hG H p.1) (fun i x H H' hi p y => hs i x H H' hi p.1 y fun H4 s4 => ?_) fun H p => hd H p.1 p.2
  obtain ⟨s1, hl⟩ := p
  refine ⟨_, s4 _ _ hl, ?_, sput (s1.trans s4) hD, ?_⟩
  · rw [List.length_map, List.length_range]
    exact Nat.lt_of_lt_of_le hi (Nat.le_of_lt (Nat.lt_of_le_of_lt hn line_big))
  · rw [upd_same, List.range_succ, List.map_append]; rfl
theorem lc_filt (w : Walk J n G Y) (c : Nat → Bool) (f : Nat → V) (hn : n ≤ 1000000) (hD : H1 D = none) (hG : ∀ H, Same H1 H → G H)
    (hs : ∀ i x H H', i < n → Same H1 H → Y i H x H' → (c i = true → ∀ H4, Same H H4 → ∃ acc, H4 D = some (.lst acc) ∧ acc.length < sizeLine ∧ LF c f D H1 (i + 1) (upd H4 D (.lst (acc ++ [f i])))) →
      (c i = false → ∀ H3, Same H H3 → LF c f D H1 (i + 1) H3) →
      g x (wipe σ vs) H' fun σ2 H2 => wipe σ2 vs = wipe σ vs ∧ tt σ2 H2 fun b H3 =>
        if b = true then te σ2 H3 fun y H4 => ∃ acc, H4 D = some (.lst acc) ∧ acc.length < sizeLine ∧ LF c f D H1 (i + 1) (upd H4 D (.lst (acc ++ [y]))) else LF c f D H1 (i + 1) H3)
    (hd : ∀ H, Same H1 H → H D = some (.lst (((List.range n).filter c).map f)) → Qd H) :
    ∃ W : Nat → Nat → Hp → Prop, (∃ m, W 0 m (upd H1 D (.lst []))) ∧ ∀ i m H, W i m H →
      (J.stop i H ∧ Qd H) ∨ (J.go i H ∧ ∃ Nx : Hp → Prop, (∀ H', Nx H' → ∃ m', m' < m ∧ W (i + 1) m' H') ∧ ∀ x H', J.yld i H x H' → g x (wipe σ vs) H' fun σ2 H2 => wipe σ2 vs = wipe σ vs ∧ tt σ2 H2 fun b H3 =>
        if b = true then te σ2 H3 fun y H4 => ∃ acc, H4 D = some (.lst acc) ∧ acc.length < sizeLine ∧ Nx (upd H4 D (.lst (acc ++ [y]))) else Nx H3) := by
  refine lc_it w (LF c f D H1) ⟨snew hD, upd_same⟩ (fun i H _ p => hG H p.1) (fun i x H H' hi p y => hs i x H H' hi p.1 y (fun hc H4 s4 => ?_) fun hc H3 s3 => ?_) fun H p => hd H p.1 p.2
  · obtain ⟨s1, hl⟩ := p
    refine ⟨_, s4 _ _ hl, ?_, sput (s1.trans s4) hD, ?_⟩
    · rw [List.length_map]
      have := List.length_filter_le c (List.range i)
      rw [List.length_range] at this
      exact Nat.lt_of_le_of_lt this (Nat.lt_of_lt_of_le hi (Nat.le_of_lt (Nat.lt_of_le_of_lt hn line_big)))
    · rw [upd_same, List.range_succ, List.filter_append, List.map_append]
      simp [hc]
  · obtain ⟨s1, hl⟩ := p
    refine ⟨s1.trans s3, ?_⟩
    rw [s3 _ _ hl, List.range_succ, List.filter_append]
    simp [hc]
end
theorem rng_map {α β : Type} (d : α) (p : α → β) : ∀ l : List α, (List.range l.length).map (fun i => p (l.getD i d)) = l.map p := by
  intro l
  apply List.ext_getElem
  · simp
  · intro i h1 h2
    simp only [List.length_map, List.length_range] at h1
    simp [List.getD_eq_getElem?_getD, h1]
theorem rng_filt {α β : Type} (d : α) (c : α → Bool) (p : α → β) (l : List α) : ((List.range l.length).filter (fun i => c (l.getD i d))).map (fun i => p (l.getD i d)) = (l.filter c).map p := by
  have h := rng_map d (fun x => x) l
  rw [List.map_id'] at h
  conv => rhs; rw [← h]
  rw [List.filter_map, List.map_map] <;> rfl
theorem at_map {α : Type} (d : α) (e : α → V) {l : List α} {i : Nat} {x : V} (h : (l.map e)[i]? = some x) : x = e (l.getD i d) ∧ l.getD i d ∈ l := by
  rw [List.getElem?_map] at h
  cases hq : l[i]? with
  | none => rw [hq] at h; cases h
  | some y =>
    rw [hq] at h
    have e1 : l.getD i d = y := by rw [List.getD_eq_getElem?_getD, hq]; rfl
    rw [e1]
    exact ⟨(Option.some.inj h).symm, List.mem_of_getElem? hq⟩
/-- all answers true -/
theorem all_true (n : Nat) (b : Nat → Bool) (h : ∀ i, i < n → b i = true) : ((List.range n).map b).all id = true := by
  rw [List.all_eq_true]
  intro x hx
  obtain ⟨i, hi, e⟩ := List.mem_map.mp hx
  rw [← e]
  exact h i (List.mem_range.mp hi)
theorem map_bl (n : Nat) (b : Nat → Bool) : (List.range n).map (fun i => V.bl (b i)) = ((List.range n).map b).map V.bl := by
  rw [List.map_map]; rfl
/-- the walk over two tuples -/
theorem walk_zipT {K : PySem.W.Frag} {a b : Addr} {xs ys : List V} {n : Nat} (hn : n = min xs.length ys.length) : Walk (RZ.ItzT K a b) n (fun H => SqT K H a xs ∧ SqT K H b ys) (YPair (fun i => xs[i]?) (fun i => ys[i]?)) := by
  subst hn
  refine ⟨fun i _ hi q => ?_, fun _ q => ⟨xs, ys, q.1, q.2, by omega⟩, fun i H v H' _ q y => ?_⟩
  · have h1 : i < xs.length := by omega
    have h2 : i < ys.length := by omega
    exact ⟨xs, ys, xs[i], ys[i], q.1, q.2, by simp [h1], by simp [h2]⟩
  · obtain ⟨T, x, z, h1, h2, h3, h4, h5⟩ := y
    exact ⟨T, x, z, h1, h2, h3, h4 xs q.1, h5 ys q.2⟩
/-- x < y, texts or ranges -/
def LtV (H : Hp) (x y : V) : Prop := (∃ i j, x = .str i ∧ y = .str j ∧ KT.tlt i j = true) ∨ (∃ r q, RgAt H x r ∧ RgAt H y q ∧ KT.rgLt r q = true)
theorem LtV.same {H H' : Hp} {x y : V} (h : LtV H x y) (s : Same H H') : LtV H' x y := by
  rcases h with h | ⟨r, q, h1, h2, h3⟩
  · exact .inl h
  · exact .inr ⟨r, q, h1.same s, h2.same s, h3⟩
def Asc (H : Hp) (xs : List V) : Prop := ∀ i x y, xs[i]? = some x → xs[i + 1]? = some y → LtV H x y
theorem Asc.same {H H' : Hp} {xs : List V} (h : Asc H xs) (s : Same H H') : Asc H' xs := fun i x y h1 h2 => (h i x y h1 h2).same s
theorem hu9 {A : Around} {k : Nat} (hr : Room k A) : A.units + 9 < cLine := Nat.lt_of_le_of_lt (Nat.add_le_add_left (by decide : 9 ≤ 64) _) hr.units
def spRising : Sp := fun vs H Q _ => ∃ (a : Addr) (xs : List V), vs = [.ref a] ∧ (H a = some (.tup xs) ∨ H a = some (.lst xs)) ∧ xs.length ≤ 1000 ∧ Asc H xs ∧ ∀ H', Same H H' → Q (.bl true) H'
theorem scRising : FnScope ["things", "one", "other"] ["things"] (defScope sRising) := ⟨rfl, rfl, rfl, by decide +kernel, rfl, by decide +kernel, by decide +kernel⟩
section
variable {P : Program} {w : World} {K : PySem.W.Frag} {mg : Str → Option Value} {base : Heap}
theorem cut1 (xs : List V) : cutV xs (some 1) none = xs.drop 1 := by
  unfold cutV
  have e1 : HT.sIx xs.length xs.length none = xs.length := rfl
  by_cases h : xs = []
  · subst h; rfl
  · have hp : 0 < xs.length := List.length_pos_iff.mpr h
    have e2 : HT.sIx xs.length 0 (some 1) = 1 := by
      show min (1 : Int).toNat xs.length = 1
      have : (1 : Int).toNat = 1 := rfl
      omega
    rw [e1, e2]
    exact List.take_of_length_le (by rw [List.length_drop]; omega)
theorem ok_rising {f : Addr} {fd : FuncData} (F : Fun K "is_rising" "is_rising" sRising f fd) (B : Bi mg) : FnOk P w K mg base CX0 1 f fd ["things"] spRising := by
  refine F.ok scRising (fun vs H Q E h => ?_) (fun cdv A outer s H vs Q E hr h => ?_)
  · obtain ⟨a, xs, rfl, _⟩ := h
    rfl
  · obtain ⟨a, xs, rfl, ha, hl, hasc, k⟩ := h
    refine ⟨_, pss_one (ps_ret (pe_callB (cr_all rfl) (by rfl) B.all (by decide +kernel) (pa_cons (pe_lc (own := [("one", 1), ("other", 2)]) (g := gTup K 2 (gCons (gName 1) (gCons (gName 2) gNil))) rfl scRising.nd
        (RZ.pi_zipA (by rfl) B.zip (pa_cons (pv 0) (pa_cons (pe_slice (SlR.or sl_list sl_tupA) (pv 0) (po_some pe_int) po_none) pa_nil)))
        (blkOk_by (own := [("one", 1), ("other", 2)]) (N := ["things", "one", "other"]) (sc := defScope sRising) (by decide +kernel))
        (fun _ _ _ _ _ => pg_tup rfl (pgs_cons (pg_name (i := 1) scRising.nd rfl (Or.inl rfl)) (pgs_cons (pg_name (i := 2) scRising.nd rfl (Or.inl rfl)) pgs_nil))) (fun _ _ _ _ _ => pts_nil)
        (fun _ _ _ _ _ => pe_cmpR (op_ltX (hu9 hr)) (pv 1) (pv 2) (nomark _))) pa_nil))), ?_⟩
    have hl2 : xs.length - 1 ≤ 1000000 := by omega
    have hmin : xs.length - 1 = min xs.length (cutV xs (some 1) none).length := by rw [cut1, List.length_drop]; omega
    have turn : ∀ (i : Nat) (x1 x2 : V) (H2 : Hp) (T : Addr) (Qk : V → Hp → Prop), Same H H2 → H2 T = none → xs[i]? = some x1 → (cutV xs (some 1) none)[i]? = some x2 → (∀ H4, Same H2 H4 → Qk (.bl true) H4) → rLtX x1 x2 (upd H2 T (.tup [x1, x2])) Qk := by
      intro i x1 x2 H2 T Qk s2 hT h1 h2 kk
      rw [cut1, List.getElem?_drop, Nat.add_comm] at h2
      have hlt := ((hasc i x1 x2 h1 h2).same s2).same (snew hT (o := .tup [x1, x2]))
      rcases hlt with ⟨z, z', e1, e2, e3⟩ | ⟨r, q, e1, e2, e3⟩
      · refine .inl ⟨z, z', e1, e2, ?_⟩
        rw [e3]
        exact kk _ (snew hT)
      · refine .inr ⟨r, q, e1, e2, ?_⟩
        rw [e3]
        exact kk _ (snew hT)
    have fin : ∀ {D : Addr} {H2 : Hp}, Same H H2 → H2 D = some (.lst ((List.range (xs.length - 1)).map fun _ => .bl true)) → rAll K [.ref D] H2 Q := by
      intro D H2 s2 hD
      refine ⟨D, (List.range (xs.length - 1)).map fun _ => true, rfl, SqL.of ?_, ?_⟩
      · rw [hD, ← map_bl]
      · rw [all_true _ _ fun _ _ => rfl]
        exact k H2 s2
    rcases ha with ha | ha
    · refine ⟨_, rfl, _, rfl, 1, rfl, .inr ⟨a, xs, rfl, SqT.of ha, fun hw => ?_, fun hw p hp => ?_⟩⟩
      · have e0 : xs = [] := by
          apply Classical.byContradiction
          intro hne
          have hp : 0 < xs.length := List.length_pos_iff.mpr hne
          have e2 : HT.sIx xs.length 0 (some 1) = min 1 xs.length := rfl
          omega
        subst e0
        refine ⟨a, a, [], [], rfl, .inr ⟨SqT.of ha, SqT.of ha, fun D hD => ?_⟩⟩
        refine lc_map (walk_zipT (xs := []) (ys := []) (n := 0) rfl) (fun _ => .bl true) (Nat.zero_le _) hD (fun H2 h => ⟨SqT.of (h _ _ ha), SqT.of (h _ _ ha)⟩) (fun i x H2 H3 hi s2 y kk => absurd hi (Nat.not_lt_zero _)) fun H2 s2 hlD => ?_
        exact ⟨D, [], rfl, SqL.of hlD, k H2 s2⟩
      · have h1 : upd H p (.tup (cutV xs (some 1) none)) a = some (.tup xs) := by rw [upd_ne (ne_of_none ha hp)]; exact ha
        have h2 : upd H p (.tup (cutV xs (some 1) none)) p = some (.tup (cutV xs (some 1) none)) := upd_same
        refine ⟨a, p, xs, cutV xs (some 1) none, rfl, .inr ⟨SqT.of h1, SqT.of h2, fun D hD => ?_⟩⟩
        refine lc_map (walk_zipT hmin) (fun _ => .bl true) hl2 hD (fun H2 h => ⟨SqT.of (h _ _ h1), SqT.of (h _ _ h2)⟩) (fun i x H2 H3 hi s2 y kk => ?_) fun H2 s2 hlD => ?_
        · obtain ⟨T, x1, x2, rfl, hT, rfl, g1, g2⟩ := y
          refine ⟨T, [x1, x2], rfl, SqT.of upd_same, rfl, _, _, rfl, _, _, rfl, rfl, rfl, tyes ⟨_, rfl, _, rfl, ?_⟩⟩
          exact turn i x1 x2 H2 T _ ((snew hp).trans s2) hT g1 g2 kk
        · exact fin ((snew hp).trans s2) hlD
    · refine ⟨_, rfl, _, rfl, 1, rfl, .inl ⟨a, xs, rfl, SqL.of ha, fun p hp => ?_⟩⟩
      have h1 : upd H p (.lst (cutV xs (some 1) none)) a = some (.lst xs) := by rw [upd_ne (ne_of_none ha hp)]; exact ha
      have h2 : upd H p (.lst (cutV xs (some 1) none)) p = some (.lst (cutV xs (some 1) none)) := upd_same
      refine ⟨a, p, xs, cutV xs (some 1) none, rfl, .inl ⟨SqL.of h1, SqL.of h2, fun D hD => ?_⟩⟩
      refine lc_map (walk_zip hmin) (fun _ => .bl true) hl2 hD (fun H2 h => ⟨SqL.of (h _ _ h1), SqL.of (h _ _ h2)⟩) (fun i x H2 H3 hi s2 y kk => ?_) fun H2 s2 hlD => ?_
      · obtain ⟨T, x1, x2, rfl, hT, rfl, g1, g2⟩ := y
        refine ⟨T, [x1, x2], rfl, SqT.of upd_same, rfl, _, _, rfl, _, _, rfl, rfl, rfl, tyes ⟨_, rfl, _, rfl, ?_⟩⟩
        exact turn i x1 x2 H2 T _ ((snew hp).trans s2) hT g1 g2 kk
      · exact fin ((snew hp).trans s2) hlD
end
end K58

namespace K58
open PySem L2
/-- texts in order -/
abbrev UpT (zs : List Str) : Prop := zs.Pairwise fun x y => KT.tlt x y = true
abbrev UpR (rs : List KT.Rg) : Prop := rs.Pairwise fun x y => KT.rgLt x y = true
theorem pw_at {α : Type} {R : α → α → Prop} {l : List α} (h : l.Pairwise R) {i : Nat} {x y : α} (hx : l[i]? = some x) (hy : l[i + 1]? = some y) : R x y := by
  obtain ⟨h1, e1⟩ := List.getElem?_eq_some_iff.mp hx
  obtain ⟨h2, e2⟩ := List.getElem?_eq_some_iff.mp hy
  rw [← e1, ← e2]
  exact List.pairwise_iff_getElem.mp h i (i + 1) h1 h2 (Nat.lt_succ_self i)
theorem asc_txts (H : Hp) {zs : List Str} (h : UpT zs) : Asc H (zs.map V.str) := by
  intro i x y h1 h2
  rw [List.getElem?_map] at h1 h2
  cases e1 : zs[i]? with
  | none => rw [e1] at h1; cases h1
  | some z1 =>
    cases e2 : zs[i + 1]? with
    | none => rw [e2] at h2; cases h2
    | some z2 =>
      rw [e1] at h1
      rw [e2] at h2
      exact .inl ⟨z1, z2, (Option.some.inj h1).symm, (Option.some.inj h2).symm, pw_at h e1 e2⟩
/-- these stand for those ranges -/
def RgsAt (H : Hp) (xs : List V) (rs : List KT.Rg) : Prop := xs.length = rs.length ∧ ∀ (i : Nat) (x : V) (r : KT.Rg), xs[i]? = some x → rs[i]? = some r → RgAt H x r
theorem RgsAt.same {H H' : Hp} {xs : List V} {rs : List KT.Rg} (h : RgsAt H xs rs) (s : Same H H') : RgsAt H' xs rs := ⟨h.1, fun i x r h1 h2 => (h.2 i x r h1 h2).same s⟩
theorem RgsAt.at {H : Hp} {xs : List V} {rs : List KT.Rg} (h : RgsAt H xs rs) {i : Nat} {x : V} (hx : xs[i]? = some x) : ∃ r, rs[i]? = some r ∧ RgAt H x r := by
  have hi : i < rs.length := by rw [← h.1]; exact (List.getElem?_eq_some_iff.mp hx).1
  exact ⟨rs[i], List.getElem?_eq_getElem hi, h.2 i x _ hx (List.getElem?_eq_getElem hi)⟩
theorem asc_rgs {H : Hp} {xs : List V} {rs : List KT.Rg} (h : RgsAt H xs rs) (u : UpR rs) : Asc H xs := by
  intro i x y h1 h2
  obtain ⟨r, e1, a1⟩ := h.at h1
  obtain ⟨q, e2, a2⟩ := h.at h2
  exact .inr ⟨r, q, a1, a2, pw_at u e1 e2⟩
/-- a range as it should be -/
structure RgW (r : KT.Rg) : Prop where
  lo : KeyT r.lo
  hi : KeyT r.hi
  le : KT.tlt r.hi r.lo = false
  own : ∀ k ∈ r.own, KeyT k ∧ KT.tlt k r.lo = false ∧ KT.tlt r.hi k = false
  up : UpT r.own
  few : r.own.length ≤ 1000
def WorthV (x : V) : Prop := x = .non ∨ ∃ i : Int, x = .int i ∧ -big ≤ i ∧ i ≤ big
/-- these stand for writes of these keys -/
def WrsAt (H : Hp) (xs : List V) (zs : List Str) : Prop := xs.length = zs.length ∧ ∀ (i : Nat) (x : V) (z : Str), xs[i]? = some x → zs[i]? = some z → ∃ (b : Addr) (v : V), x = V.ref b ∧ H b = some (.tup [.str z, v]) ∧ WorthV v
theorem WrsAt.same {H H' : Hp} {xs : List V} {zs : List Str} (h : WrsAt H xs zs) (s : Same H H') : WrsAt H' xs zs := ⟨h.1, fun i x z h1 h2 => by
  obtain ⟨b, v, e, hb, hv⟩ := h.2 i x z h1 h2
  exact ⟨b, v, e, s _ _ hb, hv⟩⟩
theorem WrsAt.at {H : Hp} {xs : List V} {zs : List Str} (h : WrsAt H xs zs) {i : Nat} {x : V} (hx : xs[i]? = some x) : ∃ (z : Str) (b : Addr) (v : V), zs[i]? = some z ∧ x = V.ref b ∧ H b = some (.tup [.str z, v]) ∧ WorthV v := by
  have hi : i < zs.length := by rw [← h.1]; exact (List.getElem?_eq_some_iff.mp hx).1
  obtain ⟨b, v, r⟩ := h.2 i x _ hx (List.getElem?_eq_getElem hi)
  exact ⟨zs[i], b, v, List.getElem?_eq_getElem hi, r⟩
def spKeys : Sp := fun vs H Q _ => ∃ (a : Addr) (zs : List Str), vs = [.ref a] ∧ H a = some (.tup (zs.map V.str)) ∧ zs.length ≤ 1000 ∧ (∀ z ∈ zs, KeyT z) ∧ UpT zs ∧ ∀ H', Same H H' → Q (.bl true) H'
def spRange : Sp := fun vs H Q _ => ∃ (x : V) (r : KT.Rg), vs = [x] ∧ RgAt H x r ∧ RgW r ∧ ∀ H', Same H H' → Q (.bl true) H'
def spRanges : Sp := fun vs H Q _ => ∃ (a : Addr) (xs : List V) (rs : List KT.Rg), vs = [.ref a] ∧ H a = some (.tup xs) ∧ RgsAt H xs rs ∧ rs.length ≤ 1000 ∧ (∀ r ∈ rs, RgW r) ∧ UpR rs ∧ ∀ H', Same H H' → Q (.bl true) H'
def spWrite : Sp := fun vs H Q _ => ∃ (a : Addr) (z : Str) (v : V), vs = [.ref a] ∧ H a = some (.tup [.str z, v]) ∧ KeyT z ∧ WorthV v ∧ ∀ H', Same H H' → Q (.bl true) H'
def spWrites : Sp := fun vs H Q _ => ∃ (a : Addr) (xs : List V) (zs : List Str), vs = [.ref a] ∧ H a = some (.tup xs) ∧ WrsAt H xs zs ∧ zs.length ≤ 1000 ∧ (∀ z ∈ zs, KeyT z) ∧ UpT zs ∧ ∀ H', Same H H' → Q (.bl true) H'
theorem scKeys : FnScope ["thing", "key"] ["thing"] (defScope sKeys) := ⟨rfl, rfl, rfl, by decide +kernel, rfl, by decide +kernel, by decide +kernel⟩
theorem scRange : FnScope ["thing", "low", "high", "own", "key"] ["thing"] (defScope sRange) := ⟨rfl, rfl, rfl, by decide +kernel, rfl, by decide +kernel, by decide +kernel⟩
theorem scRanges : FnScope ["thing", "one"] ["thing"] (defScope sRanges) := ⟨rfl, rfl, rfl, by decide +kernel, rfl, by decide +kernel, by decide +kernel⟩
theorem scWrite : FnScope ["thing"] ["thing"] (defScope sWrite) := ⟨rfl, rfl, rfl, by decide +kernel, rfl, by decide +kernel, by decide +kernel⟩
theorem scWrites : FnScope ["thing", "one", "key", "worth"] ["thing"] (defScope sWrites) := ⟨rfl, rfl, rfl, by decide +kernel, rfl, by decide +kernel, by decide +kernel⟩
section
variable {P : Program} {w : World} {K : PySem.W.Frag} {mg : Str → Option Value} {base : Heap}
theorem ok_worth {f fI : Addr} {fd fdI : FuncData} {t1 : Tok} (F : Fun K "is_worth" "is_worth" sWorth f fd) (mW : mg "MOST_WORTH" = some (.int 1000000000000000000 t1)) (D : Def P w K mg base CX0 2 "is_within" fI fdI ["thing", "least", "most"] spWithin) : FnOk P w K mg base CX0 3 f fd ["thing"] spWorth := by
  refine F.ok scWorth (fun vs H Q E h => ?_) (fun cdv A outer s H vs Q E hr h => ?_)
  · obtain ⟨i, rfl, _⟩ := h
    rfl
  · obtain ⟨i, rfl, h1, h2, k⟩ := h
    refine ⟨_, pss_one (ps_ret (pe_call D.ok hr (by rfl) D.gl D.kp D.bd .nil pass0 (pa_cons (pv 0) (pa_cons (pe_un un_neg (pe_glob (v := .int 1000000000000000000) (by rfl) mW ⟨_, rfl⟩)) (pa_cons (pe_glob (v := .int 1000000000000000000) (by rfl) mW ⟨_, rfl⟩) pa_nil))))), ?_⟩
    refine ⟨_, rfl, 1000000000000000000, rfl, i, -1000000000000000000, 1000000000000000000, rfl, ?_⟩
    have e1 : decide ((-1000000000000000000 : Int) ≤ i) = true := decide_eq_true h1
    have e2 : decide (i ≤ (1000000000000000000 : Int)) = true := decide_eq_true h2
    rw [e1, e2]
    exact k
theorem ok_keys {f fK fR : Addr} {fd fdK fdR : FuncData} (F : Fun K "are_keys" "are_keys" sKeys f fd) (B : Bi mg) (DK : Def P w K mg base CX0 1 "is_key" fK fdK ["thing"] spKey) (DR : Def P w K mg base CX0 1 "is_rising" fR fdR ["things"] spRising) : FnOk P w K mg base CX0 2 f fd ["thing"] spKeys := by
  refine F.ok scKeys (fun vs H Q E h => ?_) (fun cdv A outer s H vs Q E hr h => ?_)
  · obtain ⟨a, zs, rfl, _⟩ := h
    rfl
  · obtain ⟨a, zs, rfl, ha, hl, hk, hu, k⟩ := h
    refine ⟨_, pss_one (ps_ret (pe_and (pe_callB call_isi (by rfl) B.isi (by decide +kernel) (pa_cons (pv 0) (pa_cons (pe_bltn (v := .ty "tuple") (by rfl) B.tuple (by decide +kernel) rfl) pa_nil)))
      (pe_and (pe_callB (cr_all rfl) (by rfl) B.all (by decide +kernel) (pa_cons (pe_lc (own := [("key", 1)]) (g := gName 1) rfl scKeys.nd (pi_tup (pv 0)) (blkOk_by (own := [("key", 1)]) (N := ["thing", "key"]) (sc := defScope sKeys) (by decide +kernel))
          (fun _ _ _ _ _ => pg_name (i := 1) scKeys.nd rfl (Or.inl rfl)) (fun _ _ _ _ _ => pts_nil)
          (fun _ _ _ _ _ => pe_call DK.ok hr (by rfl) DK.gl DK.kp DK.bd .nil pass0 (pa_cons (pv 1) pa_nil))) pa_nil))
        (pe_one (pe_call DR.ok hr (by rfl) DR.gl DR.kp DR.bd .nil pass0 (pa_cons (pv 0) pa_nil)))))), ?_⟩
    refine ⟨_, rfl, _, _, _, _, _, rfl, .ty _, .base (.tup ha), ki_tup, true, rfl, iteT ?_⟩
    refine ⟨_, rfl, a, rfl, ⟨_, SqT.of ha⟩, fun D hD => ?_⟩
    refine lc_map (walk_tup (xs := zs.map V.str)) (fun _ => .bl true) (by rw [List.length_map]; omega) hD (fun H2 h => SqT.of (h _ _ ha)) (fun i x H2 H3 hi s2 y kk => ?_) fun H2 s2 hlD => ?_
    · obtain ⟨rfl, hx⟩ := y
      obtain ⟨rfl, hm⟩ := at_map ("" : Str) V.str hx
      exact ⟨rfl, tyes ⟨_, rfl, _, rfl, hk _ hm, fun H' s' => kk H' s'⟩⟩
    · refine ⟨D, (List.range (zs.map V.str).length).map fun _ => true, rfl, SqL.of (by rw [hlD, ← map_bl]), ?_⟩
      rw [all_true _ _ fun _ _ => rfl]
      refine ⟨true, rfl, iteT ?_⟩
      exact ⟨_, rfl, a, _, rfl, .inl (s2 _ _ ha), by rw [List.length_map]; exact hl, asc_txts H2 hu, fun H' s' => k H' (s2.trans s')⟩
theorem ok_range {f fK fA : Addr} {fd fdK fdA : FuncData} (F : Fun K "is_range" "is_range" sRange f fd) (B : Bi mg) (DK : Def P w K mg base CX0 1 "is_key" fK fdK ["thing"] spKey) (DA : Def P w K mg base CX0 2 "are_keys" fA fdA ["thing"] spKeys) : FnOk P w K mg base CX0 3 f fd ["thing"] spRange := by
  refine F.ok scRange (fun vs H Q E h => ?_) (fun cdv A outer s H vs Q E hr h => ?_)
  · obtain ⟨x, r, rfl, _⟩ := h
    rfl
  · obtain ⟨x, r, rfl, hr', hw, k⟩ := h
    obtain ⟨a, o, rfl, ha, ho⟩ := hr'
    refine ⟨_, pss_cons (ps_if (PW.pt (pw_or (pt_not (pt_val (pe_callB call_isi (by rfl) B.isi (by decide +kernel) (pa_cons (pv 0) (pa_cons (pe_bltn (v := .ty "tuple") (by rfl) B.tuple (by decide +kernel) rfl) pa_nil)))))
        (pw_or (pt_cmpR op_ne (pe_callB call_len (by rfl) B.len (by decide +kernel) (pa_cons (pv 0) pa_nil)) pe_int (nomark _))
        (pw_or (pt_not (pt_val (pe_call DK.ok (hr.mono (by decide)) (by rfl) DK.gl DK.kp DK.bd .nil pass0 (pa_cons (pe_ix ix_tup (pv 0) pe_int (fun _ _ => rfl)) pa_nil))))
        (pw_or1 (pt_not (pt_val (pe_call DK.ok (hr.mono (by decide)) (by rfl) DK.gl DK.kp DK.bd .nil pass0 (pa_cons (pe_ix ix_tup (pv 0) pe_int (fun _ _ => rfl)) pa_nil)))))))))
        (pss_one (ps_ret pe_bl)) pss_nil)
      (pss_cons (ps_asg (pv 0) (pg_tup rfl (pgs_cons (pg_name (i := 1) scRange.nd rfl (Or.inr rfl)) (pgs_cons (pg_name (i := 2) scRange.nd rfl (Or.inr rfl)) (pgs_cons (pg_name (i := 3) scRange.nd rfl (Or.inl rfl)) pgs_nil)))))
      (pss_one (ps_ret (pe_and (pe_cmpR op_le_str (pv 1) (pv 2) (nomark _)) (pe_and (pe_call DA.ok hr (by rfl) DA.gl DA.kp DA.bd .nil pass0 (pa_cons (pv 3) pa_nil))
        (pe_one (pe_callB (cr_all rfl) (by rfl) B.all (by decide +kernel) (pa_cons (pe_lc (own := [("key", 4)]) (g := gName 4) rfl scRange.nd (pi_tup (pv 3)) (blkOk_by (own := [("key", 4)]) (N := ["thing", "low", "high", "own", "key"]) (sc := defScope sRange) (by decide +kernel))
          (fun _ _ _ _ _ => pg_name (i := 4) scRange.nd rfl (Or.inl rfl)) (fun _ _ _ _ _ => pts_nil)
          (fun _ _ _ _ _ => pe_chain op_le_str op_le_str (pv 1) (pv 4) (pv 2))) pa_nil)))))))), ?_⟩
    refine ⟨_, rfl, _, _, _, _, _, rfl, .ty _, .base (.tup ha), ki_tup, true, rfl, iteF ?_⟩
    refine ⟨_, rfl, _, 3, rfl, .inr ⟨_, SqT.of ha, rfl⟩, rfl, _, rfl, iteF ?_⟩
    refine ⟨_, rfl, a, _, 0, _, rfl, rfl, SqT.of ha, rfl, r.lo, rfl, hw.lo, fun H1 s1 => ?_⟩
    refine ⟨true, rfl, iteF ?_⟩
    refine ⟨_, rfl, a, _, 1, _, rfl, rfl, SqT.of (s1 _ _ ha), rfl, r.hi, rfl, hw.hi, fun H2 s2 => ?_⟩
    refine ⟨true, rfl, iteF ?_⟩
    have s12 := s1.trans s2
    have ha2 := s12 _ _ ha
    have ho2 := s12 _ _ ho
    refine ⟨_, rfl, a, _, rfl, SqT.of ha2, rfl, _, _, rfl, _, _, rfl, _, _, rfl, rfl, ?_⟩
    refine ⟨_, rfl, _, rfl, r.lo, r.hi, rfl, rfl, true, ?_, iteT ?_⟩
    · show V.bl (!KT.tlt r.hi r.lo) = _
      rw [hw.le]; rfl
    refine ⟨_, rfl, o, r.own, rfl, ho2, hw.few, fun z hz => (hw.own z hz).1, hw.up, fun H3 s3 => ?_⟩
    refine ⟨true, rfl, iteT ?_⟩
    have ho3 := s3 _ _ ho2
    refine ⟨_, rfl, o, rfl, ⟨_, SqT.of ho3⟩, fun D hD => ?_⟩
    refine lc_map (walk_tup (xs := r.own.map V.str)) (fun _ => .bl true) (by rw [List.length_map]; have := hw.few; omega) hD (fun H4 h => SqT.of (h _ _ ho3)) (fun i x H4 H5 hi s4 y kk => ?_) fun H4 s4 hlD => ?_
    · obtain ⟨rfl, hx⟩ := y
      obtain ⟨rfl, hm⟩ := at_map ("" : Str) V.str hx
      obtain ⟨_, c1, c2⟩ := hw.own _ hm
      refine ⟨rfl, tyes ⟨_, rfl, _, rfl, _, _, rfl, rfl, true, ?_, iteT ?_⟩⟩
      · show V.bl (!KT.tlt _ r.lo) = _
        rw [c1]; rfl
      · refine ⟨_, rfl, _, _, rfl, rfl, ?_⟩
        rw [show decide (r.hi.cps.toList < _) = false from c2]
        exact kk _ (Same.refl _)
    · refine ⟨D, (List.range (r.own.map V.str).length).map fun _ => true, rfl, SqL.of (by rw [hlD, ← map_bl]), ?_⟩
      rw [all_true _ _ fun _ _ => rfl]
      exact k H4 (s12.trans (s3.trans s4))
theorem ok_ranges {f fK fR : Addr} {fd fdK fdR : FuncData} (F : Fun K "are_ranges" "are_ranges" sRanges f fd) (B : Bi mg) (DK : Def P w K mg base CX0 3 "is_range" fK fdK ["thing"] spRange) (DR : Def P w K mg base CX0 1 "is_rising" fR fdR ["things"] spRising) : FnOk P w K mg base CX0 4 f fd ["thing"] spRanges := by
  refine F.ok scRanges (fun vs H Q E h => ?_) (fun cdv A outer s H vs Q E hr h => ?_)
  · obtain ⟨a, xs, rs, rfl, _⟩ := h
    rfl
  · obtain ⟨a, xs, rs, rfl, ha, hx, hl, hk, hu, k⟩ := h
    refine ⟨_, pss_one (ps_ret (pe_and (pe_callB call_isi (by rfl) B.isi (by decide +kernel) (pa_cons (pv 0) (pa_cons (pe_bltn (v := .ty "tuple") (by rfl) B.tuple (by decide +kernel) rfl) pa_nil)))
      (pe_and (pe_callB (cr_all rfl) (by rfl) B.all (by decide +kernel) (pa_cons (pe_lc (own := [("one", 1)]) (g := gName 1) rfl scRanges.nd (pi_tup (pv 0)) (blkOk_by (own := [("one", 1)]) (N := ["thing", "one"]) (sc := defScope sRanges) (by decide +kernel))
          (fun _ _ _ _ _ => pg_name (i := 1) scRanges.nd rfl (Or.inl rfl)) (fun _ _ _ _ _ => pts_nil)
          (fun _ _ _ _ _ => pe_call DK.ok hr (by rfl) DK.gl DK.kp DK.bd .nil pass0 (pa_cons (pv 1) pa_nil))) pa_nil))
        (pe_one (pe_call DR.ok (hr.mono (by decide)) (by rfl) DR.gl DR.kp DR.bd .nil pass0 (pa_cons (pv 0) pa_nil)))))), ?_⟩
    refine ⟨_, rfl, _, _, _, _, _, rfl, .ty _, .base (.tup ha), ki_tup, true, rfl, iteT ?_⟩
    refine ⟨_, rfl, a, rfl, ⟨_, SqT.of ha⟩, fun D hD => ?_⟩
    refine lc_map (walk_tup (xs := xs)) (fun _ => .bl true) (by have := hx.1; omega) hD (fun H2 h => SqT.of (h _ _ ha)) (fun i x H2 H3 hi s2 y kk => ?_) fun H2 s2 hlD => ?_
    · obtain ⟨rfl, hxi⟩ := y
      obtain ⟨r, hri, hra⟩ := hx.at hxi
      exact ⟨rfl, tyes ⟨_, rfl, _, r, rfl, hra.same s2, hk _ (List.mem_of_getElem? hri), fun H' s' => kk H' s'⟩⟩
    · refine ⟨D, (List.range xs.length).map fun _ => true, rfl, SqL.of (by rw [hlD, ← map_bl]), ?_⟩
      rw [all_true _ _ fun _ _ => rfl]
      refine ⟨true, rfl, iteT ?_⟩
      exact ⟨_, rfl, a, _, rfl, .inl (s2 _ _ ha), by have := hx.1; omega, asc_rgs (hx.same s2) hu, fun H' s' => k H' (s2.trans s')⟩
theorem ok_write {f fP fK fW : Addr} {fd fdP fdK fdW : FuncData} (F : Fun K "is_write" "is_write" sWrite f fd) (DP : Def P w K mg base CX0 1 "is_pair" fP fdP ["thing"] spPair) (DK : Def P w K mg base CX0 1 "is_key" fK fdK ["thing"] spKey) (DW : Def P w K mg base CX0 3 "is_worth" fW fdW ["thing"] spWorth) : FnOk P w K mg base CX0 4 f fd ["thing"] spWrite := by
  refine F.ok scWrite (fun vs H Q E h => ?_) (fun cdv A outer s H vs Q E hr h => ?_)
  · obtain ⟨a, z, v, rfl, _⟩ := h
    rfl
  · obtain ⟨a, z, v, rfl, ha, hz, hv, k⟩ := h
    refine ⟨_, pss_one (ps_ret (pe_and (pe_call DP.ok (hr.mono (by decide)) (by rfl) DP.gl DP.kp DP.bd .nil pass0 (pa_cons (pv 0) pa_nil))
      (pe_and (pe_call DK.ok (hr.mono (by decide)) (by rfl) DK.gl DK.kp DK.bd .nil pass0 (pa_cons (pe_ix ix_tup (pv 0) pe_int (fun _ _ => rfl)) pa_nil))
        (pe_one (pe_or (pe_cmpR op_isN (pe_ix ix_tup (pv 0) pe_int (fun _ _ => rfl)) pe_non (nomark _)) (pe_one (pe_call DW.ok hr (by rfl) DW.gl DW.kp DW.bd .nil pass0 (pa_cons (pe_ix ix_tup (pv 0) pe_int (fun _ _ => rfl)) pa_nil)))))))), ?_⟩
    refine ⟨_, rfl, a, _, rfl, ha, rfl, true, rfl, iteT ?_⟩
    refine ⟨_, rfl, a, _, 0, _, rfl, rfl, SqT.of ha, rfl, z, rfl, hz, fun H1 s1 => ?_⟩
    refine ⟨true, rfl, iteT ?_⟩
    refine ⟨_, rfl, a, _, 1, _, rfl, rfl, SqT.of (s1 _ _ ha), rfl, ?_⟩
    rcases hv with rfl | ⟨i, rfl, h1, h2⟩
    · exact ⟨rfl, true, rfl, iteT (k H1 s1)⟩
    · exact ⟨rfl, false, rfl, iteF ⟨_, rfl, a, _, 1, _, rfl, rfl, SqT.of (s1 _ _ ha), rfl, i, rfl, h1, h2, k H1 s1⟩⟩
theorem ok_writes {f fK fR : Addr} {fd fdK fdR : FuncData} (F : Fun K "are_writes" "are_writes" sWrites f fd) (B : Bi mg) (DK : Def P w K mg base CX0 4 "is_write" fK fdK ["thing"] spWrite) (DR : Def P w K mg base CX0 1 "is_rising" fR fdR ["things"] spRising) : FnOk P w K mg base CX0 5 f fd ["thing"] spWrites := by
  refine F.ok scWrites (fun vs H Q E h => ?_) (fun cdv A outer s H vs Q E hr h => ?_)
  · obtain ⟨a, xs, zs, rfl, _⟩ := h
    rfl
  · obtain ⟨a, xs, zs, rfl, ha, hx, hl, hk, hu, k⟩ := h
    refine ⟨_, pss_cons (ps_if (PW.pt (pw_or (pt_not (pt_val (pe_callB call_isi (by rfl) B.isi (by decide +kernel) (pa_cons (pv 0) (pa_cons (pe_bltn (v := .ty "tuple") (by rfl) B.tuple (by decide +kernel) rfl) pa_nil)))))
        (pw_or1 (pt_not (pt_val (pe_callB (cr_all rfl) (by rfl) B.all (by decide +kernel) (pa_cons (pe_lc (own := [("one", 1)]) (g := gName 1) rfl scWrites.nd (pi_tup (pv 0)) (blkOk_by (own := [("one", 1)]) (N := ["thing", "one", "key", "worth"]) (sc := defScope sWrites) (by decide +kernel))
          (fun _ _ _ _ _ => pg_name (i := 1) scWrites.nd rfl (Or.inl rfl)) (fun _ _ _ _ _ => pts_nil)
          (fun _ _ _ _ _ => pe_call DK.ok hr (by rfl) DK.gl DK.kp DK.bd .nil pass0 (pa_cons (pv 1) pa_nil))) pa_nil)))))))
        (pss_one (ps_ret pe_bl)) pss_nil)
      (pss_one (ps_ret (pe_call DR.ok (hr.mono (by decide)) (by rfl) DR.gl DR.kp DR.bd .nil pass0 (pa_cons (pe_lc (own := [("key", 2), ("worth", 3)]) (g := gTup K 2 (gCons (gName 2) (gCons (gName 3) gNil))) rfl scWrites.nd (pi_tup (pv 0))
          (blkOk_by (own := [("key", 2), ("worth", 3)]) (N := ["thing", "one", "key", "worth"]) (sc := defScope sWrites) (by decide +kernel))
          (fun _ _ _ _ _ => pg_tup rfl (pgs_cons (pg_name (i := 2) scWrites.nd rfl (Or.inl rfl)) (pgs_cons (pg_name (i := 3) scWrites.nd rfl (Or.inl rfl)) pgs_nil))) (fun _ _ _ _ _ => pts_nil)
          (fun _ _ _ _ _ => pv 2)) pa_nil)))), ?_⟩
    refine ⟨_, rfl, _, _, _, _, _, rfl, .ty _, .base (.tup ha), ki_tup, true, rfl, iteF ?_⟩
    refine ⟨_, rfl, a, rfl, ⟨_, SqT.of ha⟩, fun D hD => ?_⟩
    refine lc_map (walk_tup (xs := xs)) (fun _ => .bl true) (by have := hx.1; omega) hD (fun H2 h => SqT.of (h _ _ ha)) (fun i x H2 H3 hi s2 y kk => ?_) fun H2 s2 hlD => ?_
    · obtain ⟨rfl, hxi⟩ := y
      obtain ⟨z, b, v, hzi, rfl, hb, hv⟩ := hx.at hxi
      exact ⟨rfl, tyes ⟨_, rfl, b, z, v, rfl, s2 _ _ hb, hk _ (List.mem_of_getElem? hzi), hv, fun H' s' => kk H' s'⟩⟩
    · refine ⟨D, (List.range xs.length).map fun _ => true, rfl, SqL.of (by rw [hlD, ← map_bl]), ?_⟩
      rw [all_true _ _ fun _ _ => rfl]
      refine ⟨true, rfl, iteF ?_⟩
      have ha2 := s2 _ _ ha
      refine ⟨_, rfl, a, rfl, ⟨_, SqT.of ha2⟩, fun D2 hD2 => ?_⟩
      refine lc_map (walk_tup (xs := xs)) (fun i => .str (zs.getD i "")) (by have := hx.1; omega) hD2 (fun H3 h => SqT.of (h _ _ ha2)) (fun i x H3 H4 hi s3 y kk => ?_) fun H3 s3 hlD2 => ?_
      · obtain ⟨rfl, hxi⟩ := y
        obtain ⟨z, b, v, hzi, rfl, hb, hv⟩ := hx.at hxi
        refine ⟨b, [.str z, v], rfl, SqT.of ((s2.trans s3) _ _ hb), rfl, _, _, rfl, _, _, rfl, rfl, rfl, tyes ⟨_, rfl, ?_⟩⟩
        have e : zs.getD i "" = z := by rw [List.getD_eq_getElem?_getD, hzi]; rfl
        have kk' := kk _ (Same.refl H4)
        rw [e] at kk'
        exact kk'
      · rw [hx.1, rng_map ("" : Str) V.str zs] at hlD2
        exact ⟨D2, _, rfl, .inr hlD2, by rw [List.length_map]; exact hl, asc_txts H3 hu, fun H' s' => k H' (s2.trans (s3.trans s'))⟩
end
end K58

namespace K58
open PySem L2
/-! ### traces -/
abbrev d0 : KT.Rg := ⟨"", "", []⟩
/-- a range has a key in it, not among its own -/
def inRg (r : KT.Rg) (key : Str) : Bool := (!KT.tlt key r.lo && !KT.tlt r.hi key) && !r.own.contains key
def sawB (asked : List Str) (spans : List KT.Rg) (key : Str) : Bool := asked.contains key || spans.any fun r => inRg r key
structure Tr where
  since : Int
  count : Option Int
  asked : List Str
  spans : List KT.Rg
  wrote : List Str
def cV : Option Int → V
  | none => .non
  | some i => .int i
def seenOf (a b : Tr) : List Str := b.wrote.filter fun k => sawB a.asked a.spans k
def tied1 (a b : Tr) : Bool := match a.count, b.count with
  | some i, some j => decide (i < j) && a.wrote.any fun k => b.wrote.contains k
  | _, _ => false
def tied2 (a b : Tr) : Bool := match a.count with
  | some i => decide (i ≤ b.since) && decide (0 < (seenOf b a).length)
  | none => false
def tied3 (a b : Tr) : Bool := match b.count with
  | some j => decide (a.since < j) && decide (0 < (seenOf a b).length)
  | none => false
def tied (a b : Tr) : Bool := tied1 a b || (tied2 a b || tied3 a b)
def trF (s : Int) (c : V) (ka ra wa : Addr) : List (Str × V) := [("kept_since", .int s), ("kept_count", c), ("kept_asked", .ref ka), ("kept_spans", .ref ra), ("kept_wrote", .ref wa)]
/-- a Trace stands at a -/
def TrAt (T : Addr) (H : Hp) (a : Addr) (t : Tr) : Prop := ∃ (dx ka ra wa : Addr) (xs : List V), H a = some (.ins T dx (trF t.since (cV t.count) ka ra wa)) ∧ H ka = some (.tup (t.asked.map V.str)) ∧ H ra = some (.tup xs) ∧ RgsAt H xs t.spans ∧
  H wa = some (.tup (t.wrote.map V.str)) ∧ t.asked.length ≤ 1000 ∧ t.spans.length ≤ 1000 ∧ t.wrote.length ≤ 1000
theorem TrAt.same {T : Addr} {H H' : Hp} {a : Addr} {t : Tr} (h : TrAt T H a t) (s : Same H H') : TrAt T H' a t := by
  obtain ⟨dx, ka, ra, wa, xs, h1, h2, h3, h4, h5, h6⟩ := h
  exact ⟨dx, ka, ra, wa, xs, s _ _ h1, s _ _ h2, s _ _ h3, h4.same s, s _ _ h5, h6⟩
/-- the class Trace -/
structure TrTx (K : PySem.W.Frag) (T : Addr) : Prop where
  cl : Cls K T
  n1 : NoAttr K T "kept_since"
  n2 : NoAttr K T "kept_count"
  n3 : NoAttr K T "kept_asked"
  n4 : NoAttr K T "kept_spans"
  n5 : NoAttr K T "kept_wrote"
/-- a statement, then the rest, with a word between -/
def tMid (t u : TS) : TS := fun D σ H => ∃ Mid : L2.St → Hp → Prop, t { D with nx := Mid } σ H ∧ ∀ σ' H', Mid σ' H' → u D σ' H'
theorem pss_mid {X : Cx} {st : Stmt} {rest : List Stmt} {t u : TS} (h1 : PS X st t) (h2 : PSs X rest u) : PSs X (st :: rest) (tMid t u) := by
  refine ⟨fun pins s σ H D I h => ?_⟩
  obtain ⟨Mid, hm, hu⟩ := h
  refine wpAny_execs_cons (thn (h1.run pins s σ H { D with nx := Mid } I hm) fun f s1 q => ?_)
  cases f with
  | next =>
    obtain ⟨σ', H', I', q⟩ := q
    exact h2.run pins s1 σ' H' D I' (hu σ' H' q)
  | ret v => exact q
  | brk => exact q
  | cont => exact q
theorem inV_str (z : Str) (zs : List Str) : inV (.str z) (zs.map V.str) = zs.contains z := by
  unfold inV
  rw [List.any_map]
  have e : ((fun y => eqV y (V.str z)) ∘ V.str) = fun y => y == z := by funext y; rfl
  rw [e]
  induction zs with
  | nil => rfl
  | cons y l ih =>
    rw [List.any_cons, List.contains_cons, ih]
    congr 1
    by_cases h : y = z
    · subst h; rw [beq_self_eq_true]
    · rw [beq_eq_false_iff_ne.mpr h, beq_eq_false_iff_ne.mpr (Ne.symm h)]
theorem flat_strs (zs : List Str) : (zs.map V.str).all flatV = true := by
  rw [List.all_map, List.all_eq_true]
  intro x _
  rfl
def spSaw : Sp := fun vs H Q _ => ∃ (ka ra : Addr) (key : Str) (asked : List Str) (xs : List V) (spans : List KT.Rg), vs = [.ref ka, .ref ra, .str key] ∧ H ka = some (.tup (asked.map V.str)) ∧ H ra = some (.tup xs) ∧ RgsAt H xs spans ∧ spans.length ≤ 1000 ∧
  ∀ H', Same H H' → Q (.bl (sawB asked spans key)) H'
def spTrInit (T : Addr) : Sp := fun vs H Q _ => ∃ (a dx : Addr) (since : Int) (count : Option Int) (ka ra wr : Addr) (asked wrote : List Str) (xs ws : List V) (spans : List KT.Rg),
  vs = [.ref a, .int since, cV count, .ref ka, .ref ra, .ref wr] ∧ H a = some (.ins T dx []) ∧ H ka = some (.tup (asked.map V.str)) ∧ H ra = some (.tup xs) ∧ RgsAt H xs spans ∧ H wr = some (.tup ws) ∧ WrsAt H ws wrote ∧
  asked.length ≤ 1000 ∧ spans.length ≤ 1000 ∧ wrote.length ≤ 1000 ∧ ∀ H', (∀ b o, b ≠ a → H b = some o → H' b = some o) → TrAt T H' a ⟨since, count, asked, spans, wrote⟩ → Q .non H'
def spHas (T : Addr) : Sp := fun vs H Q _ => ∃ (a : Addr) (t : Tr) (key : Str), vs = [.ref a, .str key] ∧ TrAt T H a t ∧ ∀ H', Same H H' → Q (.bl (sawB t.asked t.spans key)) H'
def spSeenOf (T : Addr) : Sp := fun vs H Q _ => ∃ (a b : Addr) (t u : Tr), vs = [.ref a, .ref b] ∧ TrAt T H a t ∧ TrAt T H b u ∧ ∀ (p : Addr) (H' : Hp), Same H H' → H' p = some (.lst ((seenOf t u).map V.str)) → Q (.ref p) H'
def spTied (T : Addr) : Sp := fun vs H Q _ => ∃ (a b : Addr) (t u : Tr), vs = [.ref a, .ref b] ∧ TrAt T H a t ∧ TrAt T H b u ∧ ∀ H', Same H H' → Q (.bl (tied t u)) H'
theorem scSaw : FnScope ["keys", "ranges", "key", "low", "high", "own"] ["keys", "ranges", "key"] (defScope sSaw) := ⟨rfl, rfl, rfl, by decide +kernel, rfl, by decide +kernel, by decide +kernel⟩
theorem scTrInit : FnScope ["self", "snapshot", "number", "keys", "ranges", "writes", "key", "worth"] ["self", "snapshot", "number", "keys", "ranges", "writes"] (defScope sTrInit) := ⟨rfl, rfl, rfl, by decide +kernel, rfl, by decide +kernel, by decide +kernel⟩
theorem scTrSeen : FnScope ["self", "key"] ["self", "key"] (defScope sTrSeen) := ⟨rfl, rfl, rfl, by decide +kernel, rfl, by decide +kernel, by decide +kernel⟩
theorem scTrOf : FnScope ["self", "other", "key"] ["self", "other"] (defScope sTrOf) := ⟨rfl, rfl, rfl, by decide +kernel, rfl, by decide +kernel, by decide +kernel⟩
theorem scTied : FnScope ["one", "other", "key"] ["one", "other"] (defScope sTied) := ⟨rfl, rfl, rfl, by decide +kernel, rfl, by decide +kernel, by decide +kernel⟩
section
variable {P : Program} {w : World} {K : PySem.W.Frag} {mg : Str → Option Value} {base : Heap}
theorem ok_saw {f : Addr} {fd : FuncData} (F : Fun K "saw" "saw" sSaw f fd) (B : Bi mg) : FnOk P w K mg base CX0 1 f fd ["keys", "ranges", "key"] spSaw := by
  refine F.ok scSaw (fun vs H Q E h => ?_) (fun cdv A outer s H vs Q E hr h => ?_)
  · obtain ⟨ka, ra, key, asked, xs, spans, rfl, _⟩ := h
    rfl
  · obtain ⟨ka, ra, key, asked, xs, spans, rfl, hka, hra, hx, hl, k⟩ := h
    refine ⟨_, pss_cons (ps_if (pt_cmpR op_in_seq (pv 2) (pv 0) (by rfl)) (pss_one (ps_ret pe_bl)) pss_nil)
      (pss_one (ps_ret (pe_callB (cr_any rfl) (by rfl) B.any (by decide +kernel) (pa_cons (pe_lc (own := [("low", 3), ("high", 4), ("own", 5)]) (g := gTup K 3 (gCons (gName 3) (gCons (gName 4) (gCons (gName 5) gNil)))) rfl scSaw.nd (pi_tup (pv 1))
        (blkOk_by (own := [("low", 3), ("high", 4), ("own", 5)]) (N := ["keys", "ranges", "key", "low", "high", "own"]) (sc := defScope sSaw) (by decide +kernel))
        (fun _ _ _ _ _ => pg_tup rfl (pgs_cons (pg_name (i := 3) scSaw.nd rfl (Or.inl rfl)) (pgs_cons (pg_name (i := 4) scSaw.nd rfl (Or.inl rfl)) (pgs_cons (pg_name (i := 5) scSaw.nd rfl (Or.inl rfl)) pgs_nil)))) (fun _ _ _ _ _ => pts_nil)
        (fun _ _ _ _ _ => pe_and (pe_chain op_le_str op_le_str (pv 3) (pv 2) (pv 4)) (pe_one (pe_cmpR (r := rIn K true) op_notIn_seq (pv 2) (pv 5) (by rfl))))) pa_nil)))), ?_⟩
    refine ⟨_, rfl, _, rfl, ka, _, rfl, .inr (SqT.of hka), rfl, flat_strs _, _, rfl, ?_⟩
    show if inV (.str key) (asked.map V.str) = true then _ else _
    rw [inV_str]
    cases ec : asked.contains key with
    | true =>
      have e1 : sawB asked spans key = true := by unfold sawB; rw [ec]; rfl
      rw [e1] at k
      exact iteT (k H (Same.refl H))
    | false =>
      have e1 : sawB asked spans key = spans.any fun r => inRg r key := by unfold sawB; rw [ec]; rfl
      rw [e1] at k
      refine iteF ?_
      refine ⟨_, rfl, ra, rfl, ⟨_, SqT.of hra⟩, fun D hD => ?_⟩
      refine lc_map (walk_tup (xs := xs)) (fun i => .bl (inRg (spans.getD i d0) key)) (by have := hx.1; omega) hD (fun H2 h => SqT.of (h _ _ hra)) (fun i x H2 H3 hi s2 y kk => ?_) fun H2 s2 hlD => ?_
      · obtain ⟨rfl, hxi⟩ := y
        obtain ⟨r, hri, hra'⟩ := hx.at hxi
        obtain ⟨b, o, rfl, hb, ho⟩ := hra'.same s2
        have e : spans.getD i d0 = r := by rw [List.getD_eq_getElem?_getD, hri]; rfl
        rw [e] at kk
        have kk' := kk _ (Same.refl H3)
        unfold inRg at kk'
        refine ⟨b, _, rfl, SqT.of hb, rfl, _, _, rfl, _, _, rfl, _, _, rfl, rfl, rfl, tyes ⟨_, rfl, _, rfl, _, _, rfl, rfl, !KT.tlt key r.lo, rfl, ?_⟩⟩
        cases e1 : KT.tlt key r.lo with
        | true =>
          rw [e1] at kk'
          exact iteF ⟨false, rfl, iteF kk'⟩
        | false =>
          rw [e1] at kk'
          refine iteT ⟨_, rfl, _, _, rfl, rfl, !KT.tlt r.hi key, rfl, ?_⟩
          cases e2 : KT.tlt r.hi key with
          | true =>
            rw [e2] at kk'
            exact iteF kk'
          | false =>
            rw [e2] at kk'
            refine iteT ⟨_, rfl, _, rfl, o, _, rfl, .inr (SqT.of ho), rfl, flat_strs _, ?_⟩
            rw [inV_str]
            exact kk'
      · rw [hx.1, map_bl, rng_map d0 (fun r => inRg r key) spans] at hlD
        refine ⟨D, _, rfl, SqL.of hlD, ?_⟩
        rw [List.any_map]
        exact k H2 s2
theorem RgsAt.upto {H H' : Hp} {a : Addr} {xs : List V} {rs : List KT.Rg} {C dx : Addr} {fs : List (Str × V)} (h : RgsAt H xs rs) (ha : H a = some (.ins C dx fs)) (s : ∀ b o, b ≠ a → H b = some o → H' b = some o) : RgsAt H' xs rs := ⟨h.1, fun i x r h1 h2 => by
  obtain ⟨b, o, e, hb, ho⟩ := h.2 i x r h1 h2
  exact ⟨b, o, e, s _ _ (ne_of hb ha (by intro z; cases z)) hb, s _ _ (ne_of ho ha (by intro z; cases z)) ho⟩⟩
theorem WrsAt.upto {H H' : Hp} {a : Addr} {xs : List V} {rs : List Str} {C dx : Addr} {fs : List (Str × V)} (h : WrsAt H xs rs) (ha : H a = some (.ins C dx fs)) (s : ∀ b o, b ≠ a → H b = some o → H' b = some o) : WrsAt H' xs rs := ⟨h.1, fun i x r h1 h2 => by
  obtain ⟨b, v, e, hb, hv⟩ := h.2 i x r h1 h2
  exact ⟨b, v, e, s _ _ (ne_of hb ha (by intro z; cases z)) hb, hv⟩⟩
theorem ok_trInit {f T : Addr} {fd : FuncData} (F : Fun K "__init__" "Trace.__init__" sTrInit f fd) (B : Bi mg) (TT : TrTx K T) : FnOk P w K mg base CX0 1 f fd ["self", "snapshot", "number", "keys", "ranges", "writes"] (spTrInit T) := by
  refine F.ok scTrInit (fun vs H Q E h => ?_) (fun cdv A outer s H vs Q E hr h => ?_)
  · obtain ⟨a, dx, since, count, ka, ra, wr, asked, wrote, xs, ws, spans, rfl, _⟩ := h
    rfl
  · obtain ⟨a, dx, since, count, ka, ra, wr, asked, wrote, xs, ws, spans, rfl, ha, hka, hra, hx, hwr, hw, l1, l2, l3, k⟩ := h
    refine ⟨_, pss_cons (ps_fld (pv 0) (pv 1) rfl) (pss_cons (ps_fld (pv 0) (pv 2) rfl) (pss_cons (ps_fld (pv 0) (pv 3) rfl) (pss_cons (ps_fld (pv 0) (pv 4) rfl) (pss_one (ps_fld (pv 0)
      (pe_callTy call_tuple_of (by rfl) B.tuple (by decide +kernel) (pa_cons (pe_lc (own := [("key", 6), ("worth", 7)]) (g := gTup K 2 (gCons (gName 6) (gCons (gName 7) gNil))) rfl scTrInit.nd (pi_tup (pv 5))
          (blkOk_by (own := [("key", 6), ("worth", 7)]) (N := ["self", "snapshot", "number", "keys", "ranges", "writes", "key", "worth"]) (sc := defScope sTrInit) (by decide +kernel))
          (fun _ _ _ _ _ => pg_tup rfl (pgs_cons (pg_name (i := 6) scTrInit.nd rfl (Or.inl rfl)) (pgs_cons (pg_name (i := 7) scTrInit.nd rfl (Or.inl rfl)) pgs_nil))) (fun _ _ _ _ _ => pts_nil)
          (fun _ _ _ _ _ => pv 6)) pa_nil)) rfl))))), ?_⟩
    refine ⟨_, rfl, _, rfl, a, T, dx, [], rfl, ha, TT.cl, TT.n1, (by show 0 < 1000; decide), ?_⟩
    refine ⟨_, rfl, _, rfl, a, T, dx, _, rfl, upd_same, TT.cl, TT.n2, (by show 1 < 1000; decide), ?_⟩
    refine ⟨_, rfl, _, rfl, a, T, dx, _, rfl, upd_same, TT.cl, TT.n3, (by show 2 < 1000; decide), ?_⟩
    refine ⟨_, rfl, _, rfl, a, T, dx, _, rfl, upd_same, TT.cl, TT.n4, (by show 3 < 1000; decide), ?_⟩
    generalize hH1 : upd (upd (upd (upd H a _) a _) a _) a _ = H1
    have s1 : ∀ b o, b ≠ a → H b = some o → H1 b = some o := fun b o hb e => by rw [← hH1, upd_ne hb, upd_ne hb, upd_ne hb, upd_ne hb]; exact e
    have ha1 : H1 a = some (.ins T dx (putF "kept_spans" (.ref ra) (putF "kept_asked" (.ref ka) (putF "kept_count" (cV count) (putF "kept_since" (.int since) []))))) := by rw [← hH1]; exact upd_same
    have hwr1 := s1 _ _ (ne_of hwr ha (by intro z; cases z)) hwr
    have hw1 := hw.upto ha s1
    refine ⟨_, rfl, wr, rfl, ⟨_, SqT.of hwr1⟩, fun D hD => ?_⟩
    refine lc_map (walk_tup (xs := ws)) (fun i => .str (wrote.getD i "")) (by have := hw.1; omega) hD (fun H3 h => SqT.of (h _ _ hwr1)) (fun i x H3 H4 hi s3 y kk => ?_) fun H3 s3 hlD => ?_
    · obtain ⟨rfl, hxi⟩ := y
      obtain ⟨z, b, v, hzi, rfl, hb, hv⟩ := hw1.at hxi
      refine ⟨b, [.str z, v], rfl, SqT.of (s3 _ _ hb), rfl, _, _, rfl, _, _, rfl, rfl, rfl, tyes ⟨_, rfl, ?_⟩⟩
      have e : wrote.getD i "" = z := by rw [List.getD_eq_getElem?_getD, hzi]; rfl
      have kk' := kk _ (Same.refl H4)
      rw [e] at kk'
      exact kk'
    · rw [hw.1, rng_map ("" : Str) V.str wrote] at hlD
      refine ⟨D, _, rfl, .inl ⟨SqL.of hlD, fun l hl => ?_⟩⟩
      have ha3 := s3 _ _ ha1
      have nal : a ≠ l := ne_of_none ha3 hl
      refine ⟨_, rfl, a, T, dx, _, rfl, by rw [upd_ne nal]; exact ha3, TT.cl, TT.n5, (by show 4 < 1000; decide), ?_⟩
      have s4 : ∀ b o, b ≠ a → H b = some o → upd (upd H3 l (.tup (wrote.map V.str))) a (.ins T dx (putF "kept_wrote" (.ref l) (putF "kept_spans" (.ref ra) (putF "kept_asked" (.ref ka) (putF "kept_count" (cV count) (putF "kept_since" (.int since) [])))))) b = some o := fun b o hb e => by
        have e3 := s3 _ _ (s1 b o hb e)
        rw [upd_ne hb, upd_ne (ne_of_none e3 hl)]
        exact e3
      refine k _ s4 ⟨dx, ka, ra, l, xs, ?_, s4 _ _ (ne_of hka ha (by intro z; cases z)) hka, s4 _ _ (ne_of hra ha (by intro z; cases z)) hra, hx.upto ha s4, ?_, l1, l2, l3⟩
      · rw [upd_same]; rfl
      · rw [upd_ne nal.symm]; exact upd_same
theorem ok_trSeen {f fS T : Addr} {fd fdS : FuncData} (F : Fun K "has_seen" "Trace.has_seen" sTrSeen f fd) (TT : TrTx K T) (DS : Def P w K mg base CX0 1 "saw" fS fdS ["keys", "ranges", "key"] spSaw) : FnOk P w K mg base CX0 2 f fd ["self", "key"] (spHas T) := by
  refine F.ok scTrSeen (fun vs H Q E h => ?_) (fun cdv A outer s H vs Q E hr h => ?_)
  · obtain ⟨a, t, key, rfl, _⟩ := h
    rfl
  · obtain ⟨a, t, key, rfl, ⟨dx, ka, ra, wa, xs, h1, h2, h3, h4, h5, l1, l2, l3⟩, k⟩ := h
    refine ⟨_, pss_one (ps_ret (pe_call DS.ok hr (by rfl) DS.gl DS.kp DS.bd .nil pass0 (pa_cons (pe_fld (pv 0) rfl) (pa_cons (pe_fld (pv 0) rfl) (pa_cons (pv 1) pa_nil))))), ?_⟩
    refine ⟨_, rfl, a, T, dx, _, _, rfl, h1, TT.cl, TT.n3, rfl, _, rfl, a, T, dx, _, _, rfl, h1, TT.cl, TT.n4, rfl, _, rfl, ?_⟩
    exact ⟨ka, ra, key, t.asked, xs, t.spans, rfl, h2, h3, h4, l2, k⟩
theorem ok_trOf {f fS T : Addr} {fd fdS : FuncData} (F : Fun K "seen_of" "Trace.seen_of" sTrOf f fd) (TT : TrTx K T) (DS : MDef P w K mg base CX0 2 T "has_seen" fS fdS ["self", "key"] (spHas T)) : FnOk P w K mg base CX0 3 f fd ["self", "other"] (spSeenOf T) := by
  refine F.ok scTrOf (fun vs H Q E h => ?_) (fun cdv A outer s H vs Q E hr h => ?_)
  · obtain ⟨a, b, t, u, rfl, _⟩ := h
    rfl
  · obtain ⟨a, b, t, u, rfl, hta, hub, k⟩ := h
    obtain ⟨dx, ka, ra, wa, xs, h1, h2, h3, h4, h5, l1, l2, l3⟩ := hub
    refine ⟨_, pss_one (ps_ret (pe_lc (own := [("key", 2)]) (g := gName 2) rfl scTrOf.nd (pi_tup (pe_fld (pv 1) rfl)) (blkOk_by (own := [("key", 2)]) (N := ["self", "other", "key"]) (sc := defScope sTrOf) (by decide +kernel))
          (fun _ _ _ _ _ => pg_name (i := 2) scTrOf.nd rfl (Or.inl rfl)) (fun _ _ _ _ _ => pts_one (pt_val (pe_meth (pv 0) TT.cl DS.mt DS.ok hr DS.bd .nil pass0 (pa_cons (pv 2) pa_nil))))
          (fun _ _ _ _ _ => pv 2))), ?_⟩
    refine ⟨_, rfl, b, T, dx, _, _, rfl, h1, TT.cl, TT.n5, rfl, wa, rfl, ⟨_, SqT.of h5⟩, fun D hD => ?_⟩
    refine lc_filt (walk_tup (xs := u.wrote.map V.str)) (fun i => sawB t.asked t.spans (u.wrote.getD i "")) (fun i => .str (u.wrote.getD i "")) (by rw [List.length_map]; omega) hD (fun H3 h => SqT.of (h _ _ h5)) (fun i x H3 H4 hi s3 y k1 k2 => ?_) fun H3 s3 hlD => ?_
    · obtain ⟨rfl, hx⟩ := y
      obtain ⟨rfl, hm⟩ := at_map ("" : Str) V.str hx
      have ht3 := hta.same s3
      obtain ⟨dx', ka', ra', wa', xs', g1, _⟩ := id ht3
      refine ⟨rfl, ?_⟩
      refine ⟨_, rfl, a, dx', _, rfl, g1, rfl, _, rfl, a, t, _, rfl, ht3, fun H5 s5 => ?_⟩
      refine ⟨_, rfl, ?_⟩
      cases ec : sawB t.asked t.spans (u.wrote.getD i "") with
      | true => exact iteT ⟨_, rfl, k1 ec _ s5⟩
      | false => exact iteF (k2 ec _ s5)
    · rw [List.length_map, rng_filt ("" : Str) (fun z => sawB t.asked t.spans z) V.str u.wrote] at hlD
      exact k D H3 s3 hlD
end
end K58

namespace K58
open PySem L2
/-- e.f within a comprehension -/
theorem pe_fldK {X : Cx} {K : PySem.W.Frag} {e : Expr} {f : Str} {pos : Pos} {ta : TE} (hK : X.K = K) (he : PE X e ta) (hb : attributeBase e f X.env (eval e X.env) = eval e X.env) : PE X (.Attribute e f pos) (tFld K ta f) := by
  subst hK
  exact pe_fld he hb
section
variable {P : Program} {w : World} {K : PySem.W.Frag} {mg : Str → Option Value} {base : Heap}
theorem len_strs (H : Hp) {p : Addr} {zs : List Str} {K : PySem.W.Frag} (h : H p = some (.lst (zs.map V.str))) : SqL K H p (zs.map V.str) := SqL.of h
theorem ok_tied {f fO T : Addr} {fd fdO : FuncData} (F : Fun K "is_tied" "is_tied" sTied f fd) (B : Bi mg) (TT : TrTx K T) (DO : MDef P w K mg base CX0 3 T "seen_of" fO fdO ["self", "other"] (spSeenOf T)) : FnOk P w K mg base CX0 4 f fd ["one", "other"] (spTied T) := by
  refine F.ok scTied (fun vs H Q E h => ?_) (fun cdv A outer s H vs Q E hr h => ?_)
  · obtain ⟨a, b, t, u, rfl, _⟩ := h
    rfl
  · obtain ⟨a, b, t, u, rfl, hta, hub, k⟩ := h
    refine ⟨_, pss_mid (ps_if (PW.pt (pw_and (pt_cmpR op_notN (pe_fld (pv 0) rfl) pe_non (nomark _)) (pw_and (pt_cmpR op_notN (pe_fld (pv 1) rfl) pe_non (nomark _)) (pw_and1 (pt_cmpR op_lt (pe_fld (pv 0) rfl) (pe_fld (pv 1) rfl) (nomark _))))))
        (pss_one (ps_if (pt_val (pe_callB (cr_any rfl) (by rfl) B.any (by decide +kernel) (pa_cons (pe_lc (own := [("key", 2)]) (g := gName 2) rfl scTied.nd (pi_tup (pe_fld (pv 0) rfl)) (blkOk_by (own := [("key", 2)]) (N := ["one", "other", "key"]) (sc := defScope sTied) (by decide +kernel))
          (fun _ _ _ _ _ => pg_name (i := 2) scTied.nd rfl (Or.inl rfl)) (fun _ _ _ _ _ => pts_nil)
          (fun _ _ _ _ _ => pe_cmpR (r := rIn K false) op_in_seq (pv 2) (pe_fldK (K := K) rfl (pv 1) rfl) (by rfl))) pa_nil))) (pss_one (ps_ret pe_bl)) pss_nil)) pss_nil)
      (pss_mid (ps_if (PW.pt (pw_and (pt_cmpR op_notN (pe_fld (pv 0) rfl) pe_non (nomark _)) (pw_and (pt_cmpR op_le (pe_fld (pv 0) rfl) (pe_fld (pv 1) rfl) (nomark _))
          (pw_and1 (pt_cmpR op_gt (pe_callB call_len (by rfl) B.len (by decide +kernel) (pa_cons (pe_meth (pv 1) TT.cl DO.mt DO.ok hr DO.bd .nil pass0 (pa_cons (pv 0) pa_nil)) pa_nil)) pe_int (nomark _))))))
        (pss_one (ps_ret pe_bl)) pss_nil)
      (pss_one (ps_ret (pe_and (pe_cmpR op_notN (pe_fld (pv 1) rfl) pe_non (nomark _)) (pe_and (pe_cmpR op_gt (pe_fld (pv 1) rfl) (pe_fld (pv 0) rfl) (nomark _))
          (pe_one (pe_cmpR op_gt (pe_callB call_len (by rfl) B.len (by decide +kernel) (pa_cons (pe_meth (pv 0) TT.cl DO.mt DO.ok hr DO.bd .nil pass0 (pa_cons (pv 1) pa_nil)) pa_nil)) pe_int (nomark _)))))))), ?_⟩
    refine ⟨fun σ' H' => σ' = [some (.ref a), some (.ref b), none] ∧ Same H H' ∧ tied1 t u = false, ?_, ?_⟩
    · obtain ⟨dx, ka, ra, wa, xs, h1, h2, h3, h4, h5, l1, l2, l3⟩ := id hta
      obtain ⟨dx', ka', ra', wa', xs', g1, g2, g3, g4, g5, m1, m2, m3⟩ := id hub
      refine ⟨_, rfl, a, T, dx, _, _, rfl, h1, TT.cl, TT.n2, rfl, rfl, _, rfl, ?_⟩
      obtain ⟨si, ci, as1, sp1, wr1⟩ := t
      obtain ⟨sj, cj, as2, sp2, wr2⟩ := u
      cases ci with
      | none => exact iteF ⟨rfl, Same.refl H, rfl⟩
      | some i =>
        refine iteT ⟨_, rfl, b, T, dx', _, _, rfl, g1, TT.cl, TT.n2, rfl, rfl, _, rfl, ?_⟩
        cases cj with
        | none => exact iteF ⟨rfl, Same.refl H, rfl⟩
        | some j =>
          refine iteT ⟨_, rfl, a, T, dx, _, _, rfl, h1, TT.cl, TT.n2, rfl, _, rfl, b, T, dx', _, _, rfl, g1, TT.cl, TT.n2, rfl, _, _, rfl, rfl, decide (i < j), rfl, ?_⟩
          have e0 : tied1 ⟨si, some i, as1, sp1, wr1⟩ ⟨sj, some j, as2, sp2, wr2⟩ = (decide (i < j) && wr1.any fun k => wr2.contains k) := rfl
          unfold tied at k
          rw [e0] at k ⊢
          cases ec : decide (i < j) with
          | false => exact iteF ⟨rfl, Same.refl H, by rw [Bool.false_and]⟩
          | true =>
            rw [ec, Bool.true_and] at k
            refine iteT ?_
            refine ⟨_, rfl, a, T, dx, _, _, rfl, h1, TT.cl, TT.n5, rfl, wa, rfl, ⟨_, SqT.of h5⟩, fun D hD => ?_⟩
            refine lc_map (walk_tup (xs := wr1.map V.str)) (fun i => .bl (wr2.contains (wr1.getD i ""))) (by rw [List.length_map]; exact Nat.le_trans l3 (by decide)) hD (fun H3 h => SqT.of (h _ _ h5)) (fun i x H3 H4 hi s3 y kk => ?_) fun H3 s3 hlD => ?_
            · obtain ⟨rfl, hx⟩ := y
              obtain ⟨rfl, hm⟩ := at_map ("" : Str) V.str hx
              refine ⟨rfl, tyes ⟨_, rfl, _, rfl, b, T, dx', _, _, rfl, s3 _ _ g1, TT.cl, TT.n5, rfl, wa', _, rfl, .inr (SqT.of (s3 _ _ g5)), rfl, flat_strs _, ?_⟩⟩
              show ∃ acc, _
              rw [inV_str]
              exact kk _ (Same.refl _)
            · rw [List.length_map, map_bl, rng_map ("" : Str) (fun z => wr2.contains z) wr1] at hlD
              refine ⟨D, _, rfl, SqL.of hlD, ?_⟩
              rw [List.any_map]
              refine ⟨_, rfl, ?_⟩
              show if (wr1.any fun k => wr2.contains k) = true then _ else _
              cases e : wr1.any fun k => wr2.contains k with
              | true =>
                rw [e] at k
                exact iteT (k H3 s3)
              | false => exact iteF ⟨rfl, s3, rfl⟩
    · rintro σ' H' ⟨rfl, s1, e1⟩
      refine ⟨fun σ' H' => σ' = [some (.ref a), some (.ref b), none] ∧ Same H H' ∧ tied2 t u = false, ?_, ?_⟩
      · obtain ⟨dx, ka, ra, wa, xs, h1, h2, h3, h4, h5, l1, l2, l3⟩ := hta.same s1
        obtain ⟨dx', ka', ra', wa', xs', g1, g2, g3, g4, g5, m1, m2, m3⟩ := hub.same s1
        refine ⟨_, rfl, a, T, dx, _, _, rfl, h1, TT.cl, TT.n2, rfl, rfl, _, rfl, ?_⟩
        cases ec : t.count with
        | none =>
          rw [show (!decide (cV none = V.non)) = false from rfl]
          exact iteF ⟨rfl, s1, by unfold tied2; rw [ec]⟩
        | some i =>
          rw [ec] at h1
          rw [show (!decide (cV (some i) = V.non)) = true from rfl]
          refine iteT ⟨_, rfl, a, T, dx, _, _, rfl, h1, TT.cl, TT.n2, rfl, _, rfl, b, T, dx', _, _, rfl, g1, TT.cl, TT.n1, rfl, _, _, rfl, rfl, decide (i ≤ u.since), rfl, ?_⟩
          have e0 : tied2 t u = (decide (i ≤ u.since) && decide (0 < (seenOf u t).length)) := by unfold tied2; rw [ec]
          cases ed : decide (i ≤ u.since) with
          | false => exact iteF ⟨rfl, s1, by rw [e0, ed, Bool.false_and]⟩
          | true =>
            refine iteT ⟨_, rfl, b, dx', _, rfl, g1, rfl, _, rfl, b, a, u, t, rfl, hub.same s1, hta.same s1, fun p H2 s2 hp => ?_⟩
            refine ⟨_, (seenOf u t).length, rfl, .inl ⟨_, SqL.of hp, by rw [List.length_map]⟩, _, _, rfl, rfl, decide ((0 : Int) < (seenOf u t).length), rfl, ?_⟩
            have e2 : decide ((0 : Int) < (seenOf u t).length) = decide (0 < (seenOf u t).length) := decide_eq_decide.mpr (by omega)
            rw [e2]
            unfold tied at k
            rw [e1, e0, ed, Bool.true_and, Bool.false_or] at k
            cases ef : decide (0 < (seenOf u t).length) with
            | true =>
              rw [ef] at k
              exact iteT (k H2 (s1.trans s2))
            | false => exact iteF ⟨rfl, s1.trans s2, by rw [e0, ed, ef]; rfl⟩
      · rintro σ' H' ⟨rfl, s1, e2⟩
        unfold tied at k
        rw [e1, e2, Bool.false_or, Bool.false_or] at k
        obtain ⟨dx, ka, ra, wa, xs, h1, h2, h3, h4, h5, l1, l2, l3⟩ := hta.same s1
        obtain ⟨dx', ka', ra', wa', xs', g1, g2, g3, g4, g5, m1, m2, m3⟩ := hub.same s1
        refine ⟨_, rfl, b, T, dx', _, _, rfl, g1, TT.cl, TT.n2, rfl, rfl, ?_⟩
        cases ec : u.count with
        | none =>
          have e0 : tied3 t u = false := by unfold tied3; rw [ec]
          rw [e0] at k
          exact ⟨false, rfl, iteF (k _ s1)⟩
        | some j =>
          rw [ec] at g1
          have e0 : tied3 t u = (decide (t.since < j) && decide (0 < (seenOf t u).length)) := by unfold tied3; rw [ec]
          rw [e0] at k
          refine ⟨true, rfl, iteT ⟨_, rfl, b, T, dx', _, _, rfl, g1, TT.cl, TT.n2, rfl, _, rfl, a, T, dx, _, _, rfl, h1, TT.cl, TT.n1, rfl, _, _, rfl, rfl, decide (t.since < j), rfl, ?_⟩⟩
          cases ed : decide (t.since < j) with
          | false =>
            rw [ed, Bool.false_and] at k
            exact iteF (k _ s1)
          | true =>
            rw [ed, Bool.true_and] at k
            refine iteT ⟨_, rfl, a, dx, _, rfl, h1, rfl, _, rfl, a, b, t, u, rfl, hta.same s1, hub.same s1, fun p H2 s2 hp => ?_⟩
            refine ⟨_, (seenOf t u).length, rfl, .inl ⟨_, SqL.of hp, by rw [List.length_map]⟩, _, _, rfl, rfl, ?_⟩
            have e2 : decide ((0 : Int) < (seenOf t u).length) = decide (0 < (seenOf t u).length) := decide_eq_decide.mpr (by omega)
            show Q (.bl (decide ((0 : Int) < (seenOf t u).length))) H2
            rw [e2]
            exact k H2 (s1.trans s2)
end
end K58

namespace K58
open PySem PySem.Spec PyProof.Rows L2
/-! ### name = {k: v for ..} on one line -/
theorem sw_trueD {kx vx : Expr} {gs : List Comprehension} {scope : Scope} {pos py : Pos} {y : Str} {l : Nat} {env : Env} (hk : env.scope.kind = .function) (hy : env.scope.names.lookup y = some .local) (hl : (py.line == pos.line) = true)
    (ha : (scope.names.any fun (n, k) => n == y && (k == .local || k == .cell)) = false) : swapsWith (.DictComp kx vx gs scope pos) (some (.Name y py)) l env = pure true := by
  have ky : env.kindOf y = some .local := hy
  have hb : env.blockKind = .function := by unfold Env.blockKind; rw [hk]; rfl
  unfold swapsWith
  simp only [hb, ky, ha, Expr.pos, hl]
  rfl
theorem ps_setDc {X : Cx} {i : Nat} {y : Str} {py : Pos} {kx vx tg iter : Expr} {ifs : List Expr} {scope : Scope} {own : List (Str × Nat)} {pos spos : Pos} {wi : TI} {g : TG} {tt : TT} {tk te : TE} (hc : X.calm = true) (hN : X.N.Nodup) (hy : X.N[i]? = some y) (hyl : X.env.scope.names.lookup y = some .local)
    (hsw : swapsWith (.DictComp kx vx [⟨tg, iter, ifs, 0⟩] scope pos) (some (.Name y py)) spos.line X.env = pure true) (hi : PI X tg iter wi) (ok : BlkOk X.N X.env.scope scope own)
    (hg : ∀ (s : Shared) (H : Hp) (C : Addr) (cl : List (Str × Addr)) (fp : List Addr), PG (X.blk s H scope (compEnvC scope cl C X.env) fp) tg g) (ht : ∀ (s : Shared) (H : Hp) (C : Addr) (cl : List (Str × Addr)) (fp : List Addr), PTs (X.blk s H scope (compEnvC scope cl C X.env) fp) ifs tt)
    (hk : ∀ (s : Shared) (H : Hp) (C : Addr) (cl : List (Str × Addr)) (fp : List Addr), PE (X.blk s H scope (compEnvC scope cl C X.env) fp) kx tk)
    (he : ∀ (s : Shared) (H : Hp) (C : Addr) (cl : List (Str × Addr)) (fp : List Addr), PE (X.blk s H scope (compEnvC scope cl C X.env) fp) vx te) (hs : ∀ x, foldedSetIterable iter X.env x = pure x := by intro _; rfl) :
    PS X (.Assign [.Name y py] (.DictComp kx vx [⟨tg, iter, ifs, 0⟩] scope pos) spos) (tAsg (tDc wi g tt tk te (own.map (·.2))) (gName i)) := by
  refine ⟨fun pins s σ H D I h => ?_⟩
  rw [exec_Assign_Name_used _ _ _ _ hsw]
  refine wpAny_bind (wpAny_standAt (wpAny_bind ?_))
  show wpAny _ X.A (do let _ ← comprehension (.DictComp kx vx [⟨tg, iter, ifs, 0⟩] scope pos) scope X.env (firstIterPos [⟨tg, iter, ifs, 0⟩] pos) newDict false (eval iter X.env) (some (assign (.Name y py) X.env))) _ _ s
  have h : tDc wi g tt tk te (own.map (·.2)) σ H (fun x H1 => gName i x σ H1 D.nx) := h
  refine wpAny_bind (thn (dc_core (Qf := fun _ s' => SP X pins D .next s') hc hN I hi ok hg ht hk he hs h fun L C s' m H' I' q hn f => ?_) fun _ s' hq => wpAny_pure (wpAny_pure hq))
  show wpAny _ _ (assign (.Name y py) X.env (.ref L)) _ _ _
  refine wpAny_assign_Name (store_ok2 (v := V.ref L) I' hN hy (.inl hyl) rfl (fun s2 I2 ⟨a, sb, ha⟩ => ?_) (.inr hyl))
  obtain ⟨f0, f1, f2, f3, f4, f5⟩ := f
  have haC : C ≠ a := by
    rcases ha with z | z
    · rw [z]; exact f1
    · exact fun e => f4 y a z e.symm
  refine ⟨m, hn.sameBut sb haC, fun h3 sb3 => ?_⟩
  exact ⟨_, H', I2.turned (t' := s2.toks) (fun b o hb e => (sb3.2 b hb).trans e) f0 f1 f3 f4 f5, q⟩
section
variable {J : It} {n : Nat} {G : Hp → Prop} {Y : Nat → Hp → V → Hp → Prop} {g : TG} {tt : TT} {tk tv : TE} {vs : List Nat} {σ : L2.St} {H1 : Hp} {D : Addr} {Qd : Hp → Prop}
/-- the dict made so far: new keys in order -/
def DP (k : Nat → Key) (f : Nat → V) (D : Addr) (H1 : Hp) (i : Nat) (H : Hp) : Prop := Same H1 H ∧ H D = some (.dK ((List.range i).map fun j => (k j, f j)))
theorem dc_map (w : Walk J n G Y) (k : Nat → Key) (f : Nat → V) (hk : ∀ i j, i < j → j < n → k i ≠ k j) (hn : n ≤ 1000000) (hD : H1 D = none) (hG : ∀ H, Same H1 H → G H)
    (hs : ∀ i x H H', i < n → Same H1 H → Y i H x H' → (∀ H5, Same H H5 → ∃ kvs k', kV (k i) = kV k' ∧ H5 D = some (.dK kvs) ∧ kvs.length < sizeLine ∧ DP k f D H1 (i + 1) (upd H5 D (.dK (putK kvs k' (f i))))) →
      g x (wipe σ vs) H' fun σ2 H2 => wipe σ2 vs = wipe σ vs ∧ tt σ2 H2 fun b H3 =>
        if b = true then tk σ2 H3 fun y H4 => tv σ2 H4 fun z H5 => ∃ kvs k', y = kV k' ∧ H5 D = some (.dK kvs) ∧ kvs.length < sizeLine ∧ DP k f D H1 (i + 1) (upd H5 D (.dK (putK kvs k' z))) else DP k f D H1 (i + 1) H3)
    (hd : ∀ H, Same H1 H → H D = some (.dK ((List.range n).map fun j => (k j, f j))) → Qd H) :
    ∃ W : Nat → Nat → Hp → Prop, (∃ m, W 0 m (upd H1 D (.dK []))) ∧ ∀ i m H, W i m H →
      (J.stop i H ∧ Qd H) ∨ (J.go i H ∧ ∃ Nx : Hp → Prop, (∀ H', Nx H' → ∃ m', m' < m ∧ W (i + 1) m' H') ∧ ∀ x H', J.yld i H x H' → g x (wipe σ vs) H' fun σ2 H2 => wipe σ2 vs = wipe σ vs ∧ tt σ2 H2 fun b H3 =>
        if b = true then tk σ2 H3 fun y H4 => tv σ2 H4 fun z H5 => ∃ kvs k', y = kV k' ∧ H5 D = some (.dK kvs) ∧ kvs.length < sizeLine ∧ Nx (upd H5 D (.dK (putK kvs k' z))) else Nx H3) := by
  refine ⟨fun i m H => m = n - i ∧ i ≤ n ∧ DP k f D H1 i H, ⟨n, by simp, Nat.zero_le _, snew hD, upd_same⟩, ?_⟩
  rintro i m H ⟨rfl, hi, p⟩
  have q := hG H p.1
  by_cases hlt : i < n
  · refine .inr ⟨w.goes i H hlt q, DP k f D H1 (i + 1), fun H' p' => ⟨n - (i + 1), by omega, rfl, hlt, p'⟩, fun x H' y => ?_⟩
    refine hs i x H H' hlt p.1 (w.yields i H x H' hlt q y) fun H5 s5 => ?_
    refine ⟨_, k i, rfl, s5 _ _ p.2, ?_, sput (p.1.trans s5) hD, ?_⟩
    · rw [List.length_map, List.length_range]
      exact Nat.lt_of_lt_of_le hlt (Nat.le_of_lt (Nat.lt_of_le_of_lt hn line_big))
    · have hnone : valV ((List.range i).map fun j => (k j, f j)) (k i) = none := by
        have key : ∀ l : List Nat, (∀ j ∈ l, j < i) → valV (l.map fun j => (k j, f j)) (k i) = none := by
          intro l
          induction l with
          | nil => intro _; rfl
          | cons j l ih =>
            intro hl
            rw [List.map_cons, valV_neg (p := (k j, f j)) (hk j i (hl j List.mem_cons_self) hlt)]
            exact ih fun a ha => hl a (List.mem_cons_of_mem _ ha)
        exact key _ fun j hj => List.mem_range.mp hj
      rw [upd_same, putK_new _ hnone, List.range_succ, List.map_append] <;> rfl
  · have e : i = n := by omega
    subst e
    exact .inl ⟨w.stops H q, hd H p.1 p.2⟩
end
/-! ### the dict of what is known -/
abbrev KnL : Type := List (Int × Addr × Tr)
def rowK (p : Int × Addr × Tr) : Key × V := (Sum.inl p.1, V.ref p.2.1)
structure KnAt (T : Addr) (H : Hp) (d : Addr) (kn : KnL) : Prop where
  at_ : H d = some (.dK (kn.map rowK))
  tr : ∀ p ∈ kn, TrAt T H p.2.1 p.2.2
  nd : (kn.map (·.1)).Nodup
  few : kn.length < 64
theorem KnAt.same {T : Addr} {H H' : Hp} {d : Addr} {kn : KnL} (h : KnAt T H d kn) (s : Same H H') : KnAt T H' d kn := ⟨s _ _ h.at_, fun p hp => (h.tr p hp).same s, h.nd, h.few⟩
theorem nodup_key {α : Type} {kn : List (Int × α)} (nd : (kn.map (·.1)).Nodup) {e : Int} {p q : α} (h1 : (e, p) ∈ kn) (h2 : (e, q) ∈ kn) : p = q := by
  induction kn with
  | nil => cases h1
  | cons x l ih =>
    rw [List.map_cons, List.nodup_cons] at nd
    rcases List.mem_cons.mp h1 with z1 | z1 <;> rcases List.mem_cons.mp h2 with z2 | z2
    · rw [← z1] at z2; exact (congrArg Prod.snd z2).symm
    · exact absurd (List.mem_map.mpr ⟨_, z2, by rw [← z1]⟩) nd.1
    · exact absurd (List.mem_map.mpr ⟨_, z1, by rw [← z2]⟩) nd.1
    · exact ih nd.2 z1 z2
theorem val_in {α : Type} (f : Int × α → V) {kn : List (Int × α)} (nd : (kn.map (·.1)).Nodup) {e : Int} {p : α} (h : (e, p) ∈ kn) : valV (kn.map fun q => ((Sum.inl q.1 : Key), f q)) (Sum.inl e) = some (f (e, p)) := by
  induction kn with
  | nil => cases h
  | cons x l ih =>
    rw [List.map_cons, List.nodup_cons] at nd
    rw [List.map_cons]
    rcases List.mem_cons.mp h with z | z
    · rw [← z, valV_pos (p := ((Sum.inl e : Key), f (e, p))) rfl]
    · rw [valV_neg (p := ((Sum.inl x.1 : Key), f x)) (fun c => nd.1 (by injection c with c; rw [c]; exact List.mem_map.mpr ⟨_, z, rfl⟩))]
      exact ih nd.2 z
theorem val_out {α : Type} (f : Int × α → V) : ∀ {kn : List (Int × α)} {e : Int}, e ∉ kn.map (·.1) → valV (kn.map fun q => ((Sum.inl q.1 : Key), f q)) (Sum.inl e) = none
  | [], _, _ => rfl
  | x :: l, e, h => by
    rw [List.map_cons, List.mem_cons, not_or] at h
    rw [List.map_cons, valV_neg (p := ((Sum.inl x.1 : Key), f x)) (fun c => h.1 (by injection c with c; exact c.symm))]
    exact val_out f h.2
theorem KnAt.get {T : Addr} {H : Hp} {d : Addr} {kn : KnL} (h : KnAt T H d kn) {e : Int} {a : Addr} {t : Tr} (hm : (e, a, t) ∈ kn) : DGet H d (.int e) (some (.ref a)) := by
  have q := DGet.k (k := Sum.inl e) h.at_
  have v := val_in (fun q => V.ref q.2.1) h.nd hm
  have e1 : valV (kn.map rowK) (Sum.inl e) = some (V.ref a) := v
  rw [e1] at q
  exact q
theorem KnAt.no {T : Addr} {H : Hp} {d : Addr} {kn : KnL} (h : KnAt T H d kn) {e : Int} (hm : e ∉ kn.map (·.1)) : DGet H d (.int e) none := by
  have q := DGet.k (k := Sum.inl e) h.at_
  have v := val_out (fun q : Int × Addr × Tr => V.ref q.2.1) hm
  have e1 : valV (kn.map rowK) (Sum.inl e) = none := v
  rw [e1] at q
  exact q
theorem KnAt.keys {T : Addr} {H : Hp} {d : Addr} {kn : KnL} (h : KnAt T H d kn) : (kn.map rowK).map (·.1) = (kn.map (·.1)).map Sum.inl := by
  rw [List.map_map, List.map_map]; rfl
/-- ordered keys, once each -/
theorem sorted_lt {ys ks : List Int} (p : ys.Perm ks) (s : ys.Pairwise (· ≤ ·)) (nd : ks.Nodup) : ys.Pairwise (· < ·) := L2.lt_of_le_nodup ys s (p.nodup_iff.mpr nd)
/-- the begins -/
def Begin (kn : KnL) (ss : List Int) (e : Int) : Prop := ∃ (m c : Int) (a : Addr) (t : Tr), m ∈ ss ∧ (∀ y ∈ ss, m ≤ y) ∧ (e, a, t) ∈ kn ∧ t.count = some c ∧ m < c
/-- what is reached from the begins -/
inductive Reach (kn : KnL) (B : Int → Prop) : Int → Prop
  | base {e : Int} : B e → Reach kn B e
  | step {e e' : Int} {a a' : Addr} {t t' : Tr} : Reach kn B e → (e, a, t) ∈ kn → (e', a', t') ∈ kn → tied t t' = true → Reach kn B e'
def spBegins (T : Addr) : Sp := fun vs H Q _ => ∃ (d sl : Addr) (kn : KnL) (ss : List Int), vs = [.ref d, .ref sl] ∧ KnAt T H d kn ∧ H sl = some (.lst (ss.map V.int)) ∧ ss.length ≤ 1000 ∧
  ∀ (p : Addr) (H' : Hp) (bs : List Int), Same H H' → H' p = some (.lst (bs.map V.int)) → bs.Nodup → (∀ e, e ∈ bs ↔ Begin kn ss e) → Q (.ref p) H'
theorem scBegins : FnScope ["traces", "snapshots", "least", "wrote", "entry"] ["traces", "snapshots"] (defScope sBegins) := ⟨rfl, rfl, rfl, by decide +kernel, rfl, by decide +kernel, by decide +kernel⟩
/-- the count of an entry -/
def cnt (kn : KnL) (e : Int) : Option Int := match kn.find? (fun p => decide (p.1 = e)) with
  | some p => p.2.2.count
  | none => none
theorem cnt_in {kn : KnL} (nd : (kn.map (·.1)).Nodup) {e : Int} {a : Addr} {t : Tr} (h : (e, a, t) ∈ kn) : cnt kn e = t.count := by
  unfold cnt
  cases hf : kn.find? (fun p => decide (p.1 = e)) with
  | none =>
    have := List.find?_eq_none.mp hf _ h
    simp at this
  | some p =>
    have h1 := List.mem_of_find?_eq_some hf
    have h2 : p.1 = e := by simpa using List.find?_some hf
    obtain ⟨e', q⟩ := p
    simp only at h2
    subst h2
    have := nodup_key nd h1 h
    rw [this]
theorem in_keys {kn : KnL} {e : Int} (h : e ∈ kn.map (·.1)) : ∃ a t, (e, a, t) ∈ kn := by
  obtain ⟨p, hp, rfl⟩ := List.mem_map.mp h
  exact ⟨p.2.1, p.2.2, hp⟩
section
variable {P : Program} {w : World} {K : PySem.W.Frag} {mg : Str → Option Value} {base : Heap}
theorem ok_begins {f T : Addr} {fd : FuncData} (F : Fun K "begins_of" "begins_of" sBegins f fd) (B : Bi mg) (TT : TrTx K T) : FnOk P w K mg base CX0 1 f fd ["traces", "snapshots"] (spBegins T) := by
  refine F.ok scBegins (fun vs H Q E h => ?_) (fun cdv A outer s H vs Q E hr h => ?_)
  · obtain ⟨d, sl, kn, ss, rfl, _⟩ := h
    rfl
  · obtain ⟨d, sl, kn, ss, rfl, hk, hs, hl, k⟩ := h
    refine ⟨_, pss_cons (ps_if (pt_cmpR op_eq (pe_callB call_len (by rfl) B.len (by decide +kernel) (pa_cons (pv 1) pa_nil)) pe_int (nomark _)) (pss_one (ps_ret (pe_lst pa_nil))) pss_nil)
      (pss_cons (ps_set (i := 2) scBegins.nd rfl (Or.inr rfl) (pe_callB (cr_min rfl) (by rfl) B.min (by decide +kernel) (pa_cons (pv 1) pa_nil)))
      (pss_cons (ps_setLc (i := 3) (own := [("entry", 4)]) (g := gName 4) rfl scBegins.nd rfl rfl (sw_true rfl rfl rfl (by decide +kernel)) (pi_list (pe_callB (call_sortedDI rfl) (by rfl) B.sorted (by decide +kernel) (pa_cons (pv 0) pa_nil)))
          (blkOk_by (own := [("entry", 4)]) (N := ["traces", "snapshots", "least", "wrote", "entry"]) (sc := defScope sBegins) (by decide +kernel))
          (fun _ _ _ _ _ => pg_name (i := 4) scBegins.nd rfl (Or.inl rfl)) (fun _ _ _ _ _ => pts_one (pt_cmpR op_notN (pe_fldK (K := K) rfl (pe_dget (hu_of hr) (pv 0) (pv 4) (fun _ _ => rfl)) rfl) pe_non (nomark _))) (fun _ _ _ _ _ => pv 4))
      (pss_one (ps_ret (pe_lc (own := [("entry", 4)]) (g := gName 4) rfl scBegins.nd (pi_list (pv 3)) (blkOk_by (own := [("entry", 4)]) (N := ["traces", "snapshots", "least", "wrote", "entry"]) (sc := defScope sBegins) (by decide +kernel))
          (fun _ _ _ _ _ => pg_name (i := 4) scBegins.nd rfl (Or.inl rfl)) (fun _ _ _ _ _ => pts_one (pt_cmpR op_gt (pe_fldK (K := K) rfl (pe_dget (hu_of hr) (pv 0) (pv 4) (fun _ _ => rfl)) rfl) (pv 2) (nomark _))) (fun _ _ _ _ _ => pv 4)))))), ?_⟩
    refine ⟨_, rfl, _, ss.length, rfl, .inl ⟨_, SqL.of hs, by rw [List.length_map]⟩, rfl, _, rfl, ?_⟩
    by_cases e0 : ss.length = 0
    · have e1 : decide (V.int ((ss.length : Nat) : Int) = V.int 0) = true := by rw [e0]; rfl
      rw [e1]
      have e2 : ss = [] := List.length_eq_zero_iff.mp e0
      subst e2
      refine iteT ⟨by show 0 ≤ sizeLine; exact Nat.zero_le _, fun p hp => ?_⟩
      refine k p _ [] (snew hp) upd_same List.nodup_nil fun e => ⟨fun h => (by cases h), fun ⟨m, c, a, t, h, _⟩ => (by cases h)⟩
    · have e1 : decide (V.int ((ss.length : Nat) : Int) = V.int 0) = false := by
        refine decide_eq_false fun h => ?_
        injection h with h
        omega
      rw [e1]
      refine iteF ?_
      refine ⟨_, rfl, sl, ss, rfl, SqL.of hs, by omega, fun m hm hmin => ?_⟩
      refine ⟨_, rfl, d, _, kn.map (·.1), rfl, .inl hk.at_, hk.keys, by rw [List.length_map]; exact hk.few, fun ys p hp hs2 hpn => ?_⟩
      have hlt := sorted_lt hp hs2 hk.nd
      have sp := snew (o := .lst (ys.map V.int)) hpn
      refine ⟨p, rfl, ⟨_, SqL.of upd_same⟩, fun D hD => ?_⟩
      have hyl : ys.length = kn.length := by rw [hp.length_eq, List.length_map]
      have few := hk.few
      refine lc_filt (walk_list (xs := ys.map V.int)) (fun i => (cnt kn (ys.getD i 0)).isSome) (fun i => .int (ys.getD i 0)) (by rw [List.length_map]; omega) hD (fun H3 h => SqL.of (h _ _ upd_same)) (fun i x H3 H4 hi s3 y k1 k2 => ?_) fun H3 s3 hlD => ?_
      · obtain ⟨rfl, hx⟩ := y
        obtain ⟨rfl, hm'⟩ := at_map (0 : Int) V.int hx
        obtain ⟨a, t, hat⟩ := in_keys (hp.mem_iff.mp hm')
        have hk3 := hk.same (sp.trans s3)
        have ht3 := hk3.tr _ hat
        obtain ⟨dx, ka, ra, wa, xs, g1, _⟩ := id ht3
        refine ⟨rfl, _, rfl, _, rfl, d, _, rfl, hk3.get hat, a, T, dx, _, _, rfl, g1, TT.cl, TT.n2, rfl, rfl, _, rfl, ?_⟩
        have ec : (!decide (cV t.count = V.non)) = (cnt kn (ys.getD i 0)).isSome := by
          rw [cnt_in hk.nd hat]
          cases t.count <;> rfl
        rw [ec]
        cases e : (cnt kn (ys.getD i 0)).isSome with
        | true => exact iteT ⟨_, rfl, k1 e _ (Same.refl _)⟩
        | false => exact iteF (k2 e _ (Same.refl _))
      · rw [List.length_map, rng_filt (0 : Int) (fun z => (cnt kn z).isSome) V.int ys] at hlD
        refine ⟨_, rfl, D, rfl, ⟨_, SqL.of hlD⟩, fun D2 hD2 => ?_⟩
        have hsub : ∀ e, e ∈ ys.filter (fun z => (cnt kn z).isSome) → e ∈ kn.map (·.1) ∧ (cnt kn e).isSome = true := fun e he => by
          rw [List.mem_filter] at he
          exact ⟨hp.mem_iff.mp he.1, he.2⟩
        have s13 := sp.trans s3
        refine lc_filt (walk_list (xs := (ys.filter (fun z => (cnt kn z).isSome)).map V.int)) (fun i => decide (m < (cnt kn ((ys.filter (fun z => (cnt kn z).isSome)).getD i 0)).getD 0)) (fun i => .int ((ys.filter (fun z => (cnt kn z).isSome)).getD i 0))
          (by rw [List.length_map]; have := List.length_filter_le (fun z => (cnt kn z).isSome) ys; omega) hD2 (fun H4 h => SqL.of (h _ _ hlD)) (fun i x H4 H5 hi s4 y k1 k2 => ?_) fun H4 s4 hlD2 => ?_
        · obtain ⟨rfl, hx⟩ := y
          obtain ⟨rfl, hm'⟩ := at_map (0 : Int) V.int hx
          obtain ⟨h1, h2⟩ := hsub _ hm'
          obtain ⟨a, t, hat⟩ := in_keys h1
          have hk3 := hk.same (s13.trans s4)
          have ht3 := hk3.tr _ hat
          obtain ⟨dx, ka, ra, wa, xs, g1, _⟩ := id ht3
          have ec := cnt_in hk.nd hat
          rw [ec] at h2 k1 k2
          cases ect : t.count with
          | none => rw [ect] at h2; cases h2
          | some c =>
            rw [ect] at g1 k1 k2
            refine ⟨rfl, _, rfl, _, rfl, d, _, rfl, hk3.get hat, a, T, dx, _, _, rfl, g1, TT.cl, TT.n2, rfl, _, rfl, _, _, rfl, rfl, decide (m < c), rfl, ?_⟩
            cases e : decide (m < c) with
            | true => exact iteT ⟨_, rfl, k1 e _ (Same.refl _)⟩
            | false => exact iteF (k2 e _ (Same.refl _))
        · rw [List.length_map, rng_filt (0 : Int) (fun z => decide (m < (cnt kn z).getD 0)) V.int (ys.filter (fun z => (cnt kn z).isSome))] at hlD2
          have ndy : ys.Nodup := hp.nodup_iff.mpr hk.nd
          refine k D2 H4 _ (s13.trans s4) hlD2 ((ndy.sublist List.filter_sublist).sublist List.filter_sublist) fun e => ?_
          rw [List.mem_filter, List.mem_filter, hp.mem_iff, decide_eq_true_eq]
          constructor
          · rintro ⟨⟨h1, h2⟩, h3⟩
            obtain ⟨a, t, hat⟩ := in_keys h1
            rw [cnt_in hk.nd hat] at h2 h3
            cases ect : t.count with
            | none => rw [ect] at h2; cases h2
            | some c =>
              rw [ect] at h3
              exact ⟨m, c, a, t, hm, hmin, hat, ect, h3⟩
          · rintro ⟨m', c, a, t, hm', hmin', hat, ect, h3⟩
            have em : m' = m := Int.le_antisymm (hmin' m hm) (hmin m' hm')
            subst em
            rw [cnt_in hk.nd hat, ect]
            exact ⟨⟨List.mem_map.mpr ⟨_, hat, rfl⟩, rfl⟩, h3⟩
end
end K58

namespace K58
open PySem L2
theorem nd_len {α : Type} [DecidableEq α] : ∀ (l D : List α), l.Nodup → (∀ x ∈ l, x ∈ D) → l.length ≤ D.length
  | [], _, _, _ => Nat.zero_le _
  | x :: l, D, hn, hs => by
    obtain ⟨h1, h2⟩ := List.nodup_cons.mp hn
    have hx : x ∈ D := hs x List.mem_cons_self
    have ih := nd_len l (D.erase x) h2 fun y hy => by
      have hne : y ≠ x := fun e => h1 (e ▸ hy)
      exact (List.mem_erase_of_ne hne).2 (hs y (List.mem_cons_of_mem _ hy))
    have e := List.length_erase_of_mem hx
    have hp : 0 < D.length := List.length_pos_of_mem hx
    rw [List.length_cons]
    omega
abbrev FdL : Type := List (Int × V)
def rowF (q : Int × V) : Key × V := (Sum.inl q.1, q.2)
theorem fd_no {H : Hp} {a : Addr} {F : FdL} (h : H a = some (.dK (F.map rowF))) {e : Int} (hm : e ∉ F.map (·.1)) : DGet H a (.int e) none := by
  have q := DGet.k (k := Sum.inl e) h
  have v := val_out (fun q : Int × V => q.2) hm
  have e1 : valV (F.map rowF) (Sum.inl e) = none := v
  rw [e1] at q
  exact q
theorem fd_get {H : Hp} {a : Addr} {F : FdL} (h : H a = some (.dK (F.map rowF))) (nd : (F.map (·.1)).Nodup) {e : Int} {v : V} (hm : (e, v) ∈ F) : DGet H a (.int e) (some v) := by
  have q := DGet.k (k := Sum.inl e) h
  have e1 : valV (F.map rowF) (Sum.inl e) = some v := val_in (fun q : Int × V => q.2) nd hm
  rw [e1] at q
  exact q
theorem fd_put {F : FdL} {e : Int} {v : V} (hm : e ∉ F.map (·.1)) : putK (F.map rowF) (Sum.inl e) v = (F ++ [(e, v)]).map rowF := by
  have e1 : valV (F.map rowF) (Sum.inl e) = none := val_out (fun q : Int × V => q.2) hm
  rw [putK_new v e1, List.map_append]; rfl
theorem snoc_nd {F : FdL} {e : Int} {v : V} (nd : (F.map (·.1)).Nodup) (hm : e ∉ F.map (·.1)) : ((F ++ [(e, v)]).map (·.1)).Nodup := by
  rw [List.map_append]
  refine List.nodup_append.mpr ⟨nd, by simp, fun a ha b hb => ?_⟩
  rw [List.map_singleton, List.mem_singleton] at hb
  rw [hb]
  exact fun z => hm (by have z2 : a = e := z; rw [← z2]; exact ha)
theorem seq0 (n : Nat) : seqIndex? 0 (n + 1) = some 0 := by
  unfold seqIndex?
  simp
  try omega
theorem in_snoc {F : FdL} {e x : Int} {v : V} : x ∈ (F ++ [(e, v)]).map (·.1) ↔ x ∈ F.map (·.1) ∨ x = e := by
  rw [List.map_append, List.mem_append, List.map_singleton, List.mem_singleton]
def spWays (T : Addr) : Sp := fun vs H Q _ => ∃ (d b : Addr) (kn : KnL) (bs : List Int), vs = [.ref d, .ref b] ∧ KnAt T H d kn ∧ H b = some (.lst (bs.map V.int)) ∧ bs.Nodup ∧ (∀ e ∈ bs, e ∈ kn.map (·.1)) ∧
  ∀ (p : Addr) (H' : Hp) (F : FdL), Same H H' → H' p = some (.dK (F.map rowF)) → (F.map (·.1)).Nodup → (∀ e, e ∈ F.map (·.1) ↔ Reach kn (fun e => e ∈ bs) e) → F.length ≤ kn.length → Q (.ref p) H'
theorem scWays : FnScope ["traces", "begins", "found", "waiting", "here", "other", "entry"] ["traces", "begins"] (defScope sWays) := ⟨rfl, rfl, rfl, by decide +kernel, rfl, by decide +kernel, by decide +kernel⟩
/-- what holds while entries are found -/
structure FInv (kn : KnL) (bs : List Int) (F : FdL) (Wt : List Int) (open_ : Int → Prop) : Prop where
  nd : (F.map (·.1)).Nodup
  wnd : Wt.Nodup
  reach : ∀ e ∈ F.map (·.1), e ∈ kn.map (·.1) ∧ Reach kn (fun e => e ∈ bs) e
  sub : ∀ e ∈ Wt, e ∈ F.map (·.1)
  bas : ∀ e ∈ bs, e ∈ F.map (·.1)
  clo : ∀ e ∈ F.map (·.1), e ∉ Wt → ¬ open_ e → ∀ a t e' a' t', (e, a, t) ∈ kn → (e', a', t') ∈ kn → tied t t' = true → e' ∈ F.map (·.1)
theorem FInv.len {kn : KnL} {bs : List Int} {F : FdL} {Wt : List Int} {o : Int → Prop} (h : FInv kn bs F Wt o) : F.length ≤ kn.length ∧ Wt.length ≤ F.length := by
  have h1 := nd_len (F.map (·.1)) (kn.map (·.1)) h.nd fun e he => (h.reach e he).1
  have h2 := nd_len Wt (F.map (·.1)) h.wnd h.sub
  rw [List.length_map, List.length_map] at h1
  rw [List.length_map] at h2
  exact ⟨h1, h2⟩
theorem FInv.fin {kn : KnL} {bs : List Int} {F : FdL} (h : FInv kn bs F [] (fun _ => False)) : ∀ e, e ∈ F.map (·.1) ↔ Reach kn (fun e => e ∈ bs) e := by
  intro e
  refine ⟨fun he => (h.reach e he).2, fun he => ?_⟩
  induction he with
  | base hb => exact h.bas _ hb
  | step _ h1 h2 h3 ih => exact h.clo _ ih (by simp) (fun z => z) _ _ _ _ _ h1 h2 h3
theorem FInv.more {kn : KnL} {bs : List Int} {F : FdL} {Wt : List Int} {here other : Int} {a a' : Addr} {t t' : Tr} {v : V} (h : FInv kn bs F Wt (fun e => e = here)) (hn : other ∉ F.map (·.1)) (hh : here ∈ F.map (·.1)) (h1 : (here, a, t) ∈ kn) (h2 : (other, a', t') ∈ kn) (h3 : tied t t' = true) :
    FInv kn bs (F ++ [(other, v)]) (Wt ++ [other]) (fun e => e = here) where
  nd := snoc_nd h.nd hn
  wnd := by
    refine List.nodup_append.mpr ⟨h.wnd, by simp, fun x hx y hy => ?_⟩
    rw [List.mem_singleton] at hy
    rw [hy]
    exact fun z => hn (h.sub _ (z ▸ hx))
  reach := fun e he => by
    rcases in_snoc.mp he with z | z
    · exact h.reach e z
    · rw [z]
      exact ⟨List.mem_map.mpr ⟨_, h2, rfl⟩, .step (h.reach _ hh).2 h1 h2 h3⟩
  sub := fun e he => by
    rcases List.mem_append.mp he with z | z
    · exact in_snoc.mpr (.inl (h.sub e z))
    · rw [List.mem_singleton] at z
      exact in_snoc.mpr (.inr z)
  bas := fun e he => in_snoc.mpr (.inl (h.bas e he))
  clo := fun e he hw ho a t e' a' t' g1 g2 g3 => by
    rw [List.mem_append, not_or] at hw
    rcases in_snoc.mp he with z | z
    · exact in_snoc.mpr (.inl (h.clo e z hw.1 ho a t e' a' t' g1 g2 g3))
    · exact absurd (by rw [z]; exact List.mem_singleton.mpr rfl) hw.2
section
variable {P : Program} {w : World} {K : PySem.W.Frag} {mg : Str → Option Value} {base : Heap}
theorem ok_ways {f fT T : Addr} {fd fdT : FuncData} (F : Fun K "ways_from" "ways_from" sWays f fd) (B : Bi mg) (DT : Def P w K mg base CX0 4 "is_tied" fT fdT ["one", "other"] (spTied T)) : FnOk P w K mg base CX0 5 f fd ["traces", "begins"] (spWays T) := by
  refine F.ok scWays (fun vs H Q E h => ?_) (fun cdv A outer s H vs Q E hr h => ?_)
  · obtain ⟨d, b, kn, bs, rfl, _⟩ := h
    rfl
  · obtain ⟨d, b, kn, bs, rfl, hk, hb, hbn, hbk, k⟩ := h
    refine ⟨_, pss_cons (ps_setDc (i := 2) (own := [("entry", 6)]) (g := gName 6) rfl scWays.nd rfl rfl (sw_trueD rfl rfl rfl (by decide +kernel)) (pi_list (pv 1))
          (blkOk_by (own := [("entry", 6)]) (N := ["traces", "begins", "found", "waiting", "here", "other", "entry"]) (sc := defScope sWays) (by decide +kernel))
          (fun _ _ _ _ _ => pg_name (i := 6) scWays.nd rfl (Or.inl rfl)) (fun _ _ _ _ _ => pts_nil) (fun _ _ _ _ _ => pv 6) (fun _ _ _ _ _ => pe_non))
      (pss_cons (ps_set (i := 3) scWays.nd rfl (Or.inl rfl) (pe_callTy call_list_of (by rfl) B.list (by decide +kernel) (pa_cons (pv 1) pa_nil)))
      (pss_cons (ps_while PassesOwn.never (pt_cmpR op_gt (pe_callB call_len (by rfl) B.len (by decide +kernel) (pa_cons (pv 3) pa_nil)) pe_int (nomark _))
        (pss_cons (ps_set (i := 4) scWays.nd rfl (Or.inl rfl) (pe_bm PySem.F.plainAttrs_list PySem.F.slot_list_pop PySem.F.type_list_pop mt_popAt (pv 3) (pa_cons pe_int pa_nil)))
        (pss_one (ps_for PassesOwn.never rfl (pi_list (pe_callB (call_sortedDI rfl) (by rfl) B.sorted (by decide +kernel) (pa_cons (pv 0) pa_nil))) (pg_name (i := 5) scWays.nd rfl (Or.inl rfl))
          (pss_one (ps_if (PW.pt (pw_and (pt_cmp (pc_dnotin (hu_of hr) (pv 5) (pv 2))) (pw_and1 (pt_val (pe_call DT.ok hr (by rfl) DT.gl DT.kp DT.bd .nil pass0 (pa_cons (pe_dget (hu_of hr) (pv 0) (pv 4) (fun _ _ => rfl)) (pa_cons (pe_dget (hu_of hr) (pv 0) (pv 5) (fun _ _ => rfl)) pa_nil)))))))
            (pss_cons (ps_dput (hu_of hr) (pv 2) (pv 5) (pv 4) rfl) (pss_one (ps_expr (pe_bm PySem.F.plainAttrs_list PySem.F.slot_list_append PySem.F.type_list_append mt_append (pv 3) (pa_cons (pv 5) pa_nil))))) pss_nil))))))
      (pss_one (ps_ret (pv 2))))), ?_⟩
    have few := hk.few
    have hbl : bs.length ≤ kn.length := by
      have := nd_len bs (kn.map (·.1)) hbn hbk
      rw [List.length_map] at this
      exact this
    refine ⟨_, rfl, b, rfl, ⟨_, SqL.of hb⟩, fun fa hfa => ?_⟩
    refine dc_map (walk_list (xs := bs.map V.int)) (fun i => Sum.inl (bs.getD i 0)) (fun _ => .non) (fun i j hij hj => ?_) (by rw [List.length_map]; omega) hfa (fun H3 h => SqL.of (h _ _ hb)) (fun i x H3 H4 hi s3 y kk => ?_) fun H1 s1 hF => ?_
    · rw [List.length_map] at hj
      have hi : i < bs.length := Nat.lt_trans hij hj
      have e1 : bs.getD i 0 = bs[i] := by rw [List.getD_eq_getElem?_getD, List.getElem?_eq_getElem hi]; rfl
      have e2 : bs.getD j 0 = bs[j] := by rw [List.getD_eq_getElem?_getD, List.getElem?_eq_getElem hj]; rfl
      intro z
      injection z with z
      rw [e1, e2] at z
      exact List.pairwise_iff_getElem.mp hbn i j hi hj hij z
    · obtain ⟨rfl, hx⟩ := y
      obtain ⟨rfl, hm⟩ := at_map (0 : Int) V.int hx
      exact ⟨rfl, tyes ⟨_, rfl, kk _ (Same.refl _)⟩⟩
    · have eF : (List.range (bs.map V.int).length).map (fun j => ((Sum.inl (bs.getD j 0) : Key), V.non)) = (bs.map fun e => (e, V.non)).map rowF := by
        rw [List.length_map, rng_map (0 : Int) (fun e => ((Sum.inl e : Key), V.non)) bs, List.map_map]; rfl
      rw [eF] at hF
      have eK : (bs.map fun e => (e, V.non)).map (·.1) = bs := by rw [List.map_map]; exact List.map_id'' (fun _ => rfl) bs
      have hb1 := s1 _ _ hb
      refine ⟨_, rfl, b, _, rfl, .inl (SqL.of hb1), fun wa hwa => ?_⟩
      have nfw : fa ≠ wa := ne_of_none hF hwa
      have hwa0 : H wa = none := Same.free s1 hwa
      -- the while
      refine ⟨fun m σ' H' => ∃ (F : FdL) (Wt : List Int) (x4 x5 x6 : Option V), σ' = [some (.ref d), some (.ref b), some (.ref fa), some (.ref wa), x4, x5, x6] ∧ Same H H' ∧ H' fa = some (.dK (F.map rowF)) ∧ H' wa = some (.lst (Wt.map V.int)) ∧
        FInv kn bs F Wt (fun _ => False) ∧ m = kn.length - F.length + Wt.length, ⟨_, bs.map fun e => (e, V.non), bs, _, _, _, rfl, sput s1 hwa0, by rw [upd_ne nfw]; exact hF, upd_same, ⟨by rw [eK]; exact hbn, hbn, fun e he => by rw [eK] at he; exact ⟨hbk e he, .base he⟩, fun e he => by rw [eK]; exact he, fun e he => by rw [eK]; exact he, fun e he hw => by rw [eK] at he; exact absurd he hw⟩, rfl⟩, ?_⟩
      rintro m σ' H' ⟨F, Wt, x4, x5, x6, rfl, sH, hFa, hWa, I, hm⟩
      refine ⟨_, rfl, _, Wt.length, rfl, .inl ⟨_, SqL.of hWa, by rw [List.length_map]⟩, _, _, rfl, rfl, decide ((0 : Int) < Wt.length), rfl, ?_⟩
      cases Wt with
      | nil =>
        rw [show decide ((0 : Int) < (([] : List Int).length : Nat)) = false from rfl]
        refine iteF ⟨_, rfl, ?_⟩
        exact k fa H' F sH hFa I.nd I.fin I.len.1
      | cons here Wt =>
        rw [show decide ((0 : Int) < ((here :: Wt).length : Nat)) = true from decide_eq_true (by rw [List.length_cons]; omega)]
        refine iteT ⟨fun σ' H' => ∃ m', m' < m ∧ ∃ (F : FdL) (Wt : List Int) (x4 x5 x6 : Option V), σ' = [some (.ref d), some (.ref b), some (.ref fa), some (.ref wa), x4, x5, x6] ∧ Same H H' ∧ H' fa = some (.dK (F.map rowF)) ∧ H' wa = some (.lst (Wt.map V.int)) ∧
          FInv kn bs F Wt (fun _ => False) ∧ m' = kn.length - F.length + Wt.length, fun _ _ h => h, ?_⟩
        refine ⟨_, rfl, .inl ⟨rfl, _, SqL.of hWa⟩, wa, _, 0, 0, .int here, rfl, rfl, hWa, by decide, by decide, by rw [List.map_cons, List.length_cons]; exact seq0 _, rfl, ?_⟩
        have hWa2 : upd H' wa (.lst ((((here :: Wt).map V.int).eraseIdx 0))) wa = some (.lst (Wt.map V.int)) := upd_same
        have sH2 : Same H (upd H' wa (.lst ((((here :: Wt).map V.int).eraseIdx 0)))) := sput sH hwa0
        have hFa2 : upd H' wa (.lst ((((here :: Wt).map V.int).eraseIdx 0))) fa = some (.dK (F.map rowF)) := by rw [upd_ne nfw]; exact hFa
        generalize upd H' wa (.lst ((((here :: Wt).map V.int).eraseIdx 0))) = H2 at hWa2 sH2 hFa2 ⊢
        have hk2 := hk.same sH2
        refine ⟨_, rfl, d, _, kn.map (·.1), rfl, .inl hk2.at_, hk2.keys, by rw [List.length_map]; exact few, fun ys p hp hs2 hpn => ?_⟩
        have hhF : here ∈ F.map (·.1) := I.sub _ List.mem_cons_self
        obtain ⟨ah, th, hath⟩ := in_keys (I.reach _ hhF).1
        have hwn := List.nodup_cons.mp I.wnd
        have hp0 : H p = none := Same.free sH2 hpn
        have npf : p ≠ fa := fun z => by rw [z, hFa2] at hpn; cases hpn
        have npw : p ≠ wa := fun z => by rw [z, hWa2] at hpn; cases hpn
        refine ⟨p, rfl, ⟨_, SqL.of upd_same⟩, ?_⟩
        refine for_list (xs := ys.map V.int) (fun i σ'' H'' => ∃ (F : FdL) (Wt : List Int) (x5 x6 : Option V), σ'' = [some (.ref d), some (.ref b), some (.ref fa), some (.ref wa), some (.int here), x5, x6] ∧ Same H H'' ∧ H'' fa = some (.dK (F.map rowF)) ∧ H'' wa = some (.lst (Wt.map V.int)) ∧ H'' p = some (.lst (ys.map V.int)) ∧
          FInv kn bs F Wt (fun e => e = here) ∧ here ∈ F.map (·.1) ∧ (∀ j o a' t', j < i → ys[j]? = some o → (o, a', t') ∈ kn → tied th t' = true → o ∈ F.map (·.1)) ∧ kn.length - F.length + Wt.length < m) ?_ ?_ ?_ ?_
        · refine ⟨F, Wt, _, _, rfl, sput sH2 hp0, by rw [upd_ne npf.symm]; exact hFa2, by rw [upd_ne npw.symm]; exact hWa2, upd_same, ⟨I.nd, hwn.2, I.reach, fun e he => I.sub e (List.mem_cons_of_mem _ he), I.bas, fun e he hw ho => I.clo e he (fun z => ?_) (fun z => z)⟩, hhF, fun j o a' t' hj => absurd hj (Nat.not_lt_zero _), ?_⟩
          · rcases List.mem_cons.mp z with z | z
            · exact ho z
            · exact hw z
          · rw [hm, List.length_cons]; omega
        · rintro i σ'' H'' _ ⟨F, Wt, x5, x6, rfl, g1, g2, g3, g4, g5⟩
          exact SqL.of g4
        · rintro i x σ'' H'' hx ⟨F, Wt, x5, x6, rfl, g1, g2, g3, g4, g5, g6, g7, g8⟩
          obtain ⟨rfl, hmo⟩ := at_map (0 : Int) V.int hx
          have hyi : ys[i]? = some (ys.getD i 0) := by
            rw [List.getElem?_map] at hx
            cases e : ys[i]? with
            | none => rw [e] at hx; cases hx
            | some o => rw [List.getD_eq_getElem?_getD, e]; rfl
          generalize ys.getD i 0 = other at hyi hmo ⊢
          obtain ⟨ao, to, hato⟩ := in_keys (hp.mem_iff.mp hmo)
          have hk3 := hk.same g1
          -- other not in found
          by_cases hin : other ∈ F.map (·.1)
          · obtain ⟨v, hv⟩ : ∃ v, (other, v) ∈ F := by
              obtain ⟨q, hq, rfl⟩ := List.mem_map.mp hin
              exact ⟨q.2, hq⟩
            refine ⟨_, rfl, _, rfl, fa, some v, rfl, fd_get g2 g5.nd hv, _, rfl, iteF ?_⟩
            refine ⟨F, Wt, _, _, rfl, g1, g2, g3, g4, g5, g6, fun j o a' t' hj hyj h1 h2 => ?_, g8⟩
            rcases Nat.lt_succ_iff_lt_or_eq.mp hj with z | z
            · exact g7 j o a' t' z hyj h1 h2
            · subst z
              rw [hyi] at hyj
              rw [← Option.some.inj hyj]
              exact hin
          · refine ⟨_, rfl, _, rfl, fa, none, rfl, fd_no g2 hin, _, rfl, iteT ?_⟩
            refine ⟨_, rfl, _, rfl, d, _, rfl, hk3.get hath, _, rfl, _, rfl, d, _, rfl, hk3.get hato, ?_⟩
            refine ⟨ah, ao, th, to, rfl, hk3.tr _ hath, hk3.tr _ hato, fun H4 s4 => ?_⟩
            refine ⟨_, rfl, ?_⟩
            have f1 := g1.trans s4
            have f2 := s4 _ _ g2
            have f3 := s4 _ _ g3
            have f4 := s4 _ _ g4
            cases ht : tied th to with
            | false =>
              refine iteF ⟨F, Wt, _, _, rfl, f1, f2, f3, f4, g5, g6, fun j o a' t' hj hyj h1 h2 => ?_, g8⟩
              rcases Nat.lt_succ_iff_lt_or_eq.mp hj with z | z
              · exact g7 j o a' t' z hyj h1 h2
              · subst z
                rw [hyi] at hyj
                have := Option.some.inj hyj
                subst this
                have e2 := nodup_key hk.nd h1 hato
                rw [Prod.mk.injEq] at e2
                rw [e2.2, ht] at h2
                cases h2
            | true =>
              refine iteT ?_
              have hl := g5.len
              have hfn : H fa = none := hfa
              refine ⟨_, rfl, _, rfl, _, rfl, fa, _, rfl, DPut.k (k := Sum.inl other) f2 (by rw [List.length_map]; exact Nat.lt_trans (by omega : F.length < 100) (by decide)), ?_⟩
              rw [fd_put hin]
              refine ⟨_, rfl, .inl ⟨rfl, _, SqL.of (by rw [upd_ne nfw.symm]; exact f3)⟩, _, rfl, wa, _, _, rfl, rfl, by rw [upd_ne nfw.symm]; exact f3, by rw [List.length_map]; exact Nat.lt_trans (by omega : Wt.length < 100) (by decide), ?_⟩
              have I2 := g5.more (v := .int here) hin g6 hath hato ht
              have hl2 := I2.len
              rw [List.length_append, List.length_singleton] at hl2
              refine ⟨F ++ [(other, .int here)], Wt ++ [other], _, _, rfl, sput (sput f1 hfn) hwa0, by rw [upd_ne nfw]; exact upd_same, by rw [upd_same, List.map_append]; rfl, by rw [upd_ne npw, upd_ne npf]; exact f4, I2, in_snoc.mpr (.inl g6), fun j o a' t' hj hyj h1 h2 => ?_, ?_⟩
              · rcases Nat.lt_succ_iff_lt_or_eq.mp hj with z | z
                · exact in_snoc.mpr (.inl (g7 j o a' t' z hyj h1 h2))
                · subst z
                  rw [hyi] at hyj
                  exact in_snoc.mpr (.inr (Option.some.inj hyj).symm)
              · rw [List.length_append, List.length_singleton, List.length_append, List.length_singleton]
                omega
        · rintro σ'' H'' ⟨F, Wt, x5, x6, rfl, g1, g2, g3, g4, g5, g6, g7, g8⟩
          refine ⟨_, g8, F, Wt, _, _, _, rfl, g1, g2, g3, ⟨g5.nd, g5.wnd, g5.reach, g5.sub, g5.bas, fun e he hw _ a t e' a' t' h1 h2 h3 => ?_⟩, rfl⟩
          by_cases ehh : e = here
          · subst ehh
            have e2 := nodup_key hk.nd h1 hath
            rw [Prod.mk.injEq] at e2
            rw [e2.2] at h3
            have hm2 : e' ∈ ys := hp.mem_iff.mpr (List.mem_map.mpr ⟨_, h2, rfl⟩)
            obtain ⟨j, hj, ej⟩ := List.getElem_of_mem hm2
            exact g7 j e' a' t' (by rw [List.length_map]; exact hj) (by rw [List.getElem?_eq_getElem hj, ej]) h2 h3
          · exact g5.clo e he hw ehh a t e' a' t' h1 h2 h3
end
end K58

namespace K58
open PySem L2
theorem Reach.iff {kn : KnL} {B B' : Int → Prop} (h : ∀ e, B e ↔ B' e) {e : Int} : Reach kn B e ↔ Reach kn B' e := by
  constructor
  · intro r
    induction r with
    | base hb => exact .base ((h _).mp hb)
    | step _ h1 h2 h3 ih => exact .step ih h1 h2 h3
  · intro r
    induction r with
    | base hb => exact .base ((h _).mpr hb)
    | step _ h1 h2 h3 ih => exact .step ih h1 h2 h3
theorem Reach.key {kn : KnL} {B : Int → Prop} (h : ∀ e, B e → e ∈ kn.map (·.1)) {e : Int} (r : Reach kn B e) : e ∈ kn.map (·.1) := by
  cases r with
  | base hb => exact h _ hb
  | step _ _ h2 _ => exact List.mem_map.mpr ⟨_, h2, rfl⟩
theorem Begin.key {kn : KnL} {ss : List Int} {e : Int} (h : Begin kn ss e) : e ∈ kn.map (·.1) := by
  obtain ⟨m, c, a, t, _, _, hm, _⟩ := h
  exact List.mem_map.mpr ⟨_, hm, rfl⟩
def tr0 : Tr := ⟨0, none, [], [], []⟩
def adr (kn : KnL) (e : Int) : Addr × Tr := match kn.find? (fun p => decide (p.1 = e)) with
  | some p => p.2
  | none => (0, tr0)
theorem adr_in {kn : KnL} (nd : (kn.map (·.1)).Nodup) {e : Int} {q : Addr × Tr} (h : (e, q) ∈ kn) : adr kn e = q := by
  unfold adr
  cases hf : kn.find? (fun p => decide (p.1 = e)) with
  | none =>
    have := List.find?_eq_none.mp hf _ h
    simp at this
  | some p =>
    have h1 := List.mem_of_find?_eq_some hf
    have h2 : p.1 = e := by simpa using List.find?_some hf
    obtain ⟨e', q'⟩ := p
    simp only at h2
    subst h2
    exact nodup_key nd h1 h
def spKept (T : Addr) : Sp := fun vs H Q _ => ∃ (d sl : Addr) (kn : KnL) (ss : List Int), vs = [.ref d, .ref sl] ∧ KnAt T H d kn ∧ H sl = some (.lst (ss.map V.int)) ∧ ss.length ≤ 1000 ∧
  ∀ (p : Addr) (H' : Hp) (kn' : KnL), Same H H' → H p = none → KnAt T H' p kn' → (kn'.map (·.1)).Pairwise (· < ·) → (∀ q, q ∈ kn' ↔ q ∈ kn ∧ Reach kn (Begin kn ss) q.1) → Q (.ref p) H'
theorem scKept : FnScope ["traces", "snapshots", "found", "entry"] ["traces", "snapshots"] (defScope sKept) := ⟨rfl, rfl, rfl, by decide +kernel, rfl, by decide +kernel, by decide +kernel⟩
section
variable {P : Program} {w : World} {K : PySem.W.Frag} {mg : Str → Option Value} {base : Heap}
theorem ok_kept {f fW fB T : Addr} {fd fdW fdB : FuncData} (F : Fun K "kept_of" "kept_of" sKept f fd) (B : Bi mg) (DW : Def P w K mg base CX0 5 "ways_from" fW fdW ["traces", "begins"] (spWays T)) (DB : Def P w K mg base CX0 1 "begins_of" fB fdB ["traces", "snapshots"] (spBegins T)) :
    FnOk P w K mg base CX0 6 f fd ["traces", "snapshots"] (spKept T) := by
  refine F.ok scKept (fun vs H Q E h => ?_) (fun cdv A outer s H vs Q E hr h => ?_)
  · obtain ⟨d, sl, kn, ss, rfl, _⟩ := h
    rfl
  · obtain ⟨d, sl, kn, ss, rfl, hk, hs, hl, k⟩ := h
    refine ⟨_, pss_cons (ps_set (i := 2) scKept.nd rfl (Or.inl rfl) (pe_call DW.ok hr (by rfl) DW.gl DW.kp DW.bd .nil pass0 (pa_cons (pv 0) (pa_cons (pe_call DB.ok (hr.mono (by decide)) (by rfl) DB.gl DB.kp DB.bd .nil pass0 (pa_cons (pv 0) (pa_cons (pv 1) pa_nil))) pa_nil))))
      (pss_one (ps_ret (pe_dc (own := [("entry", 3)]) (g := gName 3) rfl scKept.nd (pi_list (pe_callB (call_sortedDI rfl) (by rfl) B.sorted (by decide +kernel) (pa_cons (pv 2) pa_nil)))
          (blkOk_by (own := [("entry", 3)]) (N := ["traces", "snapshots", "found", "entry"]) (sc := defScope sKept) (by decide +kernel))
          (fun _ _ _ _ _ => pg_name (i := 3) scKept.nd rfl (Or.inl rfl)) (fun _ _ _ _ _ => pts_nil) (fun _ _ _ _ _ => pv 3) (fun _ _ _ _ _ => pe_dget (hu_of hr) (pv 0) (pv 3) (fun _ _ => rfl))))), ?_⟩
    refine ⟨_, rfl, _, rfl, _, rfl, d, sl, kn, ss, rfl, hk, hs, hl, fun b H1 bs s1 hb hbn hbi => ?_⟩
    have hk1 := hk.same s1
    refine ⟨d, b, kn, bs, rfl, hk1, hb, hbn, fun e he => ((hbi e).mp he).key, fun fa H2 F s2 hF hFn hFr hFl => ?_⟩
    have few := hk.few
    refine ⟨_, rfl, fa, _, F.map (·.1), rfl, .inl hF, by rw [List.map_map, List.map_map]; rfl, by rw [List.length_map]; omega, fun ys p hp hs2 hpn => ?_⟩
    have hlt := sorted_lt hp hs2 hFn
    have hyl : ys.length = F.length := by rw [hp.length_eq, List.length_map]
    refine ⟨p, rfl, ⟨_, SqL.of upd_same⟩, fun D hD => ?_⟩
    have s12 := s1.trans s2
    have s13 := s12.trans (snew (o := .lst (ys.map V.int)) hpn)
    have hk3 := hk.same s13
    have hin : ∀ e ∈ ys, e ∈ kn.map (·.1) ∧ Reach kn (Begin kn ss) e := fun e he => by
      have r := (hFr e).mp (hp.mem_iff.mp he)
      have r2 := (Reach.iff hbi).mp r
      exact ⟨r2.key fun e h => h.key, r2⟩
    refine dc_map (walk_list (xs := ys.map V.int)) (fun i => Sum.inl (ys.getD i 0)) (fun i => .ref (adr kn (ys.getD i 0)).1) (fun i j hij hj => ?_) (by rw [List.length_map]; omega) hD (fun H3 h => SqL.of (h _ _ upd_same)) (fun i x H3 H4 hi s3 y kk => ?_) fun H3 s3 hD3 => ?_
    · rw [List.length_map] at hj
      have hi : i < ys.length := Nat.lt_trans hij hj
      have e1 : ys.getD i 0 = ys[i] := by rw [List.getD_eq_getElem?_getD, List.getElem?_eq_getElem hi]; rfl
      have e2 : ys.getD j 0 = ys[j] := by rw [List.getD_eq_getElem?_getD, List.getElem?_eq_getElem hj]; rfl
      intro z
      injection z with z
      rw [e1, e2] at z
      have := List.pairwise_iff_getElem.mp hlt i j hi hj hij
      omega
    · obtain ⟨rfl, hx⟩ := y
      obtain ⟨rfl, hm⟩ := at_map (0 : Int) V.int hx
      obtain ⟨a, t, hat⟩ := in_keys (hin _ hm).1
      refine ⟨rfl, tyes ⟨_, rfl, _, rfl, _, rfl, d, _, rfl, (hk3.same s3).get hat, ?_⟩⟩
      have kk2 := kk _ (Same.refl _)
      rw [adr_in hk.nd hat] at kk2
      exact kk2
    · have eD : (List.range (ys.map V.int).length).map (fun j => ((Sum.inl (ys.getD j 0) : Key), V.ref (adr kn (ys.getD j 0)).1)) = (ys.map fun e => (e, adr kn e)).map rowK := by
        rw [List.length_map, rng_map (0 : Int) (fun e => ((Sum.inl e : Key), V.ref (adr kn e).1)) ys, List.map_map]; rfl
      rw [eD] at hD3
      have eK : (ys.map fun e => (e, adr kn e)).map (·.1) = ys := by rw [List.map_map]; exact List.map_id'' (fun _ => rfl) ys
      have hmem : ∀ q, q ∈ ys.map (fun e => (e, adr kn e)) ↔ q ∈ kn ∧ Reach kn (Begin kn ss) q.1 := fun q => by
        constructor
        · intro hq
          obtain ⟨e, he, rfl⟩ := List.mem_map.mp hq
          obtain ⟨h1, h2⟩ := hin e he
          obtain ⟨a, t, hat⟩ := in_keys h1
          rw [adr_in hk.nd hat]
          exact ⟨hat, h2⟩
        · rintro ⟨h1, h2⟩
          have he : q.1 ∈ ys := hp.mem_iff.mpr ((hFr q.1).mpr ((Reach.iff hbi).mpr h2))
          refine List.mem_map.mpr ⟨q.1, he, ?_⟩
          obtain ⟨e, q2⟩ := q
          rw [adr_in hk.nd h1]
      refine k D H3 _ (s13.trans s3) (Same.free s13 hD) ⟨hD3, fun q hq => ?_, by rw [eK]; exact hlt.imp (fun h => by omega), by rw [List.length_map]; omega⟩ (by rw [eK]; exact hlt) hmem
      exact (hk3.same s3).tr _ ((hmem q).mp hq).1
end
end K58

namespace K58
open PySem L2
/-! ### the ring, as a plain function -/
def newsR (ys : List Int) (g : Int → Tr) (here : Tr) (seen : List Int) : List Int := ys.filter fun o => !seen.contains o && tied here (g o)
def hereR (g : Int → Tr) (trace : Tr) (row : List Int) : Tr := if row.length = 1 then trace else g (row.getLast?.getD 0)
def layerR (ys : List Int) (g : Int → Tr) (trace : Tr) : List (List Int) → List Int → List (List Int) → Sum (List Int) (List Int × List (List Int))
  | [], seen, later => .inr (seen, later)
  | row :: rs, seen, later => if (decide (1 < row.length) && tied (hereR g trace row) trace) = true then .inl row
    else layerR ys g trace rs (seen ++ newsR ys g (hereR g trace row) seen) (later ++ (newsR ys g (hereR g trace row) seen).map fun o => row ++ [o])
/-- a ring found, or on with the next layer -/
def ringOut (f : List (List Int) → List Int → Option (List Int)) : Sum (List Int) (List Int × List (List Int)) → Option (List Int)
  | .inl row => some row
  | .inr p => f p.2 p.1
def ringR (ys : List Int) (g : Int → Tr) (trace : Tr) : Nat → List (List Int) → List Int → Option (List Int)
  | 0, _, _ => none
  | n + 1, layer, seen => if layer = [] then none else ringOut (ringR ys g trace n) (layerR ys g trace layer seen [])
/-- a list ordered in two ways is one list -/
theorem perm_same {α : Type} {le lt : α → α → Prop} : ∀ {l1 l2 : List α}, l1.Perm l2 → l1.Pairwise le → l2.Pairwise lt → (∀ x ∈ l2, ∀ y ∈ l2, le x y → lt y x → False) → l1 = l2
  | l1, [], p, _, _, _ => p.eq_nil
  | [], x :: t, p, _, _, _ => absurd p.symm.eq_nil (by simp)
  | y :: s, x :: t, p, h1, h2, h3 => by
    obtain ⟨a1, a2⟩ := List.pairwise_cons.mp h1
    obtain ⟨b1, b2⟩ := List.pairwise_cons.mp h2
    have hy : y ∈ x :: t := p.mem_iff.mp List.mem_cons_self
    have hx : x ∈ y :: s := p.mem_iff.mpr List.mem_cons_self
    have e : y = x := by
      rcases List.mem_cons.mp hy with z | z
      · exact z
      · rcases List.mem_cons.mp hx with z2 | z2
        · exact z2.symm
        · exact absurd (h3 y hy x List.mem_cons_self (a1 x z2) (b1 y z)) (fun z => z)
    subst e
    rw [perm_same (List.Perm.cons_inv p) a2 b2 fun u hu v hv => h3 u (List.mem_cons_of_mem _ hu) v (List.mem_cons_of_mem _ hv)]
theorem sort_same {ys ks : List Int} (p : ys.Perm ks) (s : ys.Pairwise (· ≤ ·)) (k : ks.Pairwise (· < ·)) : ys = ks := perm_same p s k fun x _ y _ h1 h2 => by omega
abbrev BB : Int := 1000
theorem code_snoc (r : List Int) (o : Int) : TS.code BB (r ++ [o]) = TS.code BB r * BB + o := by
  induction r with
  | nil =>
    show o * BB ^ 0 + 0 = 0 * BB + o
    rw [Int.pow_zero]; omega
  | cons d r ih =>
    show d * BB ^ (r ++ [o]).length + TS.code BB (r ++ [o]) = (d * BB ^ r.length + TS.code BB r) * BB + o
    rw [ih, List.length_append, List.length_singleton, Int.pow_succ, Int.add_mul, Int.mul_assoc]
    omega
theorem code_up {r r' : List Int} {o o' : Int} (h : TS.code BB r' < TS.code BB r) (h1 : 0 ≤ o) (h2 : o' < BB) : TS.code BB (r' ++ [o']) < TS.code BB (r ++ [o]) := by
  rw [code_snoc, code_snoc]
  generalize TS.code BB r = x at h ⊢
  generalize TS.code BB r' = y at h ⊢
  have e : BB = 1000 := rfl
  rw [e] at h2 ⊢
  omega
abbrev LpL : Type := List (Addr × List Int)
def RowsIn (H : Hp) (lp : LpL) : Prop := ∀ p ∈ lp, H p.1 = some (.tup (p.2.map V.int))
/-- a row of a layer -/
structure RowW (ks : List Int) (d : Nat) (row : List Int) : Prop where
  len : row.length = d
  bd : TS.Bd BB row
  last : 1 < d → ∃ r o, row = r ++ [o] ∧ o ∈ ks
theorem rowW_snoc {ks : List Int} {d : Nat} {row : List Int} {o : Int} (h : RowW ks d row) (ho : o ∈ ks) (hb : 0 ≤ o ∧ o < BB) : RowW ks (d + 1) (row ++ [o]) where
  len := by rw [List.length_append, List.length_singleton, h.len]
  bd := fun m hm => by
    rcases List.mem_append.mp hm with z | z
    · exact h.bd m z
    · rw [List.mem_singleton.mp z]; exact hb
  last := fun _ => ⟨row, o, rfl, ho⟩
/-- sorted(xs) of tuples of ints, any one length -/
def rSortAny (K : PySem.W.Frag) : List V → Hp → VK → Prop := fun vs H Q => ∃ (d : Nat), 1 ≤ d ∧ rSortU K d BB vs H Q
theorem cr_sortAny {X : Cx} : CallR X (.builtin "sorted") (rSortAny X.K) := by
  intro pins s σ H vs us Q I r h
  obtain ⟨d, hd, h⟩ := h
  exact cr_sortT hd pins s σ H vs us Q I r h
def spRing (T : Addr) : Sp := fun vs H Q _ => ∃ (d ta : Addr) (e : Int) (kn : KnL) (t : Tr), vs = [.ref d, .int e, .ref ta] ∧ KnAt T H d kn ∧ (kn.map (·.1)).Pairwise (· < ·) ∧ TrAt T H ta t ∧ (0 ≤ e ∧ e < BB) ∧ (∀ k ∈ kn.map (·.1), 0 ≤ k ∧ k < BB) ∧
  (ringR (kn.map (·.1)) (fun k => (adr kn k).2) t (kn.length + 1) [[e]] [] = none → ∀ H', Same H H' → Q .non H') ∧
  (∀ row, ringR (kn.map (·.1)) (fun k => (adr kn k).2) t (kn.length + 1) [[e]] [] = some row → ∀ p H', Same H H' → H' p = some (.tup (row.map V.int)) → Q (.ref p) H')
theorem scRing : FnScope ["traces", "entry", "trace", "rows", "layer", "later", "row", "here", "other"] ["traces", "entry", "trace"] (defScope sRing) := ⟨rfl, rfl, rfl, by decide +kernel, rfl, by decide +kernel, by decide +kernel⟩
theorem ringR_nil (ys : List Int) (g : Int → Tr) (t : Tr) (n : Nat) (seen : List Int) : ringR ys g t n [] seen = none := by
  cases n with
  | zero => rfl
  | succ n => exact if_pos rfl
theorem refs_at {lp : LpL} {i : Nat} {x : V} (h : (lp.map fun p => V.ref p.1)[i]? = some x) : ∃ p, lp[i]? = some p ∧ x = .ref p.1 := by
  rw [List.getElem?_map] at h
  cases e : lp[i]? with
  | none => rw [e] at h; cases h
  | some p =>
    rw [e] at h
    exact ⟨p, rfl, (Option.some.inj h).symm⟩
theorem RowsIn.same {H H' : Hp} {lp : LpL} (h : RowsIn H lp) (s : Same H H') : RowsIn H' lp := fun p hp => s _ _ (h p hp)
abbrev UpC (lp : LpL) : Prop := lp.Pairwise fun p q => TS.code BB p.2 < TS.code BB q.2
/-- between two layers -/
def RI (H : Hp) (d : V) (e : Int) (ta rd : Addr) (N : Nat) (ys : List Int) (g : Int → Tr) (t : Tr) (R : Option (List Int)) (m : Nat) (σ' : L2.St) (H' : Hp) : Prop :=
  ∃ (lp : LpL) (F : FdL) (la : Addr) (dd : Nat) (x5 x6 x7 x8 : Option V), σ' = [some d, some (.int e), some (.ref ta), some (.ref rd), some (.ref la), x5, x6, x7, x8] ∧ Same H H' ∧ H' rd = some (.dK (F.map rowF)) ∧ H' la = some (.lst (lp.map fun p => V.ref p.1)) ∧
    RowsIn H' lp ∧ 1 ≤ dd ∧ (∀ p ∈ lp, RowW ys dd p.2) ∧ UpC lp ∧ lp.length < 64 ∧ (F.map (·.1)).Nodup ∧ (∀ o ∈ F.map (·.1), o ∈ ys) ∧ ringR ys g t m (lp.map (·.2)) (F.map (·.1)) = R ∧ N - F.length + (if lp = [] then 0 else 1) ≤ m ∧ (lp ≠ [] → dd ≤ F.length + 1)
theorem take_flt {α : Type} (c : α → Bool) {l : List α} {j : Nat} {x : α} (h : l[j]? = some x) : (l.take (j + 1)).filter c = (l.take j).filter c ++ (if c x = true then [x] else []) := by
  rw [L2.take_next h, List.filter_append]
  congr 1
  by_cases e : c x = true
  · rw [if_pos e, List.filter_cons_of_pos e]; rfl
  · rw [if_neg e, List.filter_cons_of_neg e]; rfl
section
variable {P : Program} {w : World} {K : PySem.W.Frag} {mg : Str → Option Value} {base : Heap}
theorem ok_ring {f fT T : Addr} {fd fdT : FuncData} (F : Fun K "shortest_ring" "shortest_ring" sRing f fd) (B : Bi mg) (DT : Def P w K mg base CX0 4 "is_tied" fT fdT ["one", "other"] (spTied T)) : FnOk P w K mg base CX0 5 f fd ["traces", "entry", "trace"] (spRing T) := by
  refine F.ok scRing (fun vs H Q E h => ?_) (fun cdv A outer s H vs Q E hr h => ?_)
  · obtain ⟨d, ta, e, kn, t, rfl, _⟩ := h
    rfl
  · obtain ⟨d, ta, e, kn, t, rfl, hk, hks, ht, he, hkb, k1, k2⟩ := h
    refine ⟨_, pss_cons (ps_set (i := 3) scRing.nd rfl (Or.inl rfl) pe_dnewK)
      (pss_cons (ps_set (i := 4) scRing.nd rfl (Or.inl rfl) (pe_lst (pa_cons (pe_tup (pa_cons (pv 1) pa_nil)) pa_nil)))
      (pss_cons (ps_while PassesOwn.never (pt_cmpR op_gt (pe_callB call_len (by rfl) B.len (by decide +kernel) (pa_cons (pv 4) pa_nil)) pe_int (nomark _))
        (pss_cons (ps_set (i := 5) scRing.nd rfl (Or.inl rfl) (pe_lst pa_nil))
        (pss_cons (ps_for PassesOwn.never rfl (pi_list (pv 4)) (pg_name (i := 6) scRing.nd rfl (Or.inl rfl))
          (pss_mid (ps_set (i := 7) scRing.nd rfl (Or.inl rfl) (pe_ifExp (pt_cmpR op_eq (pe_callB call_len (by rfl) B.len (by decide +kernel) (pa_cons (pv 6) pa_nil)) pe_int (nomark _)) (pv 2) (pe_dget (hu_of hr) (pv 0) (pe_ix ix_tup (pv 6) (pe_un un_neg pe_int) (fun _ _ => rfl)) (fun _ _ => rfl))))
          (pss_mid (ps_if (PW.pt (pw_and (pt_cmpR op_gt (pe_callB call_len (by rfl) B.len (by decide +kernel) (pa_cons (pv 6) pa_nil)) pe_int (nomark _)) (pw_and1 (pt_val (pe_call DT.ok hr (by rfl) DT.gl DT.kp DT.bd .nil pass0 (pa_cons (pv 7) (pa_cons (pv 2) pa_nil))))))) (pss_one (ps_ret (pv 6))) pss_nil)
          (pss_one (ps_for PassesOwn.never rfl (pi_list (pe_callB (call_sortedDI rfl) (by rfl) B.sorted (by decide +kernel) (pa_cons (pv 0) pa_nil))) (pg_name (i := 8) scRing.nd rfl (Or.inl rfl))
            (pss_one (ps_if (PW.pt (pw_and (pt_cmp (pc_dnotin (hu_of hr) (pv 8) (pv 3))) (pw_and1 (pt_val (pe_call DT.ok hr (by rfl) DT.gl DT.kp DT.bd .nil pass0 (pa_cons (pv 7) (pa_cons (pe_dget (hu_of hr) (pv 0) (pv 8) (fun _ _ => rfl)) pa_nil)))))))
              (pss_cons (ps_dput (hu_of hr) (pv 3) (pv 8) (pe_op op_catT (pv 6) (pe_tup (pa_cons (pv 8) pa_nil))) rfl)
              (pss_one (ps_expr (pe_bm PySem.F.plainAttrs_list PySem.F.slot_list_append PySem.F.type_list_append mt_append (pv 5) (pa_cons (pe_dget (hu_of hr) (pv 3) (pv 8) (fun _ _ => rfl)) pa_nil))))) pss_nil)))))))
        (pss_one (ps_set (i := 4) scRing.nd rfl (Or.inl rfl) (pe_callB cr_sortAny (by rfl) B.sorted (by decide +kernel) (pa_cons (pv 5) pa_nil)))))))
      (pss_one (ps_ret pe_non)))), ?_⟩
    have few := hk.few
    obtain ⟨R, hR⟩ : ∃ R, R = ringR (kn.map (·.1)) (fun k => (adr kn k).2) t (kn.length + 1) [[e]] [] := ⟨_, rfl⟩
    rw [← hR] at k1 k2
    obtain ⟨ys, hys⟩ : ∃ ys, ys = kn.map (·.1) := ⟨_, rfl⟩
    obtain ⟨g, hg⟩ : ∃ g : Int → Tr, g = fun k => (adr kn k).2 := ⟨_, rfl⟩
    rw [← hys, ← hg] at hR
    rw [← hys] at hkb hks
    have hyl : ys.length = kn.length := by rw [hys, List.length_map]
    have hgo : ∀ {o : Int} {a : Addr} {tt : Tr}, (o, a, tt) ∈ kn → g o = tt := fun {o a tt} h => by
      rw [hg]
      show (adr kn o).2 = tt
      rw [adr_in hk.nd h]
    intro rd hrd
    refine ⟨_, rfl, (by show 1 ≤ sizeLine; decide), fun tp htp => ⟨(by show 1 ≤ sizeLine; decide), fun la hla => ?_⟩⟩
    have nrt : rd ≠ tp := fun z => by rw [z, upd_same] at htp; cases htp
    have nrl : rd ≠ la := fun z => by rw [z, upd_ne (fun z2 => nrt (z.trans z2)), ← z, upd_same] at hla; cases hla
    have ntl : tp ≠ la := fun z => by rw [z, upd_same] at hla; cases hla
    have htp0 : H tp = none := by rw [upd_ne nrt.symm] at htp; exact htp
    have hla0 : H la = none := by rw [upd_ne ntl.symm, upd_ne nrl.symm] at hla; exact hla
    refine ⟨RI H (.ref d) e ta rd kn.length ys g t R,
      ⟨kn.length + 1, [(tp, [e])], [], la, 1, _, _, _, _, rfl, sput (sput (snew hrd) htp0) hla0, by rw [upd_ne nrl, upd_ne nrt]; exact upd_same, upd_same, fun p hp => ?_, Nat.le_refl _, fun p hp => ?_, List.pairwise_singleton _ _, (by show 1 < 64; decide), List.nodup_nil, fun o ho => (by cases ho), hR.symm, by rw [if_neg (by simp)]; exact Nat.le_refl _, fun _ => Nat.le_refl _⟩, ?_⟩
    · rw [List.mem_singleton] at hp
      rw [hp]
      show upd _ la _ tp = _
      rw [upd_ne ntl]; exact upd_same
    · rw [List.mem_singleton] at hp
      rw [hp]
      exact ⟨rfl, fun m hm => by rw [List.mem_singleton] at hm; rw [hm]; exact he, fun h => absurd h (by decide)⟩
    rintro m σ' H' ⟨lp, F, la, dd, x5, x6, x7, x8, rfl, sH, hRd, hLa, hRows, hdd, hW, hUp, hl64, hFn, hFs, hRing, hfuel, hddF⟩
    refine ⟨_, rfl, _, lp.length, rfl, .inl ⟨_, SqL.of hLa, by rw [List.length_map]⟩, _, _, rfl, rfl, decide ((0 : Int) < lp.length), rfl, ?_⟩
    by_cases hlp : lp = []
    · subst hlp
      rw [show decide ((0 : Int) < (([] : LpL).length : Nat)) = false from rfl]
      refine iteF ?_
      refine k1 ?_ H' sH
      rw [← hRing]
      exact ringR_nil _ _ _ _ _
    · have hpos : 0 < lp.length := List.length_pos_iff.mpr hlp
      rw [show decide ((0 : Int) < (lp.length : Nat)) = true from decide_eq_true (by omega)]
      rw [if_neg hlp] at hfuel
      obtain ⟨n, rfl⟩ : ∃ n, m = n + 1 := ⟨m - 1, by omega⟩
      obtain ⟨LR, hLR⟩ : ∃ LR, LR = layerR ys g t (lp.map (·.2)) (F.map (·.1)) [] := ⟨_, rfl⟩
      have hRing2 : ringOut (ringR ys g t n) LR = R := by
        rw [← hRing, hLR]
        have : ¬ lp.map (·.2) = [] := fun z => hlp (List.map_eq_nil_iff.mp z)
        exact (if_neg this).symm
      have hFl : F.length ≤ kn.length := by
        have := nd_len (F.map (·.1)) ys hFn hFs
        rw [List.length_map] at this
        omega
      refine iteT ⟨fun σ' H' => ∃ m', m' < n + 1 ∧ RI H (.ref d) e ta rd kn.length ys g t R m' σ' H', fun _ _ h => h, ?_⟩
      refine ⟨by show 0 ≤ sizeLine; exact Nat.zero_le _, fun lt hlt => ?_⟩
      have hlt0 : H lt = none := Same.free sH hlt
      have nlr : rd ≠ lt := ne_of_none hRd hlt
      have nll : la ≠ lt := ne_of_none hLa hlt
      have sH1 : Same H (upd H' lt (.lst [])) := sput sH hlt0
      refine ⟨_, rfl, la, rfl, ⟨_, SqL.of (by rw [upd_ne nll]; exact hLa)⟩, ?_⟩
      refine for_list (xs := lp.map fun p => V.ref p.1) (fun i σ'' H'' => ∃ (lq : LpL) (F2 : FdL) (x6 x7 x8 : Option V), σ'' = [some (.ref d), some (.int e), some (.ref ta), some (.ref rd), some (.ref la), some (.ref lt), x6, x7, x8] ∧ Same H H'' ∧ H'' rd = some (.dK (F2.map rowF)) ∧ H'' la = some (.lst (lp.map fun p => V.ref p.1)) ∧
        RowsIn H'' lp ∧ H'' lt = some (.lst (lq.map fun p => V.ref p.1)) ∧ RowsIn H'' lq ∧ (∀ p ∈ lq, RowW ys (dd + 1) p.2) ∧ UpC lq ∧ (F2.map (·.1)).Nodup ∧ (∀ o ∈ F2.map (·.1), o ∈ ys) ∧ layerR ys g t ((lp.map (·.2)).drop i) (F2.map (·.1)) (lq.map (·.2)) = LR ∧ lq.length + F.length = F2.length ∧
        (∀ q ∈ lq, ∃ r o, q.2 = r ++ [o] ∧ o < BB ∧ ∃ p ∈ lp.take i, r = p.2)) ?_ ?_ ?_ ?_
      · refine ⟨[], F, _, _, _, rfl, sH1, by rw [upd_ne nlr]; exact hRd, by rw [upd_ne nll]; exact hLa, fun p hp => ?_, upd_same, fun p hp => (by cases hp), fun p hp => (by cases hp), List.Pairwise.nil, hFn, hFs, by rw [List.drop_zero]; exact hLR.symm, by simp, fun q hq => (by cases hq)⟩
        rw [upd_ne (ne_of_none (hRows p hp) hlt)]
        exact hRows p hp
      · rintro i σ'' H'' _ ⟨lq, F2, x6, x7, x8, rfl, f1, f2, f3, f4⟩
        exact SqL.of f3
      · rintro i x σ'' H'' hx ⟨lq, F2, x6, x7, x8, rfl, f1, f2, f3, f4, f5, f6, f7, f8, f9, f10, f11, f12, f13⟩
        obtain ⟨⟨ra, row⟩, hpi, rfl⟩ := refs_at hx
        have hmem : (ra, row) ∈ lp := List.mem_of_getElem? hpi
        have hrow : H'' ra = some (.tup (row.map V.int)) := f4 _ hmem
        have hrW := hW _ hmem
        have hrlen : row.length = dd := hrW.len
        have hdrop : (lp.map (·.2)).drop i = row :: (lp.map (·.2)).drop (i + 1) := by
          have hi : i < (lp.map (·.2)).length := by rw [List.length_map]; exact (List.getElem?_eq_some_iff.mp hpi).1
          rw [List.drop_eq_getElem_cons hi]
          congr 1
          rw [List.getElem_map]
          have := (List.getElem?_eq_some_iff.mp hpi).2
          rw [this]
        -- here
        refine ⟨fun σ1 H1 => H1 = H'' ∧ ∃ ah, σ1 = [some (.ref d), some (.int e), some (.ref ta), some (.ref rd), some (.ref la), some (.ref lt), some (.ref ra), some (.ref ah), x8] ∧ TrAt T H'' ah (hereR g t row), ?_, ?_⟩
        · refine ⟨_, rfl, _, row.length, rfl, .inr ⟨_, SqT.of hrow, by rw [List.length_map]⟩, rfl, _, rfl, ?_⟩
          by_cases h1 : row.length = 1
          · have e1 : decide (V.int ((row.length : Nat) : Int) = V.int 1) = true := by rw [h1]; rfl
            rw [e1]
            refine iteT ⟨_, rfl, rfl, ta, rfl, ?_⟩
            unfold hereR
            rw [if_pos h1]
            exact ht.same f1
          · have e1 : decide (V.int ((row.length : Nat) : Int) = V.int 1) = false := by
              refine decide_eq_false fun z => ?_
              injection z with z
              omega
            rw [e1]
            obtain ⟨r0, o, er, ho⟩ := hrW.last (by omega)
            simp only at er
            rw [hys] at ho
            obtain ⟨ao, to, hato⟩ := in_keys ho
            have hk2 := hk.same f1
            refine iteF ⟨_, rfl, _, rfl, _, rfl, ra, _, -1, .int o, rfl, rfl, SqT.of hrow, ?_, d, _, rfl, hk2.get hato, rfl, ao, rfl, ?_⟩
            · rw [er, List.map_append]
              exact atI_last (r0.map V.int) (V.int o)
            · have eh : hereR g t row = to := by
                unfold hereR
                rw [if_neg h1, er, List.getLast?_concat]
                exact hgo hato
              rw [eh]
              exact hk2.tr _ hato
        · rintro σ1 H1 ⟨rfl, ah, rfl, hah⟩
          -- the ring closes, or not
          refine ⟨fun σ2 H2 => σ2 = [some (.ref d), some (.int e), some (.ref ta), some (.ref rd), some (.ref la), some (.ref lt), some (.ref ra), some (.ref ah), x8] ∧ Same H1 H2 ∧ (decide (1 < row.length) && tied (hereR g t row) t) = false, ?_, ?_⟩
          · refine ⟨_, rfl, _, row.length, rfl, .inr ⟨_, SqT.of hrow, by rw [List.length_map]⟩, _, _, rfl, rfl, decide ((1 : Int) < row.length), rfl, ?_⟩
            by_cases h1 : 1 < row.length
            · rw [show decide ((1 : Int) < (row.length : Nat)) = true from decide_eq_true (by omega)]
              refine iteT ⟨_, rfl, _, rfl, ah, ta, hereR g t row, t, rfl, hah, ht.same f1, fun H2 s2 => ⟨_, rfl, ?_⟩⟩
              cases et : tied (hereR g t row) t with
              | true =>
                refine iteT ⟨_, rfl, ?_⟩
                have eL : LR = .inl row := by
                  rw [← f11, hdrop]
                  unfold layerR
                  rw [if_pos (by rw [et, decide_eq_true h1]; rfl)]
                rw [eL] at hRing2
                exact k2 row hRing2.symm ra H2 (f1.trans s2) (s2 _ _ hrow)
              | false => exact iteF ⟨rfl, s2, by simp⟩
            · rw [show decide ((1 : Int) < (row.length : Nat)) = false from decide_eq_false (by omega)]
              exact iteF ⟨rfl, Same.refl _, by rw [decide_eq_false h1]; rfl⟩
          · rintro σ2 H2 ⟨rfl, s2, hno⟩
            have f1 := f1.trans s2
            have f2 := s2 _ _ f2
            have f3 := s2 _ _ f3
            have f4 := f4.same s2
            have f5 := s2 _ _ f5
            have f6 := f6.same s2
            have hrow := s2 _ _ hrow
            have hah := hah.same s2
            have hk2 := hk.same f1
            refine ⟨_, rfl, d, _, kn.map (·.1), rfl, .inl hk2.at_, hk2.keys, by rw [List.length_map]; exact few, fun ys' p hp hs2 hpn => ?_⟩
            have hye : ys' = ys := by rw [hys]; exact sort_same hp hs2 (by rw [← hys]; exact hks)
            subst hye
            have hp0 : H p = none := Same.free f1 hpn
            have npr : rd ≠ p := ne_of_none f2 hpn
            have npa : la ≠ p := ne_of_none f3 hpn
            have npt : lt ≠ p := ne_of_none f5 hpn
            refine ⟨p, rfl, ⟨_, SqL.of upd_same⟩, ?_⟩
            obtain ⟨c, hc⟩ : ∃ c : Int → Bool, c = fun o => !(F2.map (·.1)).contains o && tied (hereR g t row) (g o) := ⟨_, rfl⟩
            refine for_list (xs := ys'.map V.int) (fun j σ3 H3 => ∃ (lq3 : LpL) (F3 : FdL) (x8 : Option V), σ3 = [some (.ref d), some (.int e), some (.ref ta), some (.ref rd), some (.ref la), some (.ref lt), some (.ref ra), some (.ref ah), x8] ∧ Same H H3 ∧ H3 rd = some (.dK (F3.map rowF)) ∧ H3 la = some (.lst (lp.map fun p => V.ref p.1)) ∧
              RowsIn H3 lp ∧ H3 lt = some (.lst (lq3.map fun p => V.ref p.1)) ∧ H3 p = some (.lst (ys'.map V.int)) ∧ RowsIn H3 lq3 ∧ TrAt T H3 ah (hereR g t row) ∧ (∀ p ∈ lq3, RowW ys' (dd + 1) p.2) ∧ UpC lq3 ∧ (F3.map (·.1)).Nodup ∧ (∀ o ∈ F3.map (·.1), o ∈ ys') ∧
              F3.map (·.1) = F2.map (·.1) ++ (ys'.take j).filter c ∧ lq3.map (·.2) = lq.map (·.2) ++ ((ys'.take j).filter c).map (fun o => row ++ [o]) ∧ lq3.length + F.length = F3.length ∧
              (∀ q ∈ lq3, ∃ r o, q.2 = r ++ [o] ∧ o < BB ∧ ((∃ p ∈ lp.take i, r = p.2) ∨ (r = row ∧ o ∈ ys'.take j)))) ?_ ?_ ?_ ?_
            · refine ⟨lq, F2, _, rfl, sput f1 hp0, by rw [upd_ne npr]; exact f2, by rw [upd_ne npa]; exact f3, fun q hq => ?_, by rw [upd_ne npt]; exact f5, upd_same, fun q hq => ?_, hah.same (snew hpn), f7, f8, f9, f10, by simp, by simp, f12, fun q hq => ?_⟩
              · rw [upd_ne (ne_of_none (f4 q hq) hpn)]; exact f4 q hq
              · rw [upd_ne (ne_of_none (f6 q hq) hpn)]; exact f6 q hq
              · obtain ⟨r, o, h1, h2, h3⟩ := f13 q hq
                exact ⟨r, o, h1, h2, .inl h3⟩
            · rintro j σ3 H3 _ ⟨lq3, F3, x8, rfl, g1, g2, g3, g4, g5, g6, _⟩
              exact SqL.of g6
            · rintro j x σ3 H3 hxj ⟨lq3, F3, x8', rfl, g1, g2, g3, g4, g5, g6, g7, g8, g9, g10, g11, g12, g13, g14, g15, g16⟩
              obtain ⟨rfl, hmo⟩ := at_map (0 : Int) V.int hxj
              have hyj : ys'[j]? = some (ys'.getD j 0) := by
                rw [List.getElem?_map] at hxj
                cases ej : ys'[j]? with
                | none => rw [ej] at hxj; cases hxj
                | some o => rw [List.getD_eq_getElem?_getD, ej]; rfl
              generalize ys'.getD j 0 = other at hyj hmo ⊢
              have hmo2 : other ∈ kn.map (·.1) := by rw [← hys]; exact hmo
              obtain ⟨ao, to, hato⟩ := in_keys hmo2
              have hgto := hgo hato
              have hk3 := hk.same g1
              have hlt2 : ∀ o ∈ ys'.take j, o < other := fun o ho => by
                obtain ⟨j', hj', ej'⟩ := List.getElem_of_mem ho
                rw [List.length_take] at hj'
                rw [List.getElem_take] at ej'
                obtain ⟨hj2, ej2⟩ := List.getElem?_eq_some_iff.mp hyj
                rw [← ej', ← ej2]
                exact List.pairwise_iff_getElem.mp hks j' j (by omega) hj2 (by omega)
              have hnt : other ∉ ys'.take j := fun z => Int.lt_irrefl _ (hlt2 other z)
              have hin_iff : other ∈ F3.map (·.1) ↔ other ∈ F2.map (·.1) := by
                rw [g13, List.mem_append]
                exact ⟨fun z => z.elim id (fun z => absurd (List.mem_filter.mp z).1 hnt), .inl⟩
              by_cases hin : other ∈ F3.map (·.1)
              · have hcf : c other = false := by
                  rw [hc]
                  show (!(F2.map (·.1)).contains other && _) = false
                  rw [List.contains_iff_mem.mpr (hin_iff.mp hin)]
                  rfl
                obtain ⟨v, hv⟩ : ∃ v, (other, v) ∈ F3 := by
                  obtain ⟨q, hq, rfl⟩ := List.mem_map.mp hin
                  exact ⟨q.2, hq⟩
                refine ⟨_, rfl, _, rfl, rd, some v, rfl, fd_get g2 g11 hv, _, rfl, iteF ?_⟩
                have tf := take_flt c hyj
                rw [hcf, if_neg (by decide), List.append_nil] at tf
                refine ⟨lq3, F3, _, rfl, g1, g2, g3, g4, g5, g6, g7, g8, g9, g10, g11, g12, by rw [tf]; exact g13, by rw [tf]; exact g14, g15, fun q hq => ?_⟩
                obtain ⟨r, o, h1, h2, h3⟩ := g16 q hq
                exact ⟨r, o, h1, h2, h3.imp id fun z => ⟨z.1, by rw [L2.take_next hyj]; exact List.mem_append_left _ z.2⟩⟩
              · have hc2 : c other = tied (hereR g t row) to := by
                  rw [hc]
                  show (!(F2.map (·.1)).contains other && tied (hereR g t row) (g other)) = _
                  have : (F2.map (·.1)).contains other = false := by
                    rw [Bool.eq_false_iff]
                    exact fun z => hin (hin_iff.mpr (List.contains_iff_mem.mp z))
                  rw [this, hgto]
                  rfl
                refine ⟨_, rfl, _, rfl, rd, none, rfl, fd_no g2 hin, _, rfl, iteT ?_⟩
                refine ⟨_, rfl, _, rfl, _, rfl, d, _, rfl, hk3.get hato, ?_⟩
                refine ⟨ah, ao, hereR g t row, to, rfl, g8, hk3.tr _ hato, fun H4 s4 => ⟨_, rfl, ?_⟩⟩
                have g1 := g1.trans s4
                have g2 := s4 _ _ g2
                have g3 := s4 _ _ g3
                have g4 := g4.same s4
                have g5 := s4 _ _ g5
                have g6 := s4 _ _ g6
                have g7 := g7.same s4
                have g8 := g8.same s4
                have hrow4 : H4 ra = some (.tup (row.map V.int)) := g4 _ hmem
                have tf := take_flt c hyj
                cases et : tied (hereR g t row) to with
                | false =>
                  rw [hc2, et, if_neg (by decide), List.append_nil] at tf
                  refine iteF ⟨lq3, F3, _, rfl, g1, g2, g3, g4, g5, g6, g7, g8, g9, g10, g11, g12, by rw [tf]; exact g13, by rw [tf]; exact g14, g15, fun q hq => ?_⟩
                  obtain ⟨r, o, h1, h2, h3⟩ := g16 q hq
                  exact ⟨r, o, h1, h2, h3.imp id fun z => ⟨z.1, by rw [L2.take_next hyj]; exact List.mem_append_left _ z.2⟩⟩
                | true =>
                  rw [hc2, et, if_pos rfl] at tf
                  have hF3l : F3.length < kn.length := by
                    have := nd_len (other :: F3.map (·.1)) ys' (List.nodup_cons.mpr ⟨hin, g11⟩) fun o ho => by
                      rcases List.mem_cons.mp ho with z | z
                      · rw [z]; exact hmo
                      · exact g12 o z
                    rw [List.length_cons, List.length_map] at this
                    omega
                  have hob := hkb _ hmo
                  have big : (100 : Nat) < sizeLine := Nat.lt_trans (by decide) line_big
                  refine iteT ⟨_, rfl, _, rfl, (by show 1 ≤ sizeLine; decide), fun tp2 htp2 => ?_⟩
                  have hrow5 : upd H4 tp2 (.tup [.int other]) ra = some (.tup (row.map V.int)) := by rw [upd_ne (ne_of_none hrow4 htp2)]; exact hrow4
                  refine ⟨ra, tp2, _, [.int other], rfl, rfl, SqT.of hrow5, SqT.of upd_same, ?_, ?_, fun z => absurd z (by simp), fun _ np hnp => ?_⟩
                  · intro z
                    have := congrArg List.length z
                    rw [List.length_map, hrlen] at this
                    simp at this
                    omega
                  · rw [List.length_map]
                    have := hddF hlp
                    show row.length + 1 ≤ sizeLine
                    omega
                  · have hnp0 : H4 np = none := by
                      have nt : np ≠ tp2 := fun z => by rw [z, upd_same] at hnp; cases hnp
                      rw [upd_ne nt] at hnp
                      exact hnp
                    have ntn : tp2 ≠ np := fun z => by rw [← z, upd_same] at hnp; cases hnp
                    have keep : ∀ b u, H4 b = some u → upd (upd H4 tp2 (.tup [.int other])) np (.tup (row.map V.int ++ [.int other])) b = some u := fun b u eb => by
                      rw [upd_ne (ne_of_none eb hnp0), upd_ne (ne_of_none eb htp2)]
                      exact eb
                    have hnew : upd (upd H4 tp2 (.tup [.int other])) np (.tup (row.map V.int ++ [.int other])) np = some (.tup ((row ++ [other]).map V.int)) := by rw [upd_same, List.map_append]; rfl
                    have fr : ∀ b, upd (upd H4 tp2 (.tup [.int other])) np (.tup (row.map V.int ++ [.int other])) b = none → H4 b = none := fun b eb => by
                      cases q : H4 b with
                      | none => rfl
                      | some u => rw [keep b u q] at eb; cases eb
                    generalize upd (upd H4 tp2 (.tup [.int other])) np (.tup (row.map V.int ++ [.int other])) = H5 at keep hnew fr ⊢
                    refine ⟨_, rfl, _, rfl, rd, _, rfl, DPut.k (k := Sum.inl other) (keep _ _ g2) (by rw [List.length_map]; omega), ?_⟩
                    rw [fd_put hin]
                    have nrt3 : lt ≠ rd := fun z => by rw [z, g2] at g5; cases g5
                    have hlt5 := keep _ _ g5
                    have hlen3 : lq3.length < 100 := by omega
                    refine ⟨_, rfl, .inl ⟨rfl, _, SqL.of (by rw [upd_ne nrt3]; exact hlt5)⟩, _, rfl, _, rfl, rd, .ref np, rfl, fd_get upd_same (snoc_nd g11 hin) (by simp), lt, _, _, rfl, rfl, by rw [upd_ne nrt3]; exact hlt5, by rw [List.length_map]; omega, ?_⟩
                    have keep2 : ∀ b u, b ≠ rd → b ≠ lt → H4 b = some u → upd (upd H5 rd (.dK ((F3 ++ [(other, V.ref np)]).map rowF))) lt (.lst ((lq3.map fun p => V.ref p.1) ++ [.ref np])) b = some u := fun b u n1 n2 eb => by
                      rw [upd_ne n2, upd_ne n1]
                      exact keep b u eb
                    have hrd0 : H rd = none := hrd
                    have same5 : Same H (upd (upd H5 rd (.dK ((F3 ++ [(other, V.ref np)]).map rowF))) lt (.lst ((lq3.map fun p => V.ref p.1) ++ [.ref np]))) := fun b u eb =>
                      keep2 b u (ne_of_none eb hrd0) (ne_of_none eb hlt0) (g1 b u eb)
                    have tupK : ∀ b xs, H4 b = some (.tup xs) → upd (upd H5 rd (.dK ((F3 ++ [(other, V.ref np)]).map rowF))) lt (.lst ((lq3.map fun p => V.ref p.1) ++ [.ref np])) b = some (.tup xs) := fun b xs eb =>
                      keep2 b _ (fun z => by rw [z, g2] at eb; cases eb) (fun z => by rw [z, g5] at eb; cases eb) eb
                    have nplt : np ≠ lt := fun z => by rw [z, g5] at hnp0; cases hnp0
                    have nprd : np ≠ rd := fun z => by rw [z, g2] at hnp0; cases hnp0
                    have hcode : ∀ q ∈ lq3, TS.code BB q.2 < TS.code BB (row ++ [other]) := fun q hq => by
                      obtain ⟨r, o, h1, h2, h3⟩ := g16 q hq
                      rw [h1]
                      rcases h3 with ⟨pp, hpp, rfl⟩ | ⟨rfl, h3⟩
                      · refine code_up ?_ hob.1 h2
                        obtain ⟨j', hj', ej'⟩ := List.getElem_of_mem hpp
                        rw [List.length_take] at hj'
                        rw [List.getElem_take] at ej'
                        obtain ⟨hi2, ei2⟩ := List.getElem?_eq_some_iff.mp hpi
                        have := List.pairwise_iff_getElem.mp hUp j' i (by omega) hi2 (by omega)
                        rw [ej', ei2] at this
                        exact this
                      · rw [code_snoc, code_snoc]
                        have := hlt2 o h3
                        omega
                    refine ⟨lq3 ++ [(np, row ++ [other])], F3 ++ [(other, .ref np)], _, rfl, same5, by rw [upd_ne nrt3.symm]; exact upd_same, keep2 _ _ (fun z => by rw [z, g2] at g3; cases g3) nll g3, fun q hq => tupK _ _ (g4 q hq), by rw [upd_same, List.map_append]; rfl,
                      keep2 _ _ npr.symm npt.symm g6, fun q hq => ?_, ?_, fun q hq => ?_, ?_, snoc_nd g11 hin, fun o ho => ?_, ?_, ?_, ?_, fun q hq => ?_⟩
                    · rcases List.mem_append.mp hq with z | z
                      · exact tupK _ _ (g7 q z)
                      · rw [List.mem_singleton.mp z]
                        show upd _ lt _ np = _
                        rw [upd_ne nplt, upd_ne nprd]
                        exact hnew
                    · obtain ⟨dx, ka, ra2, wa, xs, t1, t2, t3, t4, t5, t6⟩ := g8
                      refine ⟨dx, ka, ra2, wa, xs, keep2 _ _ (fun z => by rw [z, g2] at t1; cases t1) (fun z => by rw [z, g5] at t1; cases t1) t1, tupK _ _ t2, tupK _ _ t3, ⟨t4.1, fun i x r e1 e2 => ?_⟩, tupK _ _ t5, t6⟩
                      obtain ⟨b, o, e3, e4, e5⟩ := t4.2 i x r e1 e2
                      exact ⟨b, o, e3, tupK _ _ e4, tupK _ _ e5⟩
                    · rcases List.mem_append.mp hq with z | z
                      · exact g9 q z
                      · rw [List.mem_singleton.mp z]
                        exact rowW_snoc hrW hmo hob
                    · refine List.pairwise_append.mpr ⟨g10, List.pairwise_singleton _ _, fun q hq q2 hq2 => ?_⟩
                      rw [List.mem_singleton.mp hq2]
                      exact hcode q hq
                    · rcases in_snoc.mp ho with z | z
                      · exact g12 o z
                      · rw [z]; exact hmo
                    · rw [List.map_append, g13, tf, List.append_assoc]; rfl
                    · rw [List.map_append, g14, tf, List.map_append, List.append_assoc]; rfl
                    · rw [List.length_append, List.length_append, List.length_singleton, List.length_singleton]; omega
                    · rcases List.mem_append.mp hq with z | z
                      · obtain ⟨r, o, h1, h2, h3⟩ := g16 q z
                        exact ⟨r, o, h1, h2, h3.imp id fun z => ⟨z.1, by rw [L2.take_next hyj]; exact List.mem_append_left _ z.2⟩⟩
                      · rw [List.mem_singleton.mp z]
                        exact ⟨row, other, rfl, hob.2, .inr ⟨rfl, by rw [L2.take_next hyj]; exact List.mem_append_right _ (List.mem_singleton.mpr rfl)⟩⟩
            · rintro σ3 H3 ⟨lq3, F3, x8', rfl, g1, g2, g3, g4, g5, g6, g7, g8, g9, g10, g11, g12, g13, g14, g15, g16⟩
              rw [List.length_map, List.take_length] at g13 g14 g16
              refine ⟨lq3, F3, _, _, _, rfl, g1, g2, g3, g4, g5, g7, g9, g10, g11, g12, ?_, g15, fun q hq => ?_⟩
              · rw [← f11, hdrop]
                conv => rhs; unfold layerR
                rw [if_neg (by rw [hno]; decide), g13, g14, hc]
                rfl
              · obtain ⟨r, o, h1, h2, h3⟩ := g16 q hq
                refine ⟨r, o, h1, h2, ?_⟩
                rw [L2.take_next hpi]
                rcases h3 with ⟨pp, hpp, e⟩ | ⟨e, _⟩
                · exact ⟨pp, List.mem_append_left _ hpp, e⟩
                · exact ⟨(ra, row), List.mem_append_right _ (List.mem_singleton.mpr rfl), e⟩
      · rintro σ'' H'' ⟨lq, F2, x6, x7, x8, rfl, f1, f2, f3, f4, f5, f6, f7, f8, f9, f10, f11, f12, f13⟩
        rw [List.length_map] at f11
        rw [show (lp.map (·.2)).drop lp.length = [] from List.drop_eq_nil_of_le (by rw [List.length_map]; exact Nat.le_refl _)] at f11
        have f11' : (Sum.inr (F2.map (·.1), lq.map (·.2)) : Sum (List Int) (List Int × List (List Int))) = LR := f11
        rw [← f11'] at hRing2
        have hF2l : F2.length ≤ kn.length := by
          have := nd_len (F2.map (·.1)) ys f9 f10
          rw [List.length_map] at this
          omega
        refine ⟨_, rfl, dd + 1, by omega, lt, _, rfl, SqL.of f5, by rw [List.length_map]; omega, fun x hx => ?_, fun zs p hp hs2 hpn => ?_⟩
        · obtain ⟨q, hq, rfl⟩ := List.mem_map.mp hx
          exact ⟨q.2, ⟨q.1, rfl, SqT.of (f6 q hq)⟩, (f7 q hq).len, (f7 q hq).bd⟩
        · have hzs : zs = lq.map fun p => V.ref p.1 := by
            refine perm_same (lt := fun x y => ∃ n m, TupI K H'' x n ∧ TupI K H'' y m ∧ TS.code BB n < TS.code BB m) hp hs2 ?_ fun x hx y hy h1 h2 => ?_
            · rw [List.pairwise_map]
              refine List.Pairwise.imp_of_mem (fun {q r} hq hr h => ?_) f8
              exact ⟨q.2, r.2, ⟨q.1, rfl, SqT.of (f6 q hq)⟩, ⟨r.1, rfl, SqT.of (f6 r hr)⟩, h⟩
            · obtain ⟨n, m, hn, hm, hlt⟩ := h2
              have := h1 m n hm hn
              omega
          subst hzs
          have hp0 : H p = none := Same.free f1 hpn
          refine ⟨n, Nat.lt_succ_self n, lq, F2, p, dd + 1, _, _, _, _, rfl, sput f1 hp0, by rw [upd_ne (ne_of_none f2 hpn)]; exact f2, upd_same, fun q hq => ?_, by omega, f7, f8, by omega, f9, f10, hRing2, ?_, fun hne => ?_⟩
          · rw [upd_ne (ne_of_none (f6 q hq) hpn)]
            exact f6 q hq
          · by_cases hq : lq = []
            · rw [if_pos hq]
              have : lq.length = 0 := by rw [hq]; rfl
              omega
            · rw [if_neg hq]
              have := List.length_pos_iff.mpr hq
              omega
          · have := List.length_pos_iff.mpr hne
            have := hddF hlp
            omega
end
end K58

namespace K58
open PySem PySem.Spec PyProof.Rows L2
/-- list(o.values()) -/
def tListVals (td : TE) : TE := fun σ H Q => td σ H fun x H1 => ∃ (a : Addr) (kvs : List (Key × V)), x = V.ref a ∧ H1 a = some (.dK kvs) ∧ ∀ p, H1 p = none → Q (.ref p) (upd H1 p (.lst (kvs.map (·.2))))
theorem kv_vals {kvs : List (Key × V)} {vs : List (Key × Value)} (r : KV kvs vs) : Vals (kvs.map (·.2)) (vs.map (·.2)) := by
  unfold KV at r
  induction r with
  | nil => exact .nil
  | cons r t ih => exact .cons r.2 ih
theorem pe_listVals {X : Cx} {o : Expr} {p pos apos mpos : Pos} {td : TE} (hc : X.calm = true) (hg : Gl X "list") (hm : X.mg "list" = none) (hd : PE X o td) (hbase : attributeBase o "values" X.env (eval o X.env) = eval o X.env := by rfl) (hline : (apos.endLine == mpos.line) = true := by rfl)
    (hse : starEach [Expr.Call (.Attribute o "values" apos) [] [] mpos] X.env = (false, eval (Expr.Call (.Attribute o "values" apos) [] [] mpos) X.env) :: starEach [] X.env := by rfl) :
    PE X (.Call (.Name "list" p) [.Call (.Attribute o "values" apos) [] [] mpos] [] pos) (tListVals td) := by
  refine ⟨fun pins s σ H Q I h => ?_⟩
  refine Call_ (ld_blt I hg hm (by decide +kernel : bootBuiltins "list" = some (.type "list")) ?_)
  refine PyProof.Rows.callWith_type1 (PyProof.Rows.args_cons (wpAny_Call_method0_late hbase hline (thn (hd.run pins s σ H _ I h) fun v s1 ⟨x, H1, I1, r1, a, kvs, ex, ha, q⟩ => ?_)) hse) hse rfl
  subst ex
  obtain rfl : v = Value.ref a := r1
  obtain ⟨hz, hsys, vs, rel, dof⟩ := dk_of I1.hok ha
  obtain ⟨ep, dat⟩ := dof.dictAt
  have dat' := dat
  obtain ⟨ob, es, ho, ex, hdat, hko, hpr, hnd⟩ := dat'
  refine ⟨"dict", "dict.values", F.plainAttrs_dict, F.slot_dict_values, F.type_dict_values, ⟨ob, ho, ex.1⟩, fun b e => ?_, Calls.callWith_builtin rfl (PySem.evalArgs_none ?_)⟩
  · cases e
    exact ⟨ob, ho, ex.2.1⟩
  refine call_meetsIn F.slot_dict_values ⟨ob, ho, ex.1⟩ F.entry_dict_values (F.args_dict_values_1 _) (meets_dict_values (mixKind X.prog X.w) a hsys) ⟨⟨vs, dof⟩, ?_⟩
  have k1 : ∀ b u, s1.heap.get? b = some u → (s1.heap.push { cls := .type "dict_values", data := .fields #[.ref a] }).get? b = some u := fun b u e => Heap.get?_push_of_some _ e
  have dat1 : (s1.heap.push { cls := .type "dict_values", data := .fields #[.ref a] }).DictAt (mixKind X.prog X.w) a vs ep := dat.keep k1
  have I2 : Inv X pins σ H1 { s1 with heap := s1.heap.push { cls := .type "dict_values", data := .fields #[.ref a] } } := I1.kept (t' := s1.toks) k1
  refine PyProof.Rows.args_nil ?_
  have hlen : vs.length = kvs.length := (KV.length rel).symm
  refine PySem.W.kdl_call (s := { s1 with heap := s1.heap.push { cls := .type "dict_values", data := .fields #[.ref a] } }) (PySem.W.kdl_values (knd := mixKind X.prog X.w) (kvs := vs) (ep := ep) (r := s1.heap.objs.size) (d := a)) (I1.ok.hd hc) ⟨⟨_, Heap.get?_push_size _ rfl, rfl, rfl⟩, dat1⟩ (by rw [hlen]; exact hz) fun h' tk acc c' hk hD hacc => ?_
  have hv : acc.toList = vs.map (·.2) := PySem.W.kdl_vals_eq acc.toList (by rw [Array.length_toList]; exact hacc.1) fun j v e => hacc.2 j v (by rw [← Array.getElem?_toList]; exact e)
  have hV : Vals (kvs.map (·.2)) acc.toList := by rw [hv]; exact kv_vals rel
  refine ⟨.ref _, _, I2.laid (t' := tk) hk (Nat.le_refl _) (show ObjOk X.prog X.w _ _ _ (.lst (kvs.map (·.2))) from ⟨by rw [List.length_map]; exact hz, acc.toList, c', hV, by rw [Array.toArray_toList]; exact hD⟩), rfl, q _ (I2.hok.fresh (Nat.le_refl _))⟩
end K58

namespace K58
open PySem L2
/-! ### checks -/
def ckF (last next : Int) (od kd : Addr) : List (Str × V) := [("kept_last", .int last), ("kept_next", .int next), ("kept_open", .ref od), ("kept_known", .ref kd)]
abbrev OpL : Type := List (Int × Int)
def rowO (p : Int × Int) : Key × V := (Sum.inl p.1, .int p.2)
structure Ck where
  last : Int
  next : Int
  opn : OpL
  kn : KnL
structure CkAt (C T : Addr) (H : Hp) (a od kd : Addr) (c : Ck) : Prop where
  ob : ∃ dx, H a = some (.ins C dx (ckF c.last c.next od kd))
  opn : H od = some (.dK (c.opn.map rowO))
  kn : KnAt T H kd c.kn
  ne : od ≠ kd
  nd : (c.opn.map (·.1)).Nodup
theorem CkAt.same {C T : Addr} {H H' : Hp} {a od kd : Addr} {c : Ck} (h : CkAt C T H a od kd c) (s : Same H H') : CkAt C T H' a od kd c := by
  obtain ⟨⟨dx, h1⟩, h2, h3, h4, h5⟩ := h
  exact ⟨⟨dx, s _ _ h1⟩, s _ _ h2, h3.same s, h4, h5⟩
/-- all but these stay -/
def Sb (L : List Addr) (H H' : Hp) : Prop := ∀ b o, b ∉ L → H b = some o → H' b = some o
theorem Sb.of {L : List Addr} {H H' : Hp} (s : Same H H') : Sb L H H' := fun b o _ e => s b o e
theorem Sb.trans {L : List Addr} {H H1 H2 : Hp} (s : Sb L H H1) (t : Sb L H1 H2) : Sb L H H2 := fun b o n e => t b o n (s b o n e)
theorem Sb.mono {L L' : List Addr} {H H' : Hp} (s : Sb L H H') (h : ∀ b ∈ L, b ∈ L') : Sb L' H H' := fun b o n e => s b o (fun z => n (h b z)) e
/-- what may be written: a dict, a list, a check -/
def Mb (H : Hp) (b : Addr) : Prop := H b = none ∨ (∃ kvs, H b = some (.dK kvs)) ∨ (∃ xs, H b = some (.lst xs)) ∨ ∃ C dx l n od kd, H b = some (.ins C dx (ckF l n od kd))
theorem Mb.noTup {H : Hp} {b : Addr} {xs : List V} (m : Mb H b) (e : H b = some (.tup xs)) : False := by
  rcases m with m | ⟨_, m⟩ | ⟨_, m⟩ | ⟨_, _, _, _, _, _, m⟩ <;> (rw [m] at e; cases e)
theorem Mb.noTr {H : Hp} {b T dx : Addr} {s : Int} {c : V} {ka ra wa : Addr} (m : Mb H b) (e : H b = some (.ins T dx (trF s c ka ra wa))) : False := by
  rcases m with m | ⟨_, m⟩ | ⟨_, m⟩ | ⟨_, _, _, _, _, _, m⟩ <;> (rw [m] at e; cases e)
theorem RgsAt.sb {H H' : Hp} {L : List Addr} {xs : List V} {rs : List KT.Rg} (h : RgsAt H xs rs) (s : Sb L H H') (m : ∀ b ∈ L, Mb H b) : RgsAt H' xs rs := ⟨h.1, fun i x r h1 h2 => by
  obtain ⟨b, o, e, hb, ho⟩ := h.2 i x r h1 h2
  exact ⟨b, o, e, s _ _ (fun z => (m _ z).noTup hb) hb, s _ _ (fun z => (m _ z).noTup ho) ho⟩⟩
theorem TrAt.sb {T : Addr} {H H' : Hp} {L : List Addr} {a : Addr} {t : Tr} (h : TrAt T H a t) (s : Sb L H H') (m : ∀ b ∈ L, Mb H b) : TrAt T H' a t := by
  obtain ⟨dx, ka, ra, wa, xs, h1, h2, h3, h4, h5, h6⟩ := h
  exact ⟨dx, ka, ra, wa, xs, s _ _ (fun z => (m _ z).noTr h1) h1, s _ _ (fun z => (m _ z).noTup h2) h2, s _ _ (fun z => (m _ z).noTup h3) h3, h4.sb s m, s _ _ (fun z => (m _ z).noTup h5) h5, h6⟩
theorem KnAt.sb {T : Addr} {H H' : Hp} {L : List Addr} {d : Addr} {kn : KnL} (h : KnAt T H d kn) (s : Sb L H H') (m : ∀ b ∈ L, Mb H b) (hd : d ∉ L) : KnAt T H' d kn :=
  ⟨s _ _ hd h.at_, fun p hp => (h.tr p hp).sb s m, h.nd, h.few⟩
theorem CkAt.sb {C T : Addr} {H H' : Hp} {L : List Addr} {a od kd : Addr} {c : Ck} (h : CkAt C T H a od kd c) (s : Sb L H H') (m : ∀ b ∈ L, Mb H b) (h1 : a ∉ L) (h2 : od ∉ L) (h3 : kd ∉ L) : CkAt C T H' a od kd c := by
  obtain ⟨⟨dx, g1⟩, g2, g3, g4, g5⟩ := h
  exact ⟨⟨dx, s _ _ h1 g1⟩, s _ _ h2 g2, g3.sb s m h3, g4, g5⟩
theorem CkAt.mb {C T : Addr} {H : Hp} {a od kd : Addr} {c : Ck} (h : CkAt C T H a od kd c) : Mb H a ∧ Mb H od ∧ Mb H kd := by
  obtain ⟨⟨dx, g1⟩, g2, g3, g4, g5⟩ := h
  exact ⟨.inr (.inr (.inr ⟨C, dx, _, _, _, _, g1⟩)), .inr (.inl ⟨_, g2⟩), .inr (.inl ⟨_, g3.at_⟩)⟩
/-- the class Check -/
structure CkTx (K : PySem.W.Frag) (C : Addr) : Prop where
  cl : Cls K C
  n1 : NoAttr K C "kept_last"
  n2 : NoAttr K C "kept_next"
  n3 : NoAttr K C "kept_open"
  n4 : NoAttr K C "kept_known"
/-- what is handed to a commit -/
structure ArgsAt (H : Hp) (ka ra wr : Addr) (asked : List Str) (spans : List KT.Rg) (wrote : List Str) : Prop where
  hA : H ka = some (.tup (asked.map V.str))
  aW : asked.length ≤ 1000 ∧ (∀ z ∈ asked, KeyT z) ∧ UpT asked
  hS : ∃ xs, H ra = some (.tup xs) ∧ RgsAt H xs spans
  sW : spans.length ≤ 1000 ∧ (∀ r ∈ spans, RgW r) ∧ UpR spans
  hW : ∃ ws, H wr = some (.tup ws) ∧ WrsAt H ws wrote
  wW : wrote.length ≤ 1000 ∧ (∀ z ∈ wrote, KeyT z) ∧ UpT wrote
theorem ArgsAt.same {H H' : Hp} {ka ra wr : Addr} {asked : List Str} {spans : List KT.Rg} {wrote : List Str} (h : ArgsAt H ka ra wr asked spans wrote) (s : Same H H') : ArgsAt H' ka ra wr asked spans wrote := by
  obtain ⟨h1, h2, ⟨xs, h3, h4⟩, h5, ⟨ws, h6, h7⟩, h8⟩ := h
  exact ⟨s _ _ h1, h2, ⟨xs, s _ _ h3, h4.same s⟩, h5, ⟨ws, s _ _ h6, h7.same s⟩, h8⟩
theorem WrsAt.sb {H H' : Hp} {L : List Addr} {xs : List V} {zs : List Str} (h : WrsAt H xs zs) (s : Sb L H H') (m : ∀ b ∈ L, Mb H b) : WrsAt H' xs zs := ⟨h.1, fun i x z h1 h2 => by
  obtain ⟨b, v, e, hb, hv⟩ := h.2 i x z h1 h2
  exact ⟨b, v, e, s _ _ (fun q => (m _ q).noTup hb) hb, hv⟩⟩
theorem ArgsAt.sb {H H' : Hp} {L : List Addr} {ka ra wr : Addr} {asked : List Str} {spans : List KT.Rg} {wrote : List Str} (h : ArgsAt H ka ra wr asked spans wrote) (s : Sb L H H') (m : ∀ b ∈ L, Mb H b) : ArgsAt H' ka ra wr asked spans wrote := by
  obtain ⟨h1, h2, ⟨xs, h3, h4⟩, h5, ⟨ws, h6, h7⟩, h8⟩ := h
  exact ⟨s _ _ (fun z => (m _ z).noTup h1) h1, h2, ⟨xs, s _ _ (fun z => (m _ z).noTup h3) h3, h4.sb s m⟩, h5, ⟨ws, s _ _ (fun z => (m _ z).noTup h6) h6, h7.sb s m⟩, h8⟩
/-- numbers stay small -/
structure CkB (c : Ck) : Prop where
  srt : (c.kn.map (·.1)).Pairwise (· < ·)
  kb : ∀ k ∈ c.kn.map (·.1), 0 ≤ k ∧ k < BB
  ob : ∀ k ∈ c.opn.map (·.1), 0 ≤ k ∧ k < BB
  dis : ∀ k ∈ c.opn.map (·.1), k ∉ c.kn.map (·.1)
def mkTr (c : Ck) (snap : Int) (asked : List Str) (spans : List KT.Rg) (wrote : List Str) : Tr := ⟨snap, if wrote = [] then none else some (c.last + 1), asked, spans, wrote⟩
def ckRing (c : Ck) (e : Int) (t : Tr) : Option (List Int) := ringR (c.kn.map (·.1)) (fun k => (adr c.kn k).2) t (c.kn.length + 1) [[e]] []
def dropO (opn : OpL) (e : Int) : OpL := opn.filter fun p => decide (p.1 ≠ e)
theorem dropO_row (opn : OpL) (e : Int) : dropK (opn.map rowO) (Sum.inl e) = (dropO opn e).map rowO := by
  unfold dropK dropO
  rw [List.filter_map]
  congr 1
  refine List.filter_congr fun p _ => ?_
  show decide ((Sum.inl p.1 : Key) ≠ Sum.inl e) = decide (p.1 ≠ e)
  refine decide_eq_decide.mpr ⟨fun h z => h (by rw [z]), fun h z => h (by injection z)⟩
theorem opn_in {opn : OpL} (nd : (opn.map (·.1)).Nodup) {e s : Int} (h : (e, s) ∈ opn) : valV (opn.map rowO) (Sum.inl e) = some (.int s) := val_in (fun q : Int × Int => V.int q.2) nd h
theorem opn_out {opn : OpL} {e : Int} (h : e ∉ opn.map (·.1)) : valV (opn.map rowO) (Sum.inl e) = none := val_out (fun q : Int × Int => V.int q.2) h
theorem opn_get {H : Hp} {d : Addr} {opn : OpL} (hd : H d = some (.dK (opn.map rowO))) (nd : (opn.map (·.1)).Nodup) {e s : Int} (h : (e, s) ∈ opn) : DGet H d (.int e) (some (.int s)) := by
  have q := DGet.k (k := Sum.inl e) hd
  rw [opn_in nd h] at q
  exact q
def spRef (RF : Addr) : Sp := fun vs H Q _ => ∃ (a : Addr) (v : V), vs = [.ref a, v] ∧ H a = some (exo a RF none) ∧ ∀ dx, H dx = none → dx ≠ a → Q .non (upd (upd H dx (exd dx [("ring", v)])) a (exo a RF (some dx)))
def spCkInit (C T : Addr) : Sp := fun vs H Q _ => ∃ (a dx : Addr) (last : Int), vs = [.ref a, .int last] ∧ 0 ≤ last ∧ H a = some (.ins C dx []) ∧
  ∀ (od kd : Addr) (H' : Hp), (∀ b o, b ≠ a → H b = some o → H' b = some o) → H od = none → H kd = none → CkAt C T H' a od kd ⟨last, 0, [], []⟩ → Q .non H'
def spOpens (C T : Addr) : Sp := fun vs H Q _ => ∃ (a od kd : Addr) (c : Ck), vs = [.ref a, .int c.last] ∧ CkAt C T H a od kd c ∧ c.next ∉ c.opn.map (·.1) ∧ c.opn.length < 500 ∧
  ∀ H', Sb [a, od] H H' → CkAt C T H' a od kd ⟨c.last, c.next + 1, c.opn ++ [(c.next, c.last)], c.kn⟩ → Q (.int c.next) H'
def spCkOpen (C T : Addr) : Sp := fun vs H Q _ => ∃ (a od kd : Addr) (c : Ck) (e : Int), vs = [.ref a, .int e] ∧ CkAt C T H a od kd c ∧ e ∈ c.opn.map (·.1) ∧ Q .non H
/-- a ring is told -/
def Tells (RF : Addr) (H : Hp) (E : XK) (row : List Int) : Prop := ∀ (d p : Addr) (H' : Hp), Same H H' → H' d = some (.xd [("ring", .ref p)]) → H' p = some (.tup (row.map V.int)) → E (.ref RF) (some d) H'
def spTrace (C T RF : Addr) : Sp := fun vs H Q E => ∃ (a od kd : Addr) (c : Ck) (e snap : Int) (ka ra wr : Addr) (asked : List Str) (spans : List KT.Rg) (wrote : List Str),
  vs = [.ref a, .int e, .ref ka, .ref ra, .ref wr] ∧ CkAt C T H a od kd c ∧ CkB c ∧ (e, snap) ∈ c.opn ∧ ArgsAt H ka ra wr asked spans wrote ∧
  (ckRing c e (mkTr c snap asked spans wrote) = none → ∀ (ta : Addr) (H' : Hp), Same H H' → TrAt T H' ta (mkTr c snap asked spans wrote) → Q (.ref ta) H') ∧
  (∀ row, ckRing c e (mkTr c snap asked spans wrote) = some row → Tells RF H E row)
def spWould (C T RF : Addr) : Sp := fun vs H Q E => ∃ (a od kd : Addr) (c : Ck) (e snap : Int) (ka ra wr : Addr) (asked : List Str) (spans : List KT.Rg) (wrote : List Str),
  vs = [.ref a, .int e, .ref ka, .ref ra, .ref wr] ∧ CkAt C T H a od kd c ∧ CkB c ∧ (e, snap) ∈ c.opn ∧ ArgsAt H ka ra wr asked spans wrote ∧
  (∀ (v : V) (H' : Hp), Same H H' → Q v H') ∧ (∀ row, Tells RF H E row)
/-- what a closing leaves known -/
def KeptOf (kn : KnL) (ss : List Int) (kn' : KnL) : Prop := (kn'.map (·.1)).Pairwise (· < ·) ∧ ∀ q, q ∈ kn' ↔ q ∈ kn ∧ Reach kn (Begin kn ss) q.1
def spClose (C T : Addr) : Sp := fun vs H Q _ => ∃ (a od kd : Addr) (c : Ck) (e : Int), vs = [.ref a, .int e] ∧ CkAt C T H a od kd c ∧ e ∈ c.opn.map (·.1) ∧ c.opn.length ≤ 500 ∧
  ∀ (kd' : Addr) (H' : Hp) (kn' : KnL), Sb [a, od] H H' → H kd' = none → CkAt C T H' a od kd' ⟨c.last, c.next, dropO c.opn e, kn'⟩ → KeptOf c.kn ((dropO c.opn e).map (·.2)) kn' → Q .non H'
def spCommits (C T RF : Addr) : Sp := fun vs H Q E => ∃ (a od kd : Addr) (c : Ck) (e snap : Int) (ka ra wr : Addr) (asked : List Str) (spans : List KT.Rg) (wrote : List Str),
  vs = [.ref a, .int e, .ref ka, .ref ra, .ref wr] ∧ CkAt C T H a od kd c ∧ CkB c ∧ (e, snap) ∈ c.opn ∧ ArgsAt H ka ra wr asked spans wrote ∧ c.opn.length ≤ 500 ∧ c.kn.length < 60 ∧
  (ckRing c e (mkTr c snap asked spans wrote) = none → ∀ (ta kd' : Addr) (H' : Hp) (kn' : KnL), Sb [a, od, kd] H H' → H kd' = none → CkAt C T H' a od kd' ⟨(mkTr c snap asked spans wrote).count.getD c.last, c.next, dropO c.opn e, kn'⟩ →
    KeptOf (c.kn ++ [(e, ta, mkTr c snap asked spans wrote)]) ((dropO c.opn e).map (·.2)) kn' → Q (cV (mkTr c snap asked spans wrote).count) H') ∧
  (∀ row, ckRing c e (mkTr c snap asked spans wrote) = some row → Tells RF H E row)
def spLast (C T : Addr) : Sp := fun vs H Q _ => ∃ (a od kd : Addr) (c : Ck), vs = [.ref a] ∧ CkAt C T H a od kd c ∧ Q (.int c.last) H
def spOes (C T : Addr) : Sp := fun vs H Q _ => ∃ (a od kd : Addr) (c : Ck), vs = [.ref a] ∧ CkAt C T H a od kd c ∧ c.opn.length < 64 ∧ ∀ (ys : List Int) (p : Addr) (H' : Hp), ys.Perm (c.opn.map (·.1)) → ys.Pairwise (· < ·) → Same H H' → H' p = some (.tup (ys.map V.int)) → Q (.ref p) H'
def spRem (C T : Addr) : Sp := fun vs H Q _ => ∃ (a od kd : Addr) (c : Ck), vs = [.ref a] ∧ CkAt C T H a od kd c ∧ (c.kn.map (·.1)).Pairwise (· < ·) ∧ ∀ (p : Addr) (H' : Hp), Same H H' → H' p = some (.tup ((c.kn.map (·.1)).map V.int)) → Q (.ref p) H'
theorem scRefInit : FnScope ["self", "ring"] ["self", "ring"] (defScope sRefInit) := ⟨rfl, rfl, rfl, by decide +kernel, rfl, by decide +kernel, by decide +kernel⟩
theorem scCkInit : FnScope ["self", "last"] ["self", "last"] (defScope sCkInit) := ⟨rfl, rfl, rfl, by decide +kernel, rfl, by decide +kernel, by decide +kernel⟩
theorem scOpens : FnScope ["self", "snapshot", "least"] ["self", "snapshot"] (defScope sCkOpens) := ⟨rfl, rfl, rfl, by decide +kernel, rfl, by decide +kernel, by decide +kernel⟩
theorem scCkOpen : FnScope ["self", "entry"] ["self", "entry"] (defScope sCkOpen) := ⟨rfl, rfl, rfl, by decide +kernel, rfl, by decide +kernel, by decide +kernel⟩
theorem scTrace : FnScope ["self", "entry", "keys", "ranges", "writes", "number", "trace", "ring"] ["self", "entry", "keys", "ranges", "writes"] (defScope sCkTrace) := ⟨rfl, rfl, rfl, by decide +kernel, rfl, by decide +kernel, by decide +kernel⟩
theorem scWould : FnScope ["self", "entry", "keys", "ranges", "writes"] ["self", "entry", "keys", "ranges", "writes"] (defScope sCkWould) := ⟨rfl, rfl, rfl, by decide +kernel, rfl, by decide +kernel, by decide +kernel⟩
theorem scCommits : FnScope ["self", "entry", "keys", "ranges", "writes", "trace"] ["self", "entry", "keys", "ranges", "writes"] (defScope sCkCommits) := ⟨rfl, rfl, rfl, by decide +kernel, rfl, by decide +kernel, by decide +kernel⟩
theorem scGives : FnScope ["self", "entry"] ["self", "entry"] (defScope sCkGives) := ⟨rfl, rfl, rfl, by decide +kernel, rfl, by decide +kernel, by decide +kernel⟩
theorem scClose : FnScope ["self", "entry"] ["self", "entry"] (defScope sCkClose) := ⟨rfl, rfl, rfl, by decide +kernel, rfl, by decide +kernel, by decide +kernel⟩
theorem scLast : FnScope ["self"] ["self"] (defScope sCkLast) := ⟨rfl, rfl, rfl, by decide +kernel, rfl, by decide +kernel, by decide +kernel⟩
theorem scOes : FnScope ["self"] ["self"] (defScope sCkOes) := ⟨rfl, rfl, rfl, by decide +kernel, rfl, by decide +kernel, by decide +kernel⟩
theorem scRem : FnScope ["self"] ["self"] (defScope sCkRem) := ⟨rfl, rfl, rfl, by decide +kernel, rfl, by decide +kernel, by decide +kernel⟩
section
variable {P : Program} {w : World} {K : PySem.W.Frag} {mg : Str → Option Value} {base : Heap}
theorem ok_ref {f RF : Addr} {fd : FuncData} (F : Fun K "__init__" "Refused.__init__" sRefInit f fd) (RX : OexC K RF) (nR : PySem.W.findIn K (.ref RF) "ring" = some none) : FnOk P w K mg base CX0 1 f fd ["self", "ring"] (spRef RF) := by
  refine F.ok scRefInit (fun vs H Q E h => ?_) (fun cdv A outer s H vs Q E hr h => ?_)
  · obtain ⟨a, v, rfl, _⟩ := h
    rfl
  · obtain ⟨a, v, rfl, ha, k⟩ := h
    exact ⟨_, pss_one (ps_ost (pv 0) (pv 1)), _, rfl, _, rfl, a, RF, rfl, RX, nR, .inl ⟨ha, k⟩⟩
theorem ok_ckOpen {f fI C T : Addr} {fd fdI : FuncData} (F : Fun K "check_open" "Check.check_open" sCkOpen f fd) (CT : CkTx K C) (DI : Def P w K mg base CX0 1 "is_integer" fI fdI ["thing"] spInteger) : FnOk P w K mg base CX0 2 f fd ["self", "entry"] (spCkOpen C T) := by
  refine F.ok scCkOpen (fun vs H Q E h => ?_) (fun cdv A outer s H vs Q E hr h => ?_)
  · obtain ⟨a, od, kd, c, e, rfl, _⟩ := h
    rfl
  · obtain ⟨a, od, kd, c, e, rfl, ⟨⟨dx, g1⟩, g2, g3, g4, g5⟩, he, k⟩ := h
    refine ⟨_, pss_one (ps_if (PW.pt (pw_or (pt_not (pt_val (pe_call DI.ok hr (by rfl) DI.gl DI.kp DI.bd .nil pass0 (pa_cons (pv 1) pa_nil)))) (pw_or1 (pt_cmp (pc_dnotin (hu_of hr) (pv 1) (pe_fld (pv 0) rfl)))))) (pss_one ps_never) pss_nil), ?_⟩
    obtain ⟨p, hp, rfl⟩ := List.mem_map.mp he
    exact ⟨_, rfl, p.1, rfl, true, rfl, iteF ⟨_, rfl, _, rfl, a, C, dx, _, _, rfl, g1, CT.cl, CT.n3, rfl, od, _, rfl, opn_get g2 g5 (s := p.2) hp, _, rfl, iteF k⟩⟩
theorem ok_close {f fK C T : Addr} {fd fdK : FuncData} (F : Fun K "close" "Check.close" sCkClose f fd) (B : Bi mg) (CT : CkTx K C) (DK : Def P w K mg base CX0 6 "kept_of" fK fdK ["traces", "snapshots"] (spKept T)) : FnOk P w K mg base CX0 7 f fd ["self", "entry"] (spClose C T) := by
  refine F.ok scClose (fun vs H Q E h => ?_) (fun cdv A outer s H vs Q E hr h => ?_)
  · obtain ⟨a, od, kd, c, e, rfl, _⟩ := h
    rfl
  · obtain ⟨a, od, kd, c, e, rfl, ⟨⟨dx, g1⟩, g2, g3, g4, g5⟩, he, hl, k⟩ := h
    refine ⟨_, pss_cons (ps_expr (pe_dpop1 (pe_fld (pv 0) rfl) (pv 1) ⟨rfl, rfl, rfl, rfl⟩))
      (pss_one (ps_fld (pv 0) (pe_call DK.ok hr (by rfl) DK.gl DK.kp DK.bd .nil pass0 (pa_cons (pe_fld (pv 0) rfl) (pa_cons (pe_listVals rfl (by rfl) B.list (pe_fld (pv 0) rfl)) pa_nil))) rfl)), ?_⟩
    obtain ⟨p, hp, rfl⟩ := List.mem_map.mp he
    have nao : a ≠ od := ne_of g1 g2 (by intro z; cases z)
    have nak : a ≠ kd := ne_of g1 g3.at_ (by intro z; cases z)
    refine ⟨_, rfl, a, C, dx, _, _, rfl, g1, CT.cl, CT.n3, rfl, od, rfl, .inl ⟨_, .inl g2⟩, _, rfl, _, Sum.inl p.1, .int p.2, g2, rfl, opn_in g5 hp, ?_⟩
    rw [dropO_row]
    have s1 : Sb [a, od] H (upd H od (.dK ((dropO c.opn p.1).map rowO))) := fun b o hb hbo => by
      rw [upd_ne (fun z => hb (by rw [z]; simp))]; exact hbo
    have mb1 : ∀ b ∈ [od], Mb H b := fun b hb => by
      rw [List.mem_singleton.mp hb]; exact .inr (.inl ⟨_, g2⟩)
    have s1' : Sb [od] H (upd H od (.dK ((dropO c.opn p.1).map rowO))) := fun b o hb hbo => by
      rw [upd_ne (fun z => hb (by rw [z]; simp))]; exact hbo
    have f1 : upd H od (.dK ((dropO c.opn p.1).map rowO)) a = some (.ins C dx (ckF c.last c.next od kd)) := by rw [upd_ne nao]; exact g1
    have f2 : upd H od (.dK ((dropO c.opn p.1).map rowO)) od = some (.dK ((dropO c.opn p.1).map rowO)) := upd_same
    have f3 := g3.sb s1' mb1 (fun z => g4 (List.mem_singleton.mp z).symm)
    have fr : ∀ b, upd H od (.dK ((dropO c.opn p.1).map rowO)) b = none → H b = none := fun b hb => by
      by_cases z : b = od
      · rw [z, upd_same] at hb; cases hb
      · rw [upd_ne z] at hb; exact hb
    generalize upd H od (.dK ((dropO c.opn p.1).map rowO)) = H1 at s1 s1' f1 f2 f3 fr ⊢
    have hdl : (dropO c.opn p.1).length ≤ 1000 := Nat.le_trans (List.length_filter_le _ _) (by omega)
    refine ⟨_, rfl, a, C, dx, _, _, rfl, f1, CT.cl, CT.n4, rfl, _, rfl, a, C, dx, _, _, rfl, f1, CT.cl, CT.n3, rfl, od, _, rfl, f2, fun q hq => ?_⟩
    have ev : ((dropO c.opn p.1).map rowO).map (·.2) = ((dropO c.opn p.1).map (·.2)).map V.int := by rw [List.map_map, List.map_map]; rfl
    rw [ev]
    have sq := snew (o := .lst (((dropO c.opn p.1).map (·.2)).map V.int)) hq
    refine ⟨kd, q, c.kn, (dropO c.opn p.1).map (·.2), rfl, f3.same sq, upd_same, by rw [List.length_map]; exact hdl, fun kd' H2 kn' s2 hkn hkd hsrt hmem => ?_⟩
    have s12 := sq.trans s2
    have hkn1 : H1 kd' = none := Same.free sq hkn
    have hkn0 : H kd' = none := fr kd' hkn1
    have h2a := s12 _ _ f1
    have nka : kd' ≠ a := fun z => by rw [z, g1] at hkn0; cases hkn0
    have nko : od ≠ kd' := fun z => by rw [← z, g2] at hkn0; cases hkn0
    refine ⟨_, rfl, a, C, dx, _, rfl, h2a, CT.cl, CT.n4, (by show 4 < 1000; decide), ?_⟩
    have s3 : Sb [a] H2 (upd H2 a (.ins C dx (putF "kept_known" (.ref kd') (ckF c.last c.next od kd)))) := fun b o hb hbo => by
      rw [upd_ne (fun z => hb (by rw [z]; simp))]; exact hbo
    have mb2 : ∀ b ∈ [a], Mb H2 b := fun b hb => by
      rw [List.mem_singleton.mp hb]; exact .inr (.inr (.inr ⟨C, dx, _, _, _, _, h2a⟩))
    refine k kd' _ kn' (fun b o hb hbo => ?_) hkn0 ⟨⟨dx, ?_⟩, ?_, hkd.sb s3 mb2 (fun z => nka (List.mem_singleton.mp z)), nko, ?_⟩ ⟨hsrt, hmem⟩
    · refine s3 b o (fun z => hb (by rw [List.mem_singleton.mp z]; simp)) (s12 b o (s1 b o hb hbo))
    · rw [upd_same]; rfl
    · rw [upd_ne nao.symm]; exact s12 _ _ f2
    · exact g5.sublist (List.filter_sublist.map _)
end
end K58

namespace K58
open PySem L2
section
variable {P : Program} {w : World} {K : PySem.W.Frag} {mg : Str → Option Value} {base : Heap}
theorem ok_ckInit {f fI C T : Addr} {fd fdI : FuncData} (F : Fun K "__init__" "Check.__init__" sCkInit f fd) (CT : CkTx K C) (DI : Def P w K mg base CX0 1 "is_integer" fI fdI ["thing"] spInteger) : FnOk P w K mg base CX0 2 f fd ["self", "last"] (spCkInit C T) := by
  refine F.ok scCkInit (fun vs H Q E h => ?_) (fun cdv A outer s H vs Q E hr h => ?_)
  · obtain ⟨a, dx, last, rfl, _⟩ := h
    rfl
  · obtain ⟨a, dx, last, rfl, h0, ha, k⟩ := h
    refine ⟨_, pss_cons (ps_if (PW.pt (pw_or (pt_not (pt_val (pe_call DI.ok hr (by rfl) DI.gl DI.kp DI.bd .nil pass0 (pa_cons (pv 1) pa_nil)))) (pw_or1 (pt_cmpR op_lt (pv 1) pe_int (nomark _))))) (pss_one ps_never) pss_nil)
      (pss_cons (ps_fld (pv 0) (pv 1) rfl) (pss_cons (ps_fld (pv 0) pe_int rfl) (pss_cons (ps_fld (pv 0) pe_dnewK rfl) (pss_one (ps_fld (pv 0) pe_dnewK rfl))))), ?_⟩
    refine ⟨_, rfl, last, rfl, true, rfl, iteF ⟨_, rfl, _, _, rfl, rfl, decide (last < 0), rfl, ?_⟩⟩
    rw [decide_eq_false (by omega)]
    refine iteF ?_
    refine ⟨_, rfl, _, rfl, a, C, dx, [], rfl, ha, CT.cl, CT.n1, (by show 0 < 1000; decide), ?_⟩
    refine ⟨_, rfl, a, C, dx, _, rfl, upd_same, CT.cl, CT.n2, (by show 1 < 1000; decide), ?_⟩
    intro od hod
    have nao : a ≠ od := fun z => by rw [← z, upd_same] at hod; cases hod
    have hod0 : H od = none := by rw [upd_ne nao.symm, upd_ne nao.symm] at hod; exact hod
    refine ⟨_, rfl, a, C, dx, _, rfl, by rw [upd_ne nao]; exact upd_same, CT.cl, CT.n3, (by show 2 < 1000; decide), ?_⟩
    intro kd hkd
    have nak : a ≠ kd := fun z => by rw [← z, upd_same] at hkd; cases hkd
    have nok : od ≠ kd := fun z => by rw [← z, upd_ne nao.symm, upd_same] at hkd; cases hkd
    have hkd0 : H kd = none := by rw [upd_ne nak.symm, upd_ne nok.symm, upd_ne nak.symm, upd_ne nak.symm] at hkd; exact hkd
    refine ⟨_, rfl, a, C, dx, _, rfl, by rw [upd_ne nak]; exact upd_same, CT.cl, CT.n4, (by show 3 < 1000; decide), ?_⟩
    refine k od kd _ (fun b o hb e => ?_) hod0 hkd0 ⟨⟨dx, by rw [upd_same]; rfl⟩, ?_, ⟨?_, fun p hp => (by cases hp), List.nodup_nil, (by show 0 < 64; decide)⟩, nok, List.nodup_nil⟩
    · rw [upd_ne hb, upd_ne (ne_of_none e hkd0), upd_ne hb, upd_ne (ne_of_none e hod0), upd_ne hb, upd_ne hb]; exact e
    · rw [upd_ne nao.symm, upd_ne nok, upd_ne nao.symm]; exact upd_same
    · rw [upd_ne nak.symm]; exact upd_same
theorem ok_opens {f fW C T : Addr} {fd fdW : FuncData} (F : Fun K "opens" "Check.opens" sCkOpens f fd) (B : Bi mg) (CT : CkTx K C) (DW : Def P w K mg base CX0 2 "is_within" fW fdW ["thing", "least", "most"] spWithin) : FnOk P w K mg base CX0 3 f fd ["self", "snapshot"] (spOpens C T) := by
  refine F.ok scOpens (fun vs H Q E h => ?_) (fun cdv A outer s H vs Q E hr h => ?_)
  · obtain ⟨a, od, kd, c, rfl, _⟩ := h
    rfl
  · obtain ⟨a, od, kd, c, rfl, ⟨⟨dx, g1⟩, g2, g3, g4, g5⟩, hn, hl, k⟩ := h
    refine ⟨_, pss_cons (ps_set (i := 2) scOpens.nd rfl (Or.inl rfl) (pe_callB (cr_min rfl) (by rfl) B.min (by decide +kernel) (pa_cons (pe_op op_cat (pe_lst (pa_cons (pe_fld (pv 0) rfl) pa_nil)) (pe_listVals rfl (by rfl) B.list (pe_fld (pv 0) rfl))) pa_nil)))
      (pss_cons (ps_if (pt_not (pt_val (pe_call DW.ok hr (by rfl) DW.gl DW.kp DW.bd .nil pass0 (pa_cons (pv 1) (pa_cons (pv 2) (pa_cons (pe_fld (pv 0) rfl) pa_nil)))))) (pss_one ps_never) pss_nil)
      (pss_cons (ps_dput (hu_of hr) (pe_fld (pv 0) rfl) (pe_fld (pv 0) rfl) (pv 1) rfl)
      (pss_cons (ps_fldaug (pv 0) pe_int in_add)
      (pss_one (ps_ret (pe_op op_sub (pe_fld (pv 0) rfl) pe_int)))))), ?_⟩
    have nao : a ≠ od := ne_of g1 g2 (by intro z; cases z)
    have nak : a ≠ kd := ne_of g1 g3.at_ (by intro z; cases z)
    refine ⟨_, rfl, a, C, dx, _, _, rfl, g1, CT.cl, CT.n1, rfl, (by show 1 ≤ sizeLine; decide), fun p hp => ?_⟩
    have sp := snew (o := .lst [.int c.last]) hp
    refine ⟨_, rfl, a, C, dx, _, _, rfl, sp _ _ g1, CT.cl, CT.n3, rfl, od, _, rfl, sp _ _ g2, fun q hq => ?_⟩
    have ev : (c.opn.map rowO).map (·.2) = (c.opn.map (·.2)).map V.int := by rw [List.map_map, List.map_map]; rfl
    rw [ev]
    have npq : p ≠ q := fun z => by rw [← z, upd_same] at hq; cases hq
    have sq := sp.trans (snew (o := .lst ((c.opn.map (·.2)).map V.int)) hq)
    have big : (1000 : Nat) < sizeLine := Nat.lt_trans (by decide) line_big
    have hlen : [V.int c.last].length + ((c.opn.map (·.2)).map V.int).length ≤ sizeLine := by rw [List.length_map, List.length_map]; show 1 + c.opn.length ≤ sizeLine; omega
    refine ⟨p, q, [.int c.last], (c.opn.map (·.2)).map V.int, rfl, rfl, (by rw [upd_ne npq]; exact upd_same), upd_same, hlen, fun r hr2 => ?_⟩
    have sr := sq.trans (snew (o := .lst ([.int c.last] ++ (c.opn.map (·.2)).map V.int)) hr2)
    refine ⟨r, c.last :: c.opn.map (·.2), rfl, SqL.of upd_same, by rw [List.length_cons]; omega, fun m hm hmin => ?_⟩
    generalize upd (upd (upd H p _) q _) r _ = H1 at sr ⊢
    have f1 := sr _ _ g1
    refine ⟨_, rfl, _, rfl, _, rfl, a, C, dx, _, _, rfl, f1, CT.cl, CT.n1, rfl, c.last, m, c.last, rfl, ?_⟩
    have hml := hmin c.last List.mem_cons_self
    rw [decide_eq_true hml, decide_eq_true (Int.le_refl c.last)]
    refine ⟨true, rfl, iteF ?_⟩
    refine ⟨_, rfl, _, rfl, a, C, dx, _, _, rfl, f1, CT.cl, CT.n3, rfl, _, rfl, a, C, dx, _, _, rfl, f1, CT.cl, CT.n2, rfl, od, _, rfl, DPut.k (k := Sum.inl c.next) (sr _ _ g2) (by rw [List.length_map]; omega), ?_⟩
    rw [putK_new _ (opn_out hn)]
    have e2 : c.opn.map rowO ++ [(Sum.inl c.next, V.int c.last)] = (c.opn ++ [(c.next, c.last)]).map rowO := by rw [List.map_append]; rfl
    rw [e2]
    have f1' : upd H1 od (.dK ((c.opn ++ [(c.next, c.last)]).map rowO)) a = some (.ins C dx (ckF c.last c.next od kd)) := by rw [upd_ne nao]; exact f1
    refine ⟨_, rfl, a, C, dx, _, _, rfl, f1', CT.cl, CT.n2, rfl, _, _, rfl, rfl, dx, _, f1', (by show 4 < 1000; decide), ?_⟩
    refine ⟨_, rfl, a, C, dx, _, _, rfl, upd_same, CT.cl, CT.n2, rfl, _, _, rfl, rfl, ?_⟩
    show Q (.int (c.next + 1 - 1)) _
    rw [Int.add_sub_cancel]
    have g3r := g3.same sr
    have sb : Sb [a, od] H (upd (upd H1 od (.dK ((c.opn ++ [(c.next, c.last)]).map rowO))) a (.ins C dx (putF "kept_next" (.int (c.next + 1)) (ckF c.last c.next od kd)))) := fun b o hb hbo => by
      rw [upd_ne (fun z => hb (by rw [z]; simp)), upd_ne (fun z => hb (by rw [z]; simp))]; exact sr _ _ hbo
    have mb : ∀ b ∈ [a, od], Mb H b := fun b hb => by
      rcases List.mem_cons.mp hb with z | z
      · rw [z]; exact .inr (.inr (.inr ⟨C, dx, _, _, _, _, g1⟩))
      · rw [List.mem_singleton.mp z]; exact .inr (.inl ⟨_, g2⟩)
    refine k _ sb ⟨⟨dx, by rw [upd_same]; rfl⟩, by rw [upd_ne nao.symm]; exact upd_same, g3.sb sb mb (fun z => ?_), g4, ?_⟩
    · rcases List.mem_cons.mp z with z | z
      · exact nak z.symm
      · exact g4 (List.mem_singleton.mp z).symm
    · rw [List.map_append]
      refine List.nodup_append.mpr ⟨g5, by simp, fun x hx y hy => ?_⟩
      rw [List.map_singleton, List.mem_singleton] at hy
      rw [hy]
      exact fun z => hn (by have z2 : x = c.next := z; rw [← z2]; exact hx)
theorem ok_gives {f fO fC C T : Addr} {fd fdO fdC : FuncData} (F : Fun K "gives_up" "Check.gives_up" sCkGives f fd) (CT : CkTx K C) (DO : MDef P w K mg base CX0 2 C "check_open" fO fdO ["self", "entry"] (spCkOpen C T)) (DC : MDef P w K mg base CX0 7 C "close" fC fdC ["self", "entry"] (spClose C T)) :
    FnOk P w K mg base CX0 8 f fd ["self", "entry"] (spClose C T) := by
  refine F.ok scGives (fun vs H Q E h => ?_) (fun cdv A outer s H vs Q E hr h => ?_)
  · obtain ⟨a, od, kd, c, e, rfl, _⟩ := h
    rfl
  · obtain ⟨a, od, kd, c, e, rfl, hc, he, hl, k⟩ := h
    obtain ⟨dx, g1⟩ := hc.ob
    refine ⟨_, pss_cons (ps_expr (pe_meth (pv 0) CT.cl DO.mt DO.ok (hr.mono (by decide)) DO.bd .nil pass0 (pa_cons (pv 1) pa_nil))) (pss_one (ps_expr (pe_meth (pv 0) CT.cl DC.mt DC.ok hr DC.bd .nil pass0 (pa_cons (pv 1) pa_nil)))), ?_⟩
    refine ⟨_, rfl, a, dx, _, rfl, g1, rfl, _, rfl, a, od, kd, c, e, rfl, hc, he, ?_⟩
    exact ⟨_, rfl, a, dx, _, rfl, g1, rfl, _, rfl, a, od, kd, c, e, rfl, hc, he, hl, k⟩
theorem ok_last {f C T : Addr} {fd : FuncData} (F : Fun K "last" "Check.last" sCkLast f fd) (CT : CkTx K C) : FnOk P w K mg base CX0 1 f fd ["self"] (spLast C T) := by
  refine F.ok scLast (fun vs H Q E h => ?_) (fun cdv A outer s H vs Q E hr h => ?_)
  · obtain ⟨a, od, kd, c, rfl, _⟩ := h
    rfl
  · obtain ⟨a, od, kd, c, rfl, hc, k⟩ := h
    obtain ⟨dx, g1⟩ := hc.ob
    exact ⟨_, pss_one (ps_ret (pe_fld (pv 0) rfl)), _, rfl, a, C, dx, _, _, rfl, g1, CT.cl, CT.n1, rfl, k⟩
theorem ok_oes {f C T : Addr} {fd : FuncData} (F : Fun K "open_entries" "Check.open_entries" sCkOes f fd) (B : Bi mg) (CT : CkTx K C) : FnOk P w K mg base CX0 1 f fd ["self"] (spOes C T) := by
  refine F.ok scOes (fun vs H Q E h => ?_) (fun cdv A outer s H vs Q E hr h => ?_)
  · obtain ⟨a, od, kd, c, rfl, _⟩ := h
    rfl
  · obtain ⟨a, od, kd, c, rfl, ⟨⟨dx, g1⟩, g2, g3, g4, g5⟩, hl, k⟩ := h
    refine ⟨_, pss_one (ps_ret (pe_callTy call_tuple_of (by rfl) B.tuple (by decide +kernel) (pa_cons (pe_callB (call_sortedDI rfl) (by rfl) B.sorted (by decide +kernel) (pa_cons (pe_fld (pv 0) rfl) pa_nil)) pa_nil))), ?_⟩
    refine ⟨_, rfl, a, C, dx, _, _, rfl, g1, CT.cl, CT.n3, rfl, od, _, c.opn.map (·.1), rfl, .inl g2, by rw [List.map_map, List.map_map]; rfl, by rw [List.length_map]; exact hl, fun ys p hp hs2 hpn => ?_⟩
    refine ⟨p, _, rfl, .inl ⟨SqL.of upd_same, fun q hq => ?_⟩⟩
    exact k ys q _ hp (sorted_lt hp hs2 g5) ((snew hpn).trans (snew hq)) upd_same
theorem ok_rem {f C T : Addr} {fd : FuncData} (F : Fun K "remembered" "Check.remembered" sCkRem f fd) (B : Bi mg) (CT : CkTx K C) : FnOk P w K mg base CX0 1 f fd ["self"] (spRem C T) := by
  refine F.ok scRem (fun vs H Q E h => ?_) (fun cdv A outer s H vs Q E hr h => ?_)
  · obtain ⟨a, od, kd, c, rfl, _⟩ := h
    rfl
  · obtain ⟨a, od, kd, c, rfl, ⟨⟨dx, g1⟩, g2, g3, g4, g5⟩, hs, k⟩ := h
    refine ⟨_, pss_one (ps_ret (pe_callTy call_tuple_of (by rfl) B.tuple (by decide +kernel) (pa_cons (pe_callB (call_sortedDI rfl) (by rfl) B.sorted (by decide +kernel) (pa_cons (pe_fld (pv 0) rfl) pa_nil)) pa_nil))), ?_⟩
    refine ⟨_, rfl, a, C, dx, _, _, rfl, g1, CT.cl, CT.n4, rfl, kd, _, c.kn.map (·.1), rfl, .inl g3.at_, g3.keys, by rw [List.length_map]; exact g3.few, fun ys p hp hs2 hpn => ?_⟩
    have e := sort_same hp hs2 hs
    subst e
    refine ⟨p, _, rfl, .inl ⟨SqL.of upd_same, fun q hq => ?_⟩⟩
    exact k q _ ((snew hpn).trans (snew hq)) upd_same
/-- the class Refused -/
structure RefTx (K : PySem.W.Frag) (mg : Str → Option Value) (RF fR : Addr) : Prop where
  ox : OexC K RF
  nR : PySem.W.findIn K (.ref RF) "ring" = some none
  iC : PySem.W.findIn K (.ref RF) "__init__" = some (some (.ref fR))
  tI : PySem.W.typeIn K (.ref fR) = some (.type "function")
  gC : mg "Refused" = some (.ref RF)
theorem ok_trace {f fO fA fG fW fT fN fR RF C T : Addr} {fd fdO fdA fdG fdW fdT fdN fdR : FuncData} (F : Fun K "trace_of" "Check.trace_of" sCkTrace f fd) (B : Bi mg) (CT : CkTx K C) (RT : RefTx K mg RF fR) (gT : mg "Trace" = some (.ref T)) (MT : Mk K T fT)
    (DO : MDef P w K mg base CX0 2 C "check_open" fO fdO ["self", "entry"] (spCkOpen C T)) (DA : Def P w K mg base CX0 2 "are_keys" fA fdA ["thing"] spKeys) (DG : Def P w K mg base CX0 4 "are_ranges" fG fdG ["thing"] spRanges)
    (DW : Def P w K mg base CX0 5 "are_writes" fW fdW ["thing"] spWrites) (GT : FnOk P w K mg base CX0 1 fT fdT ["self", "snapshot", "number", "keys", "ranges", "writes"] (spTrInit T)) (bT : Binds K fdT ["self", "snapshot", "number", "keys", "ranges", "writes"] [])
    (DN : Def P w K mg base CX0 5 "shortest_ring" fN fdN ["traces", "entry", "trace"] (spRing T)) (GR : FnOk P w K mg base CX0 1 fR fdR ["self", "ring"] (spRef RF)) (bR : Binds K fdR ["self", "ring"] []) :
    FnOk P w K mg base (L2.CX P w) 6 f fd ["self", "entry", "keys", "ranges", "writes"] (spTrace C T RF) := by
  refine F.okX scTrace (fun vs H Q E h => ?_) (fun cdv A outer s H vs Q E hr h => ?_)
  · obtain ⟨a, od, kd, c, e, snap, ka, ra, wr, asked, spans, wrote, rfl, _⟩ := h
    rfl
  · obtain ⟨a, od, kd, c, e, snap, ka, ra, wr, asked, spans, wrote, rfl, hc, hb, hes, ha, k1, k2⟩ := h
    refine ⟨_, pss_cons (ps_expr (pe_meth (pv 0) CT.cl DO.mt DO.ok (hr.mono (by decide)) DO.bd .nil pass0 (pa_cons (pv 1) pa_nil)))
      (pss_cons (ps_if (PW.pt (pw_or (pt_not (pt_val (pe_call DA.ok (hr.mono (by decide)) (by rfl) DA.gl DA.kp DA.bd .nil pass0 (pa_cons (pv 2) pa_nil)))) (pw_or1 (pt_not (pt_val (pe_call DG.ok (hr.mono (by decide)) (by rfl) DG.gl DG.kp DG.bd .nil pass0 (pa_cons (pv 3) pa_nil))))))) (pss_one ps_never) pss_nil)
      (pss_cons (ps_if (pt_not (pt_val (pe_call DW.ok hr (by rfl) DW.gl DW.kp DW.bd .nil pass0 (pa_cons (pv 4) pa_nil)))) (pss_one ps_never) pss_nil)
      (pss_mid (ps_set (i := 5) scTrace.nd rfl (Or.inl rfl) (pe_ifExp (pt_cmpR op_gt (pe_callB call_len (by rfl) B.len (by decide +kernel) (pa_cons (pv 4) pa_nil)) pe_int (nomark _)) (pe_op op_add (pe_fld (pv 0) rfl) pe_int) pe_non))
      (pss_cons (ps_set (i := 6) scTrace.nd rfl (Or.inl rfl) (pe_make MT GT (hr.mono (by decide)) (by rfl) gT bT .nil pass0 (pa_cons (pe_dget (hu_of hr) (pe_fld (pv 0) rfl) (pv 1) (fun _ _ => rfl)) (pa_cons (pv 5) (pa_cons (pv 2) (pa_cons (pv 3) (pa_cons (pv 4) pa_nil)))))))
      (pss_cons (ps_set (i := 7) scTrace.nd rfl (Or.inl rfl) (pe_call DN.ok hr (by rfl) DN.gl DN.kp DN.bd .nil pass0 (pa_cons (pe_fld (pv 0) rfl) (pa_cons (pv 1) (pa_cons (pv 6) pa_nil)))))
      (pss_cons (ps_if (pt_cmpR op_notN (pv 7) pe_non (nomark _)) (pss_one (ps_raise rfl (takes_of rfl rfl rfl rfl) (pmk_oex RT.ox RT.iC RT.tI GR (hr.mono (by decide)) bR .nil pass0 (by rfl) RT.gC (pa_cons (pv 7) pa_nil)))) pss_nil)
      (pss_one (ps_ret (pv 6))))))))), ?_⟩
    obtain ⟨dx, g1⟩ := hc.ob
    obtain ⟨hA, hAW, ⟨xs, hS, hS2⟩, hSW, ⟨ws, hW, hW2⟩, hWW⟩ := id ha
    have hek : e ∈ c.opn.map (·.1) := List.mem_map.mpr ⟨_, hes, rfl⟩
    obtain ⟨t, ht⟩ : ∃ t, t = mkTr c snap asked spans wrote := ⟨_, rfl⟩
    rw [← ht] at k1 k2
    refine ⟨_, rfl, a, dx, _, rfl, g1, rfl, _, rfl, a, od, kd, c, e, rfl, hc, hek, ?_⟩
    refine ⟨_, rfl, ka, asked, rfl, hA, hAW.1, hAW.2.1, hAW.2.2, fun H1 s1 => ⟨true, rfl, iteF ?_⟩⟩
    refine ⟨_, rfl, ra, xs, spans, rfl, s1 _ _ hS, hS2.same s1, hSW.1, hSW.2.1, hSW.2.2, fun H2 s2 => ⟨true, rfl, iteF ?_⟩⟩
    have s12 := s1.trans s2
    refine ⟨_, rfl, wr, ws, wrote, rfl, s12 _ _ hW, hW2.same s12, hWW.1, hWW.2.1, hWW.2.2, fun H3 s3 => ⟨true, rfl, iteF ?_⟩⟩
    have s13 := s12.trans s3
    have g13 := s13 _ _ g1
    have hWl : ws.length = wrote.length := hW2.1
    refine ⟨fun σ' H' => σ' = [some (.ref a), some (.int e), some (.ref ka), some (.ref ra), some (.ref wr), some (cV t.count), none, none] ∧ H' = H3, ?_, ?_⟩
    · refine ⟨_, rfl, _, ws.length, rfl, .inr ⟨_, SqT.of (s13 _ _ hW), rfl⟩, _, _, rfl, rfl, decide ((0 : Int) < ws.length), rfl, ?_⟩
      by_cases h0 : wrote = []
      · have e0 : ws.length = 0 := by rw [hWl, h0]; rfl
        rw [show decide ((0 : Int) < (ws.length : Nat)) = false from decide_eq_false (by omega)]
        refine iteF ⟨?_, rfl⟩
        have ec : t.count = none := by rw [ht]; exact if_pos h0
        rw [ec]; rfl
      · have e0 : 0 < wrote.length := List.length_pos_iff.mpr h0
        rw [show decide ((0 : Int) < (ws.length : Nat)) = true from decide_eq_true (by omega)]
        refine iteT ⟨_, rfl, a, C, dx, _, _, rfl, g13, CT.cl, CT.n1, rfl, _, _, rfl, rfl, ?_, rfl⟩
        have ec : t.count = some (c.last + 1) := by rw [ht]; exact if_neg h0
        rw [ec]; rfl
    · rintro σ' H' ⟨rfl, rfl⟩
      have hc3 := hc.same s13
      refine ⟨_, rfl, a, C, dx, _, _, rfl, g13, CT.cl, CT.n3, rfl, _, rfl, od, _, rfl, opn_get hc3.opn hc3.nd hes, _, rfl, _, rfl, _, rfl, _, rfl, ?_⟩
      intro ta dxt hta hdxt hne
      have su : Same H' (upd (upd H' dxt (.own ta)) ta (.ins T dxt [])) := fun b o hbo => by
        rw [upd_ne (ne_of_none hbo hta), upd_ne (ne_of_none hbo hdxt)]; exact hbo
      have sX := s13.trans su
      refine ⟨ta, dxt, snap, t.count, ka, ra, wr, asked, wrote, xs, ws, spans, rfl, upd_same, sX _ _ hA, sX _ _ hS, hS2.same sX, sX _ _ hW, hW2.same sX, hAW.1, hSW.1, hWW.1, fun H4 s4 hT4 => ⟨rfl, ?_⟩⟩
      have ht4 : TrAt T H4 ta t := by
        have et : (⟨snap, t.count, asked, spans, wrote⟩ : Tr) = t := by rw [ht]; rfl
        rw [et] at hT4
        exact hT4
      have s14 : Same H H4 := fun b o hbo => s4 b o (ne_of_none (s13 _ _ hbo) hta) (sX b o hbo)
      have hc4 := hc.same s14
      obtain ⟨dx4, g14⟩ := hc4.ob
      refine ⟨_, rfl, a, C, dx4, _, _, rfl, g14, CT.cl, CT.n4, rfl, _, rfl, _, rfl, ?_⟩
      refine ⟨kd, ta, e, c.kn, t, rfl, hc4.kn, hb.srt, ht4, hb.ob e hek, hb.kb, fun hR H5 s5 => ?_, fun row hR p H5 s5 hp => ?_⟩
      · refine ⟨_, rfl, rfl, false, rfl, iteF ⟨_, rfl, ?_⟩⟩
        exact k1 hR ta H5 (s14.trans s5) (ht4.same s5)
      · refine ⟨_, rfl, rfl, true, rfl, iteT ⟨_, rfl, (by show 1 ≤ 1000; decide), fun ea hea => ?_⟩⟩
        refine ⟨ea, .ref p, rfl, upd_same, fun dd hdd hne2 => ⟨rfl, dd, [("ring", .ref p)], upd_same, by rw [upd_ne hne2]; exact upd_same, ?_, ?_⟩⟩
        · rw [upd_ne hne2] at hdd; exact hdd
        · have hdd0 : H5 dd = none := by rw [upd_ne hne2] at hdd; exact hdd
          have s15 := s14.trans s5
          refine k2 row hR dd p _ (fun b o hbo => ?_) upd_same ?_
          · have h5b := s15 _ _ hbo
            have n1 := ne_of_none h5b hdd0
            have n2 := ne_of_none h5b hea
            rw [upd_ne n1, del_ne n2, upd_ne n2, upd_ne n1, upd_ne n2]
            exact h5b
          · have n1 := ne_of_none hp hdd0
            have n2 := ne_of_none hp hea
            rw [upd_ne n1, del_ne n2, upd_ne n2, upd_ne n1, upd_ne n2]
            exact hp
end
end K58

namespace K58
open PySem L2
section
variable {P : Program} {w : World} {K : PySem.W.Frag} {mg : Str → Option Value} {base : Heap}
theorem ok_would {f fT RF C T : Addr} {fd fdT : FuncData} (F : Fun K "would_commit" "Check.would_commit" sCkWould f fd) (CT : CkTx K C) (TT : TrTx K T) (DT : MDef P w K mg base (L2.CX P w) 6 C "trace_of" fT fdT ["self", "entry", "keys", "ranges", "writes"] (spTrace C T RF)) :
    FnOk P w K mg base (L2.CX P w) 7 f fd ["self", "entry", "keys", "ranges", "writes"] (spWould C T RF) := by
  refine F.okX scWould (fun vs H Q E h => ?_) (fun cdv A outer s H vs Q E hr h => ?_)
  · obtain ⟨a, od, kd, c, e, snap, ka, ra, wr, asked, spans, wrote, rfl, _⟩ := h
    rfl
  · obtain ⟨a, od, kd, c, e, snap, ka, ra, wr, asked, spans, wrote, rfl, hc, hb, hes, ha, k1, k2⟩ := h
    refine ⟨_, pss_one (ps_ret (pe_fld (pe_meth (pv 0) CT.cl DT.mt DT.ok hr DT.bd .nil (passes_call (takes_of rfl rfl rfl rfl) (fun _ _ _ _ h => h)) (pa_cons (pv 1) (pa_cons (pv 2) (pa_cons (pv 3) (pa_cons (pv 4) pa_nil))))) rfl)), ?_⟩
    obtain ⟨dx, g1⟩ := hc.ob
    refine ⟨_, rfl, a, dx, _, rfl, g1, rfl, _, rfl, _, rfl, _, rfl, _, rfl, ?_⟩
    refine ⟨a, od, kd, c, e, snap, ka, ra, wr, asked, spans, wrote, rfl, hc, hb, hes, ha, fun _ ta H1 s1 ht => ?_, fun row _ => k2 row⟩
    obtain ⟨dxt, ka', ra', wa', xs', h1, _⟩ := id ht
    exact ⟨ta, T, dxt, _, _, rfl, h1, TT.cl, TT.n2, rfl, k1 _ H1 s1⟩
theorem ok_commits {f fT fC RF C T : Addr} {fd fdT fdC : FuncData} (F : Fun K "commits" "Check.commits" sCkCommits f fd) (CT : CkTx K C) (TT : TrTx K T) (DT : MDef P w K mg base (L2.CX P w) 6 C "trace_of" fT fdT ["self", "entry", "keys", "ranges", "writes"] (spTrace C T RF))
    (DC : MDef P w K mg base CX0 7 C "close" fC fdC ["self", "entry"] (spClose C T)) :
    FnOk P w K mg base (L2.CX P w) 8 f fd ["self", "entry", "keys", "ranges", "writes"] (spCommits C T RF) := by
  refine F.okX scCommits (fun vs H Q E h => ?_) (fun cdv A outer s H vs Q E hr h => ?_)
  · obtain ⟨a, od, kd, c, e, snap, ka, ra, wr, asked, spans, wrote, rfl, _⟩ := h
    rfl
  · obtain ⟨a, od, kd, c, e, snap, ka, ra, wr, asked, spans, wrote, rfl, hc, hb, hes, ha, hl1, hl2, k1, k2⟩ := h
    refine ⟨_, pss_cons (ps_set (i := 5) scCommits.nd rfl (Or.inl rfl) (pe_meth (pv 0) CT.cl DT.mt DT.ok (hr.mono (by decide)) DT.bd .nil (passes_call (takes_of rfl rfl rfl rfl) (fun _ _ _ _ h => h)) (pa_cons (pv 1) (pa_cons (pv 2) (pa_cons (pv 3) (pa_cons (pv 4) pa_nil))))))
      (pss_cons (ps_dput (hu_of hr) (pe_fld (pv 0) rfl) (pv 1) (pv 5) rfl)
      (pss_mid (ps_if (pt_cmpR op_notN (pe_fld (pv 5) rfl) pe_non (nomark _)) (pss_one (ps_fld (pv 0) (pe_fld (pv 5) rfl) rfl)) pss_nil)
      (pss_cons (ps_expr (pe_meth (pv 0) CT.cl DC.mt DC.ok hr DC.bd .nil pass0 (pa_cons (pv 1) pa_nil)))
      (pss_one (ps_ret (pe_fld (pv 5) rfl)))))), ?_⟩
    obtain ⟨dx, g1⟩ := hc.ob
    have hek : e ∈ c.opn.map (·.1) := List.mem_map.mpr ⟨_, hes, rfl⟩
    have hnk := hb.dis e hek
    obtain ⟨t, ht⟩ : ∃ t, t = mkTr c snap asked spans wrote := ⟨_, rfl⟩
    rw [← ht] at k1 k2
    refine ⟨_, rfl, a, dx, _, rfl, g1, rfl, _, rfl, _, rfl, _, rfl, _, rfl, ?_⟩
    refine ⟨a, od, kd, c, e, snap, ka, ra, wr, asked, spans, wrote, rfl, hc, hb, hes, ha, fun hR ta H1 s1 hta => ?_, fun row hR => k2 row (by rw [ht]; exact hR)⟩
    rw [← ht] at hta hR
    have hc1 := hc.same s1
    obtain ⟨dx1, g11⟩ := hc1.ob
    have big : (1000 : Nat) < sizeLine := Nat.lt_trans (by decide) line_big
    refine ⟨_, rfl, _, rfl, a, C, dx1, _, _, rfl, g11, CT.cl, CT.n4, rfl, _, rfl, kd, _, rfl, DPut.k (k := Sum.inl e) hc1.kn.at_ (by rw [List.length_map]; omega), ?_⟩
    have eput : putK (c.kn.map rowK) (Sum.inl e) (V.ref ta) = (c.kn ++ [(e, ta, t)]).map rowK := by
      have e1 : valV (c.kn.map rowK) (Sum.inl e) = none := val_out (fun q : Int × Addr × Tr => V.ref q.2.1) hnk
      rw [putK_new _ e1, List.map_append]; rfl
    rw [eput]
    have nak : a ≠ kd := ne_of g11 hc1.kn.at_ (by intro z; cases z)
    have mb1 : ∀ b ∈ [kd], Mb H1 b := fun b hb => by
      rw [List.mem_singleton.mp hb]; exact .inr (.inl ⟨_, hc1.kn.at_⟩)
    have sk : Sb [kd] H1 (upd H1 kd (.dK ((c.kn ++ [(e, ta, t)]).map rowK))) := fun b o hb hbo => by
      rw [upd_ne (fun z => hb (by rw [z]; simp))]; exact hbo
    have f1 : upd H1 kd (.dK ((c.kn ++ [(e, ta, t)]).map rowK)) a = some (.ins C dx1 (ckF c.last c.next od kd)) := by rw [upd_ne nak]; exact g11
    have f2 : upd H1 kd (.dK ((c.kn ++ [(e, ta, t)]).map rowK)) od = some (.dK (c.opn.map rowO)) := by rw [upd_ne hc.ne]; exact hc1.opn
    have f4 := hta.sb sk mb1
    have f3 : KnAt T (upd H1 kd (.dK ((c.kn ++ [(e, ta, t)]).map rowK))) kd (c.kn ++ [(e, ta, t)]) := ⟨upd_same, fun p hp => by
      rcases List.mem_append.mp hp with z | z
      · exact (hc1.kn.tr p z).sb sk mb1
      · rw [List.mem_singleton.mp z]; exact f4, by
      rw [List.map_append]
      refine List.nodup_append.mpr ⟨hc.kn.nd, by simp, fun x hx y hy => ?_⟩
      rw [List.map_singleton, List.mem_singleton] at hy
      rw [hy]
      exact fun z => hnk (by have z2 : x = e := z; rw [← z2]; exact hx), by rw [List.length_append, List.length_singleton]; omega⟩
    have sb1 : Sb [a, od, kd] H (upd H1 kd (.dK ((c.kn ++ [(e, ta, t)]).map rowK))) := fun b o hb hbo =>
      sk b o (fun z => hb (by rw [List.mem_singleton.mp z]; simp)) (s1 b o hbo)
    generalize upd H1 kd (.dK ((c.kn ++ [(e, ta, t)]).map rowK)) = H2 at f1 f2 f3 f4 sb1 ⊢
    refine ⟨fun σ' H' => σ' = [some (.ref a), some (.int e), some (.ref ka), some (.ref ra), some (.ref wr), some (.ref ta)] ∧ Sb [a, od, kd] H H' ∧ CkAt C T H' a od kd ⟨t.count.getD c.last, c.next, c.opn, c.kn ++ [(e, ta, t)]⟩ ∧ TrAt T H' ta t, ?_, ?_⟩
    · obtain ⟨dxt, ka', ra', wa', xs', h1, h1r⟩ := id f4
      refine ⟨_, rfl, ta, T, dxt, _, _, rfl, h1, TT.cl, TT.n2, rfl, rfl, _, rfl, ?_⟩
      cases ec : t.count with
      | none => exact iteF ⟨rfl, sb1, ⟨⟨dx1, f1⟩, f2, f3, hc.ne, hc.nd⟩, f4⟩
      | some i =>
        rw [ec] at h1
        refine iteT ⟨_, rfl, ta, T, dxt, _, _, rfl, h1, TT.cl, TT.n2, rfl, _, rfl, a, C, dx1, _, rfl, f1, CT.cl, CT.n1, (by show 4 < 1000; decide), rfl, ?_⟩
        have mb2 : ∀ b ∈ [a], Mb H2 b := fun b hb => by
          rw [List.mem_singleton.mp hb]; exact .inr (.inr (.inr ⟨C, dx1, _, _, _, _, f1⟩))
        have sk2 : Sb [a] H2 (upd H2 a (.ins C dx1 (putF "kept_last" (cV (some i)) (ckF c.last c.next od kd)))) := fun b o hb hbo => by
          rw [upd_ne (fun z => hb (by rw [z]; simp))]; exact hbo
        have nao : a ≠ od := ne_of f1 f2 (by intro z; cases z)
        refine ⟨fun b o hb hbo => sk2 b o (fun z => hb (by rw [List.mem_singleton.mp z]; simp)) (sb1 b o hb hbo), ⟨⟨dx1, by rw [upd_same]; rfl⟩, by rw [upd_ne nao.symm]; exact f2, f3.sb sk2 mb2 (fun z => nak (List.mem_singleton.mp z).symm), hc.ne, hc.nd⟩, f4.sb sk2 mb2⟩
    · rintro σ' H' ⟨rfl, sb2, hc2, ht2⟩
      obtain ⟨dx2, g2⟩ := hc2.ob
      refine ⟨_, rfl, a, dx2, _, rfl, g2, rfl, _, rfl, a, od, kd, _, e, rfl, hc2, hek, hl1, fun kd' H3 kn' sb3 hkd' hc3 hkept => ?_⟩
      have ht3 : TrAt T H3 ta t := ht2.sb sb3 fun b hb => by
        rcases List.mem_cons.mp hb with z | z
        · rw [z]; exact hc2.mb.1
        · rw [List.mem_singleton.mp z]; exact hc2.mb.2.1
      obtain ⟨dxt, ka', ra', wa', xs', h1, _⟩ := id ht3
      refine ⟨_, rfl, ta, T, dxt, _, _, rfl, h1, TT.cl, TT.n2, rfl, ?_⟩
      have hkd0 : H kd' = none := by
        cases q : H kd' with
        | none => rfl
        | some o =>
          by_cases z : kd' ∈ [a, od, kd]
          · have m := hc2.mb
            rcases List.mem_cons.mp z with z | z
            · obtain ⟨dx2, g2⟩ := hc2.ob
              rw [z, g2] at hkd'; cases hkd'
            · rcases List.mem_cons.mp z with z | z
              · rw [z, hc2.opn] at hkd'; cases hkd'
              · rw [List.mem_singleton.mp z, hc2.kn.at_] at hkd'; cases hkd'
          · rw [sb2 _ _ z q] at hkd'; cases hkd'
      refine k1 (by rw [ht] at hR ⊢; exact hR) ta kd' H3 kn' (fun b o hb hbo => sb3 b o (fun z => hb ?_) (sb2 b o hb hbo)) hkd0 hc3 hkept
      rcases List.mem_cons.mp z with z | z
      · rw [z]; simp
      · rw [List.mem_singleton.mp z]; simp
end
end K58

namespace K58
open PySem L2
/-! ### the law's hand -/
def hItems (cl : Addr) (i1 i2 i3 i4 : Int) : List V := [.ref cl, .int i1, .int i2, .int i3, .int i4]
structure HandAt (H : Hp) (hd cl : Addr) : Prop where
  hand : ∃ i1 i2 i3 i4 : Int, 0 ≤ i1 ∧ H hd = some (.lst (hItems cl i1 i2 i3 i4))
  cells : ∃ cs : List Int, H cl = some (.lst (cs.map V.int)) ∧ cs.length ≤ 1000
  ne : hd ≠ cl
theorem HandAt.sb {H H' : Hp} {L : List Addr} {hd cl : Addr} (h : HandAt H hd cl) (s : Sb L H H') (h1 : hd ∉ L) (h2 : cl ∉ L) : HandAt H' hd cl := by
  obtain ⟨⟨i1, i2, i3, i4, h0, g1⟩, ⟨cs, g2, g3⟩, g4⟩ := h
  exact ⟨⟨i1, i2, i3, i4, h0, s _ _ h1 g1⟩, ⟨cs, s _ _ h2 g2, g3⟩, g4⟩
theorem HandAt.same {H H' : Hp} {hd cl : Addr} (h : HandAt H hd cl) (s : Same H H') : HandAt H' hd cl := h.sb (L := []) (Sb.of s) (by simp) (by simp)
theorem HandAt.mb {H : Hp} {hd cl : Addr} (h : HandAt H hd cl) : Mb H hd := by
  obtain ⟨⟨i1, i2, i3, i4, h0, g1⟩, _⟩ := h
  exact .inr (.inr (.inl ⟨_, g1⟩))
def spHand (K : PySem.W.Frag) : Sp := fun vs H Q _ => ∃ (a : Addr) (ns : List Int), vs = [.ref a] ∧ SqL K H a (ns.map V.int) ∧ ∀ (hd cl : Addr) (H' : Hp), Same H H' → H hd = none → H cl = none → HandAt H' hd cl → Q (.ref hd) H'
def spDraw : Sp := fun vs H Q _ => ∃ (hd cl : Addr) (m : Int), vs = [.ref hd, .int m] ∧ HandAt H hd cl ∧ 0 < m ∧ m < 1073741824 ∧ ∀ (d : Int) (H' : Hp), 0 ≤ d → d < m → Sb [hd] H H' → HandAt H' hd cl → Q (.int d) H'
theorem scHand : FnScope ["_law_script", "_law_cells", "_law_cell"] ["_law_script"] (defScope sHand) := ⟨rfl, rfl, rfl, by decide +kernel, rfl, by decide +kernel, by decide +kernel⟩
theorem scDraw : FnScope ["_law_hand_here", "_law_many", "_law_cell", "_law_digit", "_law_number"] ["_law_hand_here", "_law_many"] (defScope sDraw) := ⟨rfl, rfl, rfl, by decide +kernel, rfl, by decide +kernel, by decide +kernel⟩
theorem cut63 (xs : List Int) : ∃ ys : List Int, cutV (xs.map V.int) none (some 63) = ys.map V.int ∧ ys.length ≤ 63 := by
  unfold cutV
  rw [← List.map_drop, ← List.map_take]
  refine ⟨_, rfl, ?_⟩
  rw [List.length_take]
  have e2 : HT.sIx (xs.map V.int).length (xs.map V.int).length (some 63) = min 63 (xs.map V.int).length := rfl
  have e1 : HT.sIx (xs.map V.int).length 0 none = 0 := rfl
  rw [e2, e1]
  omega
section
variable {P : Program} {w : World} {K : PySem.W.Frag} {mg : Str → Option Value} {base : Heap}
theorem ok_hand {f : Addr} {fd : FuncData} (F : Fun K "_law_hand" "_law_hand" sHand f fd) (B : Bi mg) : FnOk P w K mg base CX0 1 f fd ["_law_script"] (spHand K) := by
  refine F.ok scHand (fun vs H Q E h => ?_) (fun cdv A outer s H vs Q E hr h => ?_)
  · obtain ⟨a, ns, rfl, _⟩ := h
    rfl
  · obtain ⟨a, ns, rfl, ha, k⟩ := h
    refine ⟨_, pss_cons (ps_setLc (i := 1) (own := [("_law_cell", 2)]) (g := gName 2) rfl scHand.nd rfl rfl (sw_true rfl rfl rfl (by decide +kernel)) (pi_list (pe_slice sl_list (pv 0) po_none (po_some pe_int)))
          (blkOk_by (own := [("_law_cell", 2)]) (N := ["_law_script", "_law_cells", "_law_cell"]) (sc := defScope sHand) (by decide +kernel))
          (fun _ _ _ _ _ => pg_name (i := 2) scHand.nd rfl (Or.inl rfl)) (fun _ _ _ _ _ => pts_nil)
          (fun _ _ _ _ _ => pe_callB call_abs (by rfl) B.abs (by decide +kernel) (pa_cons (pe_callTy call_int1 (by rfl) B.int (by decide +kernel) (pa_cons (pv 2) pa_nil)) pa_nil)))
      (pss_one (ps_ret (pe_lst (pa_cons (pv 1) (pa_cons pe_int (pa_cons pe_int (pa_cons (pe_op op_add pe_int (pe_callB call_len (by rfl) B.len (by decide +kernel) (pa_cons (pv 1) pa_nil))) (pa_cons pe_int pa_nil)))))))), ?_⟩
    obtain ⟨ys, ey, hyl⟩ := cut63 ns
    refine ⟨_, rfl, 63, rfl, a, _, rfl, ha, fun p hp => ?_⟩
    rw [ey]
    have sp := snew (o := .lst (ys.map V.int)) hp
    refine ⟨p, rfl, ⟨_, SqL.of upd_same⟩, fun D hD => ?_⟩
    refine lc_map (walk_list (xs := ys.map V.int)) (fun i => .int (if ys.getD i 0 < 0 then -(ys.getD i 0) else ys.getD i 0)) (by rw [List.length_map]; omega) hD (fun H3 h => SqL.of (h _ _ upd_same)) (fun i x H3 H4 hi s3 y kk => ?_) fun H3 s3 hlD => ?_
    · obtain ⟨rfl, hx⟩ := y
      obtain ⟨rfl, hm⟩ := at_map (0 : Int) V.int hx
      exact ⟨rfl, tyes ⟨_, rfl, .inl ⟨_, rfl, _, rfl, kk _ (Same.refl _)⟩⟩⟩
    · rw [List.length_map, rng_map (0 : Int) (fun z => V.int (if z < 0 then -z else z)) ys] at hlD
      have eD : ys.map (fun z => V.int (if z < 0 then -z else z)) = (ys.map fun z => if z < 0 then -z else z).map V.int := by rw [List.map_map]; rfl
      rw [eD] at hlD
      refine ⟨_, rfl, _, rfl, _, ys.length, rfl, .inl ⟨_, SqL.of hlD, by rw [List.length_map, List.length_map]⟩, _, _, rfl, rfl, (by show 5 ≤ sizeLine; decide), fun hd hhd => ?_⟩
      have s13 := sp.trans s3
      have nd : hd ≠ D := fun z => by rw [z, hlD] at hhd; cases hhd
      exact k hd D _ (s13.trans (snew hhd)) (Same.free s13 hhd) (Same.free sp hD) ⟨⟨0, 0, 1 + ys.length, 0, by decide, upd_same⟩, ⟨_, by rw [upd_ne nd.symm]; exact hlD, by rw [List.length_map]; omega⟩, nd⟩
theorem ok_draw {f : Addr} {fd : FuncData} (F : Fun K "_law_draw" "_law_draw" sDraw f fd) (B : Bi mg) : FnOk P w K mg base CX0 1 f fd ["_law_hand_here", "_law_many"] spDraw := by
  refine F.ok scDraw (fun vs H Q E h => ?_) (fun cdv A outer s H vs Q E hr h => ?_)
  · obtain ⟨hd, cl, m, rfl, _⟩ := h
    rfl
  · obtain ⟨hd, cl, m, rfl, hh, h0, hm, k⟩ := h
    refine ⟨_, pss_mid (ps_if (PW.pt (pw_and (pt_cmpR op_eq (pe_ix ix_list (pv 0) pe_int (fun _ _ => rfl)) pe_int (nomark _)) (pw_and1 (pt_cmpR op_lt (pe_ix ix_list (pv 0) pe_int (fun _ _ => rfl)) (pe_callB call_len (by rfl) B.len (by decide +kernel) (pa_cons (pe_ix ix_list (pv 0) pe_int (fun _ _ => rfl)) pa_nil)) (nomark _)))))
        (pss_cons (ps_set (i := 2) scDraw.nd rfl (Or.inl rfl) (pe_ix ix_list (pe_ix ix_list (pv 0) pe_int (fun _ _ => rfl)) (pe_ix ix_list (pv 0) pe_int (fun _ _ => rfl)) (fun _ _ => rfl)))
        (pss_cons (ps_asg (pe_op op_add (pe_ix ix_list (pv 0) pe_int (fun _ _ => rfl)) pe_int) (pg_sub (pv 0) pe_int set_list))
        (pss_cons (ps_asg (pe_op op_mod (pe_callTy call_int1 (by rfl) B.int (by decide +kernel) (pa_cons (pe_op op_add (pe_op op_add (pe_op op_mul (pe_ix ix_list (pv 0) pe_int (fun _ _ => rfl)) pe_int) (pv 2)) pe_int) pa_nil)) pe_int) (pg_sub (pv 0) pe_int set_list))
        (pss_one (ps_if (pt_cmpR op_ge (pv 2) (pe_op op_pow pe_int pe_int) (nomark _)) (pss_one (ps_asg (pv 2) (pg_sub (pv 0) pe_int set_list))) pss_nil))))) pss_nil)
      (pss_cons (ps_if (pt_cmpR op_gt (pe_ix ix_list (pv 0) pe_int (fun _ _ => rfl)) pe_int (nomark _))
        (pss_cons (ps_set (i := 3) scDraw.nd rfl (Or.inl rfl) (pe_op op_mod (pe_callTy call_int1 (by rfl) B.int (by decide +kernel) (pa_cons (pe_ix ix_list (pv 0) pe_int (fun _ _ => rfl)) pa_nil)) (pv 1)))
        (pss_cons (ps_asg (pe_op op_fdiv (pe_ix ix_list (pv 0) pe_int (fun _ _ => rfl)) (pv 1)) (pg_sub (pv 0) pe_int set_list))
        (pss_one (ps_ret (pv 3))))) pss_nil)
      (pss_cons (ps_asg (pe_op op_add (pe_ix ix_list (pv 0) pe_int (fun _ _ => rfl)) pe_int) (pg_sub (pv 0) pe_int set_list))
      (pss_cons (ps_set (i := 4) scDraw.nd rfl (Or.inl rfl) (pe_op op_mod (pe_callTy call_int1 (by rfl) B.int (by decide +kernel) (pa_cons (pe_op op_mul (pe_callTy call_int1 (by rfl) B.int (by decide +kernel) (pa_cons (pe_op op_add (pe_ix ix_list (pv 0) pe_int (fun _ _ => rfl)) (pe_op op_mul pe_int (pe_ix ix_list (pv 0) pe_int (fun _ _ => rfl)))) pa_nil)) pe_int) pa_nil)) pe_int))
      (pss_cons (ps_set (i := 4) scDraw.nd rfl (Or.inl rfl) (pe_op op_mod (pe_callTy call_int1 (by rfl) B.int (by decide +kernel) (pa_cons (pe_op op_mul (pv 4) (pe_op op_add (pe_op op_fdiv (pv 4) pe_int) pe_int)) pa_nil)) pe_int))
      (pss_cons (ps_set (i := 4) scDraw.nd rfl (Or.inl rfl) (pe_op op_mod (pe_callTy call_int1 (by rfl) B.int (by decide +kernel) (pa_cons (pe_op op_mul (pv 4) (pe_op op_add (pe_op op_fdiv (pv 4) pe_int) pe_int)) pa_nil)) pe_int))
      (pss_one (ps_ret (pe_op op_mod (pe_callTy call_int1 (by rfl) B.int (by decide +kernel) (pa_cons (pe_op op_fdiv (pv 4) pe_int) pa_nil)) (pv 1))))))))), ?_⟩
    obtain ⟨⟨i1, i2, i3, i4, hi, g1⟩, ⟨cs, g2, g3⟩, g4⟩ := id hh
    have wr : ∀ {H1 : Hp} (l : List V), Sb [hd] H H1 → Sb [hd] H (upd H1 hd (.lst l)) := fun {H1} l sb b o hb hbo => by
      rw [upd_ne (fun z => hb (by rw [z]; simp))]; exact sb b o hb hbo
    have cs_in : ∀ {H1 : Hp}, Sb [hd] H H1 → H1 cl = some (.lst (cs.map V.int)) := fun {H1} sb => sb _ _ (fun z => g4 (List.mem_singleton.mp z).symm) g2
    refine ⟨fun σ' H' => (∃ x, σ' = [some (.ref hd), some (.int m), x, none, none]) ∧ Sb [hd] H H' ∧ HandAt H' hd cl, ?_, ?_⟩
    · refine ⟨_, rfl, hd, _, 2, _, rfl, rfl, SqL.of g1, rfl, rfl, _, rfl, ?_⟩
      cases e1 : decide (V.int i2 = V.int 0) with
      | false => exact iteF ⟨⟨_, rfl⟩, Sb.of (Same.refl H), hh⟩
      | true =>
        refine iteT ⟨_, rfl, hd, _, 1, _, rfl, rfl, SqL.of g1, rfl, _, rfl, hd, _, 0, _, rfl, rfl, SqL.of g1, rfl, _, cs.length, rfl, .inl ⟨_, SqL.of g2, by rw [List.length_map]⟩, _, _, rfl, rfl, decide (i1 < cs.length), rfl, ?_⟩
        cases e2 : decide (i1 < (cs.length : Int)) with
        | false => exact iteF ⟨⟨_, rfl⟩, Sb.of (Same.refl H), hh⟩
        | true =>
          have hlt := of_decide_eq_true e2
          obtain ⟨j, rfl⟩ := Int.eq_ofNat_of_zero_le hi
          have hj : j < cs.length := by omega
          refine iteT ⟨_, rfl, hd, _, 0, _, rfl, rfl, SqL.of g1, rfl, _, rfl, hd, _, 1, _, rfl, rfl, SqL.of g1, rfl, cl, _, j, .int cs[j], rfl, rfl, SqL.of g2, atI_nat (by rw [List.getElem?_map, List.getElem?_eq_getElem hj]; rfl), ?_⟩
          refine ⟨_, rfl, hd, _, 1, _, rfl, rfl, SqL.of g1, rfl, _, _, rfl, rfl, _, rfl, hd, _, 1, 1, rfl, rfl, g1, rfl, ?_⟩
          have a1 : upd H hd (.lst ((hItems cl j i2 i3 i4).set 1 (.int (j + 1)))) hd = some (.lst (hItems cl (j + 1) i2 i3 i4)) := upd_same
          have b1 := wr ((hItems cl j i2 i3 i4).set 1 (.int (j + 1))) (Sb.of (Same.refl H))
          generalize upd H hd (.lst ((hItems cl j i2 i3 i4).set 1 (.int (j + 1)))) = H1 at a1 b1 ⊢
          refine ⟨_, rfl, hd, _, 3, _, rfl, rfl, SqL.of a1, rfl, _, _, rfl, rfl, .inr ⟨by decide, by decide⟩, _, rfl, _, _, rfl, rfl, _, _, rfl, rfl, .inl ⟨_, rfl, _, _, rfl, rfl, (by show (0 : Int) < 2147483629; decide), _, rfl, hd, _, 3, 3, rfl, rfl, a1, rfl, ?_⟩⟩
          have a2 : upd H1 hd (.lst ((hItems cl (j + 1) i2 i3 i4).set 3 (.int ((i3 * 69621 + cs[j] + 11) % 2147483629)))) hd = some (.lst (hItems cl (j + 1) i2 ((i3 * 69621 + cs[j] + 11) % 2147483629) i4)) := upd_same
          have b2 := wr ((hItems cl (j + 1) i2 i3 i4).set 3 (.int ((i3 * 69621 + cs[j] + 11) % 2147483629))) b1
          refine ⟨_, rfl, _, _, rfl, rfl, ⟨by decide, by decide, by decide⟩, _, _, rfl, rfl, decide ((10 : Int) ^ (18 : Int).toNat ≤ cs[j]), rfl, ?_⟩
          cases e3 : decide ((10 : Int) ^ (18 : Int).toNat ≤ cs[j]) with
          | false => exact iteF ⟨⟨_, rfl⟩, b2, ⟨⟨_, _, _, _, by omega, a2⟩, ⟨cs, cs_in b2, g3⟩, g4⟩⟩
          | true =>
            refine iteT ⟨_, rfl, _, rfl, hd, _, 2, 2, rfl, rfl, a2, rfl, ⟨_, rfl⟩, wr _ b2, ⟨⟨j + 1, cs[j], (i3 * 69621 + cs[j] + 11) % 2147483629, i4, by omega, upd_same⟩, ⟨cs, cs_in (wr _ b2), g3⟩, g4⟩⟩
    · rintro σ' H1 ⟨⟨x, rfl⟩, b1, hh1⟩
      obtain ⟨⟨i1, i2, i3, i4, hi, g1⟩, ⟨cs, g2, g3⟩, _⟩ := id hh1
      have cs_in : ∀ {H2 : Hp}, Sb [hd] H1 H2 → H2 cl = some (.lst (cs.map V.int)) := fun {H2} sb => sb _ _ (fun z => g4 (List.mem_singleton.mp z).symm) g2
      have wr1 : ∀ (l : List V), Sb [hd] H1 (upd H1 hd (.lst l)) := fun l b o hb hbo => by
        rw [upd_ne (fun z => hb (by rw [z]; simp))]; exact hbo
      refine ⟨_, rfl, hd, _, 2, _, rfl, rfl, SqL.of g1, rfl, _, _, rfl, rfl, decide (0 < i2), rfl, ?_⟩
      cases e1 : decide (0 < i2) with
      | true =>
        refine iteT ⟨_, rfl, hd, _, 2, _, rfl, rfl, SqL.of g1, rfl, .inl ⟨_, rfl, _, rfl, _, _, rfl, rfl, h0, ?_⟩⟩
        refine ⟨_, rfl, hd, _, 2, _, rfl, rfl, SqL.of g1, rfl, _, rfl, _, _, rfl, rfl, ⟨h0, hm⟩, _, rfl, hd, _, 2, 2, rfl, rfl, g1, rfl, _, rfl, ?_⟩
        refine k _ _ (Int.emod_nonneg _ (by omega)) (Int.emod_lt_of_pos _ h0) (wr _ b1) ⟨⟨i1, i2 / m, i3, i4, hi, upd_same⟩, ⟨cs, cs_in (wr1 _), g3⟩, g4⟩
      | false =>
        refine iteF ?_
        refine ⟨_, rfl, hd, _, 4, _, rfl, rfl, SqL.of g1, rfl, _, _, rfl, rfl, _, rfl, hd, _, 4, 4, rfl, rfl, g1, rfl, ?_⟩
        have a1 : upd H1 hd (.lst ((hItems cl i1 i2 i3 i4).set 4 (.int (i4 + 1)))) hd = some (.lst (hItems cl i1 i2 i3 (i4 + 1))) := upd_same
        have b2 := wr ((hItems cl i1 i2 i3 i4).set 4 (.int (i4 + 1))) b1
        have c2 := cs_in (wr1 ((hItems cl i1 i2 i3 i4).set 4 (.int (i4 + 1))))
        generalize upd H1 hd (.lst ((hItems cl i1 i2 i3 i4).set 4 (.int (i4 + 1)))) = H2 at a1 b2 c2 ⊢
        refine ⟨_, rfl, hd, _, 3, _, rfl, rfl, SqL.of a1, rfl, _, rfl, hd, _, 4, _, rfl, rfl, SqL.of a1, rfl, _, _, rfl, rfl, .inl ⟨by decide, by decide⟩, _, _, rfl, rfl, .inl ⟨_, rfl, _, _, rfl, rfl, .inr ⟨by decide, by decide⟩, .inl ⟨_, rfl, _, _, rfl, rfl, (by show (0 : Int) < 2147483647; decide), ?_⟩⟩⟩
        have bd := fun (x : Int) => And.intro (Int.emod_nonneg x (show (2147483647 : Int) ≠ 0 by decide)) (Int.emod_lt_of_pos x (show (0 : Int) < 2147483647 by decide))
        generalize hn : ((i3 + 7919 * (i4 + 1)) * 48271 % 2147483647 : Int) = n
        have hn2 := bd ((i3 + 7919 * (i4 + 1)) * 48271)
        rw [hn] at hn2
        refine ⟨_, rfl, _, rfl, _, _, rfl, rfl, ⟨by decide, by decide⟩, _, _, rfl, rfl, _, _, rfl, rfl, .inl ⟨by omega, by omega⟩, .inl ⟨_, rfl, _, _, rfl, rfl, (by show (0 : Int) < 2147483647; decide), ?_⟩⟩
        generalize hn3 : (n * (n / 1009 + 69621) % 2147483647 : Int) = n2
        have hn4 := bd (n * (n / 1009 + 69621))
        rw [hn3] at hn4
        refine ⟨_, rfl, _, rfl, _, _, rfl, rfl, ⟨by decide, by decide⟩, _, _, rfl, rfl, _, _, rfl, rfl, .inl ⟨by omega, by omega⟩, .inl ⟨_, rfl, _, _, rfl, rfl, (by show (0 : Int) < 2147483399; decide), ?_⟩⟩
        refine ⟨_, rfl, _, _, rfl, rfl, ⟨by decide, by decide⟩, .inl ⟨_, rfl, _, rfl, _, _, rfl, rfl, h0, ?_⟩⟩
        exact k _ _ (Int.emod_nonneg _ (by omega)) (Int.emod_lt_of_pos _ h0) b2 ⟨⟨i1, i2, i3, i4 + 1, hi, a1⟩, ⟨cs, c2, g3⟩, g4⟩
end
end K58

namespace K58
open PySem L2
theorem hu16 {A : Around} {k : Nat} (hr : Room k A) : A.units + 16 < cLine := Nat.lt_of_le_of_lt (Nat.add_le_add_left (by decide : 16 ≤ 64) _) hr.units
/-- the keys at hand -/
structure KeysAt (H : Hp) (l : Addr) (zs : List Str) : Prop where
  at_ : H l = some (.lst (zs.map V.str))
  ne : 0 < zs.length
  few : zs.length ≤ 6
  six : ∀ z ∈ zs, Six z
theorem KeysAt.not_hand {H : Hp} {l hd cl : Addr} {zs : List Str} (h : KeysAt H l zs) (g : HandAt H hd cl) : l ≠ hd := fun z => by
  obtain ⟨⟨i1, i2, i3, i4, h0, g1⟩, _⟩ := g
  have a := h.at_
  rw [z, g1] at a
  have b := Option.some.inj a
  injection b with b
  have n := h.ne
  cases zs with
  | nil => exact absurd n (by decide)
  | cons x r =>
    rw [List.map_cons] at b
    injection b with b
    cases b
theorem KeysAt.sb {H H' : Hp} {L : List Addr} {l : Addr} {zs : List Str} (h : KeysAt H l zs) (s : Sb L H H') (hl : l ∉ L) : KeysAt H' l zs := ⟨s _ _ hl h.at_, h.ne, h.few, h.six⟩
theorem six_key (z : Str) (h : Six z) : KeyT z := by
  have k1 : ∀ z ∈ six, 1 ≤ z.length ∧ z.length ≤ 12 ∧ ∀ c ∈ z.cps.toList, 97 ≤ c ∧ c ≤ 122 := by decide +kernel
  obtain ⟨h1, h2, h3⟩ := k1 z h
  exact ⟨h1, h2, h3⟩
/-- keys, once each, in order -/
structure SixUp (ys : List Str) : Prop where
  six : ∀ z ∈ ys, Six z
  up : UpT ys
  few : ys.length ≤ 2
def spSome : Sp := fun vs H Q _ => ∃ (hd cl l : Addr) (zs : List Str) (m : Int), vs = [.ref hd, .ref l, .int m] ∧ HandAt H hd cl ∧ KeysAt H l zs ∧ 0 ≤ m ∧ m ≤ 2 ∧
  ∀ (p : Addr) (ys : List Str) (H' : Hp), Sb [hd] H H' → HandAt H' hd cl → H' p = some (.tup (ys.map V.str)) → SixUp ys → (ys.length : Int) ≤ m → Q (.ref p) H'
def spLKeys : Sp := fun vs H Q _ => vs = [] ∧ ∀ (p : Addr) (H' : Hp), Same H H' → H p = none → H' p = some (.lst (six.map V.str)) → Q (.ref p) H'
def spLRange : Sp := fun vs H Q _ => ∃ (hd cl l : Addr) (zs : List Str), vs = [.ref hd, .ref l] ∧ HandAt H hd cl ∧ KeysAt H l zs ∧
  ∀ (x : V) (r : KT.Rg) (H' : Hp), Sb [hd] H H' → HandAt H' hd cl → RgAt H' x r → RgOk r → RgW r → Q x H'
def spLSeen : Sp := fun vs H Q _ => ∃ (hd cl l : Addr) (zs : List Str), vs = [.ref hd, .ref l] ∧ HandAt H hd cl ∧ KeysAt H l zs ∧
  ∀ (p ka ra : Addr) (asked : List Str) (spans : List KT.Rg) (xs : List V) (H' : Hp), Sb [hd] H H' → HandAt H' hd cl → H' p = some (.tup [.ref ka, .ref ra]) → H' ka = some (.tup (asked.map V.str)) → SixUp asked → H' ra = some (.tup xs) → RgsAt H' xs spans → spans.length ≤ 2 → (∀ r ∈ spans, RgW r) → UpR spans → Q (.ref p) H'
def spLWrites : Sp := fun vs H Q _ => ∃ (hd cl l : Addr) (zs : List Str) (m : Int), vs = [.ref hd, .ref l, .int m] ∧ HandAt H hd cl ∧ KeysAt H l zs ∧ 0 ≤ m ∧ m ≤ 2 ∧
  ∀ (p : Addr) (ws : List V) (wrote : List Str) (H' : Hp), Sb [hd] H H' → HandAt H' hd cl → H' p = some (.tup ws) → WrsAt H' ws wrote → SixUp wrote → Q (.ref p) H'
theorem scSome : FnScope ["_law_hand_here", "_law_things", "_law_most", "_law_found", "_law_turn"] ["_law_hand_here", "_law_things", "_law_most"] (defScope sSome) := ⟨rfl, rfl, rfl, by decide +kernel, rfl, by decide +kernel, by decide +kernel⟩
theorem scLKeys : FnScope [] [] (defScope sLKeys) := ⟨rfl, rfl, rfl, by decide +kernel, rfl, by decide +kernel, by decide +kernel⟩
theorem scLRange : FnScope ["_law_hand_here", "_law_keys_here", "_law_low", "_law_high", "_law_own", "_law_key"] ["_law_hand_here", "_law_keys_here"] (defScope sLRange) := ⟨rfl, rfl, rfl, by decide +kernel, rfl, by decide +kernel, by decide +kernel⟩
theorem scLSeen : FnScope ["_law_hand_here", "_law_keys_here", "_law_ranges", "_law_turn"] ["_law_hand_here", "_law_keys_here"] (defScope sLSeen) := ⟨rfl, rfl, rfl, by decide +kernel, rfl, by decide +kernel, by decide +kernel⟩
theorem scLWrites : FnScope ["_law_hand_here", "_law_keys_here", "_law_most", "_law_found", "_law_key"] ["_law_hand_here", "_law_keys_here", "_law_most"] (defScope sLWrites) := ⟨rfl, rfl, rfl, by decide +kernel, rfl, by decide +kernel, by decide +kernel⟩
theorem snewB {H H' : Hp} {L : List Addr} {D : Addr} {o : HO} (s : Sb L H H') (n : H D = none) : Sb L H (upd H' D o) := fun b u hb e => by
  rw [upd_ne (ne_of_none e n)]
  exact s b u hb e
theorem Sb.fr {H H' : Hp} {L : List Addr} (s : Sb L H H') {p : Addr} (h : H' p = none) (hp : p ∉ L) : H p = none := by
  cases q : H p with
  | none => rfl
  | some o => rw [s p o hp q] at h; cases h
/-- a place that is free behind stood free ahead, where the written things still stand -/
theorem Sb.fr1 {H H' : Hp} {hd : Addr} (s : Sb [hd] H H') {p : Addr} (h : H' p = none) {o : HO} (hh : H' hd = some o) : H p = none := s.fr h fun z => by
  rw [List.mem_singleton.mp z, hh] at h; cases h
section
variable {P : Program} {w : World} {K : PySem.W.Frag} {mg : Str → Option Value} {base : Heap}
theorem ok_some {f fD : Addr} {fd fdD : FuncData} (F : Fun K "_law_some" "_law_some" sSome f fd) (B : Bi mg) (DD : Def P w K mg base CX0 1 "_law_draw" fD fdD ["_law_hand_here", "_law_many"] spDraw) : FnOk P w K mg base CX0 2 f fd ["_law_hand_here", "_law_things", "_law_most"] spSome := by
  refine F.ok scSome (fun vs H Q E h => ?_) (fun cdv A outer s H vs Q E hr h => ?_)
  · obtain ⟨hd, cl, l, zs, m, rfl, _⟩ := h
    rfl
  · obtain ⟨hd, cl, l, zs, m, rfl, hh, hk, h0, h2, k⟩ := h
    refine ⟨_, pss_cons (ps_set (i := 3) scSome.nd rfl (Or.inl rfl) (pe_lst pa_nil))
      (pss_cons (ps_for PassesOwn.never rfl (pi_range1 rfl B.range (pa_cons (pe_call DD.ok hr (by rfl) DD.gl DD.kp DD.bd .nil pass0 (pa_cons (pv 0) (pa_cons (pe_op op_add (pv 2) pe_int) pa_nil))) pa_nil)) (pg_name (i := 4) scSome.nd rfl (Or.inl rfl))
        (pss_one (ps_expr (pe_bm PySem.F.plainAttrs_list PySem.F.slot_list_append PySem.F.type_list_append mt_append (pv 3) (pa_cons (pe_ix ix_list (pv 1) (pe_call DD.ok hr (by rfl) DD.gl DD.kp DD.bd .nil pass0 (pa_cons (pv 0) (pa_cons (pe_callB call_len (by rfl) B.len (by decide +kernel) (pa_cons (pv 1) pa_nil)) pa_nil))) (fun _ _ => rfl)) pa_nil)))))
      (pss_one (ps_ret (pe_callTy call_tuple_of (by rfl) B.tuple (by decide +kernel) (pa_cons (pe_sortedKeys (hu16 hr) rfl (by rfl) B.sorted (by rfl) B.set (pv 3)) pa_nil))))), ?_⟩
    refine ⟨Nat.zero_le _, fun fl hfl => ?_⟩
    have nfh : fl ≠ hd := fun z => by
      obtain ⟨⟨i1, i2, i3, i4, h0, g1⟩, _⟩ := hh
      rw [z, g1] at hfl; cases hfl
    have nlh := hk.not_hand hh
    have s0 := snew (o := .lst []) hfl
    refine ⟨_, rfl, _, rfl, _, _, rfl, rfl, hd, cl, m + 1, rfl, hh.same s0, by omega, by omega, fun n H1 hn0 hn1 s1 hh1 => ?_⟩
    refine ⟨n, rfl, by omega, by omega, ?_⟩
    have hn2 : n.toNat ≤ 2 := by omega
    refine for_range (lo := 0) (n := n.toNat) (fun i σ' H' => ∃ (fs : List Str) (x4 : Option V), σ' = [some (.ref hd), some (.ref l), some (.int m), some (.ref fl), x4] ∧ Sb [hd] H H' ∧ HandAt H' hd cl ∧ H' fl = some (.lst (fs.map V.str)) ∧ fs.length = i ∧ ∀ z ∈ fs, Six z) ?_ ?_ ?_
    · have sH1 : Sb [hd] H H1 := (Sb.of s0).trans s1
      refine ⟨[], _, rfl, sH1, hh1, ?_, rfl, fun z hz => (by cases hz)⟩
      exact s1 _ _ (fun z => nfh (List.mem_singleton.mp z)) upd_same
    · rintro i σ' H2 hi ⟨fs, x4, rfl, s2, hh2, hf2, hl2, hs2⟩
      have hk2 := hk.sb s2 (fun z => nlh (List.mem_singleton.mp z))
      refine ⟨_, rfl, .inl ⟨rfl, _, SqL.of hf2⟩, _, rfl, _, rfl, _, rfl, _, zs.length, rfl, .inl ⟨_, SqL.of hk2.at_, by rw [List.length_map]⟩, hd, cl, (zs.length : Int), rfl, hh2, by have := hk.ne; omega, by have := hk.few; omega, fun d H3 hd0 hd1 s3 hh3 => ?_⟩
      obtain ⟨j, rfl⟩ := Int.eq_ofNat_of_zero_le hd0
      have hj : j < zs.length := by omega
      have hk3 := hk2.sb s3 (fun z => nlh (List.mem_singleton.mp z))
      have hf3 := s3 _ _ (fun z => nfh (List.mem_singleton.mp z)) hf2
      refine ⟨l, _, j, .str zs[j], rfl, rfl, SqL.of hk3.at_, atI_nat (by rw [List.getElem?_map, List.getElem?_eq_getElem hj]; rfl), ?_⟩
      refine ⟨fl, _, _, rfl, rfl, hf3, by rw [List.length_map, hl2]; exact Nat.lt_trans (by omega : i < 100) (Nat.lt_trans (by decide) line_big), ?_⟩
      have nfc : cl ≠ fl := fun z => by
        obtain ⟨_, ⟨cs, c1, _⟩, _⟩ := hh
        rw [z, hfl] at c1; cases c1
      have s23 := s2.trans s3
      refine ⟨fs ++ [zs[j]], _, rfl, snewB s23 hfl, hh3.sb (L := [fl]) (fun b o hb hbo => by rw [upd_ne (fun z => hb (by rw [z]; simp))]; exact hbo) (fun z => nfh (List.mem_singleton.mp z).symm) (fun z => nfc (List.mem_singleton.mp z)), by rw [upd_same, List.map_append]; rfl, by rw [List.length_append, hl2]; rfl, fun z hz => ?_⟩
      rcases List.mem_append.mp hz with q | q
      · exact hs2 z q
      · rw [List.mem_singleton.mp q]; exact hk.six _ (List.getElem_mem hj)
    · rintro σ' H2 ⟨fs, x4, rfl, s2, hh2, hf2, hl2, hs2⟩
      refine ⟨_, rfl, fl, fs.map fun z => (z, V.str z), rfl, SqL.of (by rw [List.map_map]; exact hf2), by rw [List.length_map]; omega, fun z hz => ?_, fun p ys hp hy1 hy2 hy3 => ?_⟩
      · obtain ⟨z', hz', rfl⟩ := List.mem_map.mp hz
        exact ⟨rfl, hs2 _ hz'⟩
      · have hy : ∀ y ∈ ys, y.2 = .str y.1 ∧ Six y.1 := fun y hy => by
          obtain ⟨z', hz', rfl⟩ := List.mem_map.mp (hy1 y hy)
          exact ⟨rfl, hs2 _ hz'⟩
        have ey : ys.map (·.2) = (ys.map (·.1)).map V.str := by
          rw [List.map_map]
          exact List.map_congr_left fun y h => (hy y h).1
        have ndy : (ys.map (·.1)).Nodup := by
          rw [List.nodup_iff_pairwise_ne, List.pairwise_map]
          exact hy3.imp fun h z => by rw [z] at h; omega
        have hylen : ys.length ≤ fs.length := by
          have := nd_len (ys.map (·.1)) fs ndy fun z hz => by
            obtain ⟨y, hy', rfl⟩ := List.mem_map.mp hz
            obtain ⟨z', hz', e⟩ := List.mem_map.mp (hy1 y hy')
            rw [← e]; exact hz'
          rw [List.length_map] at this
          exact this
        refine ⟨p, _, rfl, .inl ⟨SqL.of upd_same, fun q hq => ?_⟩⟩
        have sp := snew (o := .lst (ys.map (·.2))) hp
        have sq := sp.trans (snew (o := .tup (ys.map (·.2))) hq)
        refine k q (ys.map (·.1)) _ (s2.trans (Sb.of sq)) (hh2.same sq) (by rw [upd_same, ey]) ⟨fun z hz => ?_, ?_, by rw [List.length_map]; omega⟩ (by rw [List.length_map]; omega)
        · obtain ⟨y, hy', rfl⟩ := List.mem_map.mp hz
          exact (hy y hy').2
        · rw [UpT, List.pairwise_map]
          refine List.Pairwise.imp_of_mem (fun {a b} ha hb h => ?_) hy3
          rw [six_lt _ _ (hy a ha).2 (hy b hb).2]
          exact decide_eq_true h
end
end K58

namespace K58
open PySem L2
theorem two_perm {α : Type} {ys : List α} {a b : α} (h : ys.Perm [a, b]) : ∃ c d, ys = [c, d] ∧ (c = a ∨ c = b) ∧ (d = a ∨ d = b) := by
  have hl := h.length_eq
  match ys, hl with
  | [c, d], _ =>
    have h1 := h.mem_iff.mp (List.mem_cons_self : c ∈ [c, d])
    have h2 := h.mem_iff.mp (List.mem_cons_of_mem c List.mem_cons_self : d ∈ [c, d])
    simp only [List.mem_cons, List.not_mem_nil, or_false] at h1 h2
    exact ⟨c, d, rfl, h1, h2⟩
theorem RgsAt.sbm {H H' : Hp} {hd cl : Addr} {xs : List V} {rs : List KT.Rg} (h : RgsAt H xs rs) (g : HandAt H hd cl) (s : Sb [hd] H H') : RgsAt H' xs rs := h.sb s fun b hb => by
  rw [List.mem_singleton.mp hb]; exact g.mb
theorem RgAt.sb {H H' : Hp} {L : List Addr} {x : V} {r : KT.Rg} (h : RgAt H x r) (s : Sb L H H') (m : ∀ b ∈ L, Mb H b) : RgAt H' x r := by
  obtain ⟨b, o, e, hb, ho⟩ := h
  exact ⟨b, o, e, s _ _ (fun z => (m _ z).noTup hb) hb, s _ _ (fun z => (m _ z).noTup ho) ho⟩
theorem HandAt.ne_of {H : Hp} {hd cl b : Addr} {o : HO} (h : HandAt H hd cl) (e : H b = some o) (n : ∀ xs, o ≠ .lst xs) : b ≠ hd := fun z => by
  obtain ⟨⟨i1, i2, i3, i4, h0, g1⟩, _⟩ := h
  rw [z, g1] at e
  exact n _ (Option.some.inj e).symm
theorem HandAt.fresh {H : Hp} {hd cl b : Addr} (h : HandAt H hd cl) (e : H b = none) : b ≠ hd := fun z => by
  obtain ⟨⟨i1, i2, i3, i4, h0, g1⟩, _⟩ := h
  rw [z, g1] at e
  cases e
section
variable {P : Program} {w : World} {K : PySem.W.Frag} {mg : Str → Option Value} {base : Heap}
theorem ok_lkeys {f : Addr} {fd : FuncData} (F : Fun K "_law_keys" "_law_keys" sLKeys f fd) : FnOk P w K mg base CX0 1 f fd [] spLKeys := by
  refine F.ok scLKeys (fun vs H Q E h => ?_) (fun cdv A outer s H vs Q E hr h => ?_)
  · obtain ⟨rfl, _⟩ := h
    rfl
  · obtain ⟨rfl, k⟩ := h
    refine ⟨_, pss_one (ps_ret (pe_lst (pa_cons pe_str (pa_cons pe_str (pa_cons pe_str (pa_cons pe_str (pa_cons pe_str (pa_cons pe_str pa_nil)))))))), ?_⟩
    exact ⟨by show 6 ≤ sizeLine; exact Nat.le_trans (by decide) (Nat.le_of_lt line_big), fun p hp => k p _ (snew hp) hp upd_same⟩
theorem ok_lrange {f fD fS : Addr} {fd fdD fdS : FuncData} (F : Fun K "_law_range" "_law_range" sLRange f fd) (B : Bi mg) (DD : Def P w K mg base CX0 1 "_law_draw" fD fdD ["_law_hand_here", "_law_many"] spDraw)
    (DS : Def P w K mg base CX0 2 "_law_some" fS fdS ["_law_hand_here", "_law_things", "_law_most"] spSome) : FnOk P w K mg base CX0 3 f fd ["_law_hand_here", "_law_keys_here"] spLRange := by
  refine F.ok scLRange (fun vs H Q E h => ?_) (fun cdv A outer s H vs Q E hr h => ?_)
  · obtain ⟨hd, cl, l, zs, rfl, _⟩ := h
    rfl
  · obtain ⟨hd, cl, l, zs, rfl, hh, hk, k⟩ := h
    refine ⟨_, pss_cons (ps_asg (pe_callB cr_sortedS (by rfl) B.sorted (by decide +kernel) (pa_cons (pe_lst
          (pa_cons (pe_ix ix_list (pv 1) (pe_call DD.ok (hr.mono (by decide)) (by rfl) DD.gl DD.kp DD.bd .nil pass0 (pa_cons (pv 0) (pa_cons (pe_callB call_len (by rfl) B.len (by decide +kernel) (pa_cons (pv 1) pa_nil)) pa_nil))) (fun _ _ => rfl))
          (pa_cons (pe_ix ix_list (pv 1) (pe_call DD.ok (hr.mono (by decide)) (by rfl) DD.gl DD.kp DD.bd .nil pass0 (pa_cons (pv 0) (pa_cons (pe_callB call_len (by rfl) B.len (by decide +kernel) (pa_cons (pv 1) pa_nil)) pa_nil))) (fun _ _ => rfl)) pa_nil))) pa_nil))
        (pg_lst rfl (pgs_cons (pg_name (i := 2) scLRange.nd rfl (Or.inr rfl)) (pgs_cons (pg_name (i := 3) scLRange.nd rfl (Or.inr rfl)) pgs_nil))))
      (pss_cons (ps_set (i := 4) scLRange.nd rfl (Or.inl rfl) (pe_callTy call_tuple_of (by rfl) B.tuple (by decide +kernel) (pa_cons (pe_lc (own := [("_law_key", 5)]) (g := gName 5) rfl scLRange.nd
          (pi_tup (pe_call DS.ok hr (by rfl) DS.gl DS.kp DS.bd .nil pass0 (pa_cons (pv 0) (pa_cons (pv 1) (pa_cons pe_int pa_nil)))))
          (blkOk_by (own := [("_law_key", 5)]) (N := ["_law_hand_here", "_law_keys_here", "_law_low", "_law_high", "_law_own", "_law_key"]) (sc := defScope sLRange) (by decide +kernel))
          (fun _ _ _ _ _ => pg_name (i := 5) scLRange.nd rfl (Or.inl rfl)) (fun _ _ _ _ _ => pts_one (pt_chain op_le_str op_le_str (pv 2) (pv 5) (pv 3))) (fun _ _ _ _ _ => pv 5)) pa_nil)))
      (pss_one (ps_ret (pe_tup (pa_cons (pv 2) (pa_cons (pv 3) (pa_cons (pv 4) pa_nil))))))), ?_⟩
    have hzn := hk.ne
    have hzf := hk.few
    have nlh := hk.not_hand hh
    refine ⟨_, rfl, _, rfl, _, rfl, _, zs.length, rfl, .inl ⟨_, SqL.of hk.at_, by rw [List.length_map]⟩, hd, cl, (zs.length : Int), rfl, hh, by omega, by omega, fun d1 H1 h10 h11 s1 hh1 => ?_⟩
    obtain ⟨j1, rfl⟩ := Int.eq_ofNat_of_zero_le h10
    have hj1 : j1 < zs.length := by omega
    have hk1 := hk.sb s1 (fun z => nlh (List.mem_singleton.mp z))
    refine ⟨l, _, j1, .str zs[j1], rfl, rfl, SqL.of hk1.at_, atI_nat (by rw [List.getElem?_map, List.getElem?_eq_getElem hj1]; rfl), ?_⟩
    refine ⟨_, rfl, _, rfl, _, rfl, _, zs.length, rfl, .inl ⟨_, SqL.of hk1.at_, by rw [List.length_map]⟩, hd, cl, (zs.length : Int), rfl, hh1, by omega, by omega, fun d2 H2 h20 h21 s2 hh2 => ?_⟩
    obtain ⟨j2, rfl⟩ := Int.eq_ofNat_of_zero_le h20
    have hj2 : j2 < zs.length := by omega
    have hk2 := hk1.sb s2 (fun z => nlh (List.mem_singleton.mp z))
    refine ⟨l, _, j2, .str zs[j2], rfl, rfl, SqL.of hk2.at_, atI_nat (by rw [List.getElem?_map, List.getElem?_eq_getElem hj2]; rfl), ?_⟩
    refine ⟨(by show 2 ≤ sizeLine; exact Nat.le_trans (by decide) (Nat.le_of_lt line_big)), fun p hp => ?_⟩
    refine ⟨p, [zs[j1], zs[j2]], rfl, SqL.of upd_same, (by show 2 < 64; decide), fun ys q hperm hsrt hq => ?_⟩
    obtain ⟨lo, hi, rfl, hlo, hhi⟩ := two_perm hperm
    have hs1 : Six lo := by
      rcases hlo with e | e <;> (rw [e]; exact hk.six _ (List.getElem_mem _))
    have hs2 : Six hi := by
      rcases hhi with e | e <;> (rw [e]; exact hk.six _ (List.getElem_mem _))
    have hle : KT.tlt hi lo = false := by
      have h1 : (!PySem.Spec.ltCps hi.cps.toList lo.cps.toList && true) = true := hsrt
      rw [PyProof.Rows.ltCps_eq] at h1
      unfold KT.tlt
      cases e : decide (hi.cps.toList < lo.cps.toList) with
      | false => rfl
      | true => rw [e] at h1; cases h1
    refine ⟨q, _, rfl, SqL.of upd_same, rfl, _, _, rfl, _, _, rfl, rfl, ?_⟩
    have sq := (snew (o := .lst ([zs[j1], zs[j2]].map V.str)) hp).trans (snew (o := .lst ([lo, hi].map V.str)) hq)
    have s3 : Sb [hd] H (upd (upd H2 p (.lst ([zs[j1], zs[j2]].map V.str))) q (.lst ([lo, hi].map V.str))) := (s1.trans s2).trans (Sb.of sq)
    have hh3 := hh2.same sq
    have hk3 := hk.sb s3 (fun z => nlh (List.mem_singleton.mp z))
    refine ⟨_, rfl, _, rfl, hd, cl, l, zs, 1, rfl, hh3, hk3, by decide, by decide, fun t own H4 s4 hh4 ht hup hfew => ?_⟩
    refine ⟨t, rfl, ⟨_, SqT.of ht⟩, fun D hD => ?_⟩
    refine lc_filt (walk_tup (xs := own.map V.str)) (fun i => !KT.tlt (own.getD i "") lo && !KT.tlt hi (own.getD i "")) (fun i => .str (own.getD i "")) (by rw [List.length_map]; have := hup.few; omega) hD (fun H5 h => SqT.of (h _ _ ht)) (fun i x H5 H6 hi5 s5 y k1 k2 => ?_) fun H5 s5 hlD => ?_
    · obtain ⟨rfl, hx⟩ := y
      obtain ⟨rfl, hm⟩ := at_map ("" : Str) V.str hx
      refine ⟨rfl, _, rfl, _, rfl, _, _, rfl, rfl, !KT.tlt (own.getD i "") lo, rfl, ?_⟩
      cases e1 : KT.tlt (own.getD i "") lo with
      | true => exact iteF ⟨false, rfl, iteF (k2 (by rw [e1]; rfl) _ (Same.refl _))⟩
      | false =>
        refine iteT ⟨_, rfl, _, _, rfl, rfl, !KT.tlt hi (own.getD i ""), rfl, ?_⟩
        cases e2 : KT.tlt hi (own.getD i "") with
        | true => exact iteF (k2 (by rw [e1, e2]; rfl) _ (Same.refl _))
        | false => exact iteT ⟨_, rfl, k1 (by rw [e1, e2]; rfl) _ (Same.refl _)⟩
    · rw [List.length_map, rng_filt ("" : Str) (fun z => !KT.tlt z lo && !KT.tlt hi z) V.str own] at hlD
      refine ⟨D, _, rfl, .inl ⟨SqL.of hlD, fun o ho => ?_⟩⟩
      refine ⟨_, rfl, _, rfl, _, rfl, (by show 3 ≤ sizeLine; exact Nat.le_trans (by decide) (Nat.le_of_lt line_big)), fun a ha => ?_⟩
      have so := s5.trans (snew (o := .tup ((own.filter fun z => !KT.tlt z lo && !KT.tlt hi z).map V.str)) ho)
      have sa := so.trans (snew (o := .tup [.str lo, .str hi, .ref o]) ha)
      have nao : o ≠ a := fun z => by rw [← z, upd_same] at ha; cases ha
      have hown : ∀ z ∈ own.filter (fun z => !KT.tlt z lo && !KT.tlt hi z), Six z ∧ KT.tlt z lo = false ∧ KT.tlt hi z = false := fun z hz => by
        rw [List.mem_filter, Bool.and_eq_true, Bool.not_eq_true', Bool.not_eq_true'] at hz
        exact ⟨hup.six z hz.1, hz.2.1, hz.2.2⟩
      have hol : (own.filter (fun z => !KT.tlt z lo && !KT.tlt hi z)).length ≤ 1 := by
        have := List.length_filter_le (fun z => !KT.tlt z lo && !KT.tlt hi z) own
        omega
      refine k (.ref a) ⟨lo, hi, own.filter (fun z => !KT.tlt z lo && !KT.tlt hi z)⟩ _ ((s3.trans s4).trans (Sb.of sa)) (hh4.same sa) ⟨a, o, rfl, upd_same, by rw [upd_ne nao]; exact upd_same⟩ ⟨hs1, hs2, ?_⟩
        ⟨six_key _ hs1, six_key _ hs2, hle, fun z hz => ⟨six_key _ (hown z hz).1, (hown z hz).2⟩, hup.up.sublist List.filter_sublist, by show (own.filter _).length ≤ 1000; omega⟩
      show own.filter _ = [] ∨ _
      generalize own.filter (fun z => !KT.tlt z lo && !KT.tlt hi z) = ow at hown hol
      match ow, hol with
      | [], _ => exact .inl rfl
      | [x], _ => exact .inr ⟨x, rfl, (hown x List.mem_cons_self).1⟩
theorem ok_lseen {f fD fS fR : Addr} {fd fdD fdS fdR : FuncData} (F : Fun K "_law_seen" "_law_seen" sLSeen f fd) (B : Bi mg) (DD : Def P w K mg base CX0 1 "_law_draw" fD fdD ["_law_hand_here", "_law_many"] spDraw)
    (DS : Def P w K mg base CX0 2 "_law_some" fS fdS ["_law_hand_here", "_law_things", "_law_most"] spSome) (DR : Def P w K mg base CX0 3 "_law_range" fR fdR ["_law_hand_here", "_law_keys_here"] spLRange) : FnOk P w K mg base CX0 4 f fd ["_law_hand_here", "_law_keys_here"] spLSeen := by
  refine F.ok scLSeen (fun vs H Q E h => ?_) (fun cdv A outer s H vs Q E hr h => ?_)
  · obtain ⟨hd, cl, l, zs, rfl, _⟩ := h
    rfl
  · obtain ⟨hd, cl, l, zs, rfl, hh, hk, k⟩ := h
    refine ⟨_, pss_cons (ps_setLc (i := 2) (own := [("_law_turn", 3)]) (g := gName 3) rfl scLSeen.nd rfl rfl (sw_true rfl rfl rfl (by decide +kernel))
          (pi_range1 rfl B.range (pa_cons (pe_callB (call_max2 rfl) (by rfl) B.max (by decide +kernel) (pa_cons pe_int (pa_cons (pe_op op_sub (pe_call DD.ok (hr.mono (by decide)) (by rfl) DD.gl DD.kp DD.bd .nil pass0 (pa_cons (pv 0) (pa_cons pe_int pa_nil))) pe_int) pa_nil))) pa_nil))
          (blkOk_by (own := [("_law_turn", 3)]) (N := ["_law_hand_here", "_law_keys_here", "_law_ranges", "_law_turn"]) (sc := defScope sLSeen) (by decide +kernel))
          (fun _ _ _ _ _ => pg_name (i := 3) scLSeen.nd rfl (Or.inl rfl)) (fun _ _ _ _ _ => pts_nil) (fun _ _ _ _ _ => pe_call DR.ok hr (by rfl) DR.gl DR.kp DR.bd .nil pass0 (pa_cons (pv 0) (pa_cons (pv 1) pa_nil))))
      (pss_one (ps_ret (pe_tup (pa_cons (pe_call DS.ok (hr.mono (by decide)) (by rfl) DS.gl DS.kp DS.bd .nil pass0 (pa_cons (pv 0) (pa_cons (pv 1) (pa_cons pe_int pa_nil))))
        (pa_cons (pe_callTy call_tuple_of (by rfl) B.tuple (by decide +kernel) (pa_cons (pe_sortedRgs (hu16 hr) rfl (by rfl) B.sorted (by rfl) B.set (pv 2)) pa_nil)) pa_nil))))), ?_⟩
    have nlh := hk.not_hand hh
    refine ⟨_, rfl, hd, cl, 4, rfl, hh, by decide, by decide, fun d H1 hd0 hd1 s1 hh1 => ?_⟩
    refine ⟨_, _, rfl, rfl, _, _, rfl, ?_⟩
    have hb : 0 ≤ (if d - 1 > 0 then d - 1 else 0 : Int) ∧ (if d - 1 > 0 then d - 1 else 0 : Int) ≤ 2 := by split <;> omega
    refine ⟨_, rfl, by omega, by omega, fun D hD => ?_⟩
    have nDh : D ≠ hd := hh1.fresh hD
    refine lc_it walk_range (fun i H' => ∃ (xs : List V) (rs : List KT.Rg), Sb [hd] H H' ∧ HandAt H' hd cl ∧ H' D = some (.lst xs) ∧ RgsAt H' xs rs ∧ rs.length = i ∧ ∀ r ∈ rs, RgOk r ∧ RgW r) ?_ (fun _ _ _ _ => trivial) (fun i x H2 H3 hi p y => ?_) fun H2 p => ?_
    · exact ⟨[], [], snewB s1 (s1.fr hD (fun z => nDh (List.mem_singleton.mp z))), hh1.same (snew hD), upd_same, ⟨rfl, fun i x r hx => by simp at hx⟩, rfl, fun r hr => by cases hr⟩
    · obtain ⟨rfl, rfl⟩ := y
      obtain ⟨xs, rs, s2, hh2, hD2, hx2, hl2, hr2⟩ := p
      refine ⟨rfl, tyes ⟨_, rfl, _, rfl, hd, cl, l, zs, rfl, hh2, hk.sb s2 (fun z => nlh (List.mem_singleton.mp z)), fun v r H4 s4 hh4 hv hro hrw => ?_⟩⟩
      have hD4 := s4 _ _ (fun z => nDh (List.mem_singleton.mp z)) hD2
      have hx4 := hx2.sbm hh2 s4
      have hDH : H D = none := s1.fr hD (fun z => nDh (List.mem_singleton.mp z))
      have sD : Sb [D] H4 (upd H4 D (.lst (xs ++ [v]))) := fun b o hb hbo => by rw [upd_ne (fun z => hb (by rw [z]; simp))]; exact hbo
      have mD : ∀ b ∈ [D], Mb H4 b := fun b hb => by rw [List.mem_singleton.mp hb]; exact .inr (.inr (.inl ⟨_, hD4⟩))
      have ncD : cl ≠ D := fun z => by
        obtain ⟨_, ⟨cs, c1, _⟩, _⟩ := hh
        rw [z, hDH] at c1; cases c1
      have hlen : rs.length < 1000 := by
        have : i < 3 := by omega
        omega
      refine ⟨xs, hD4, by rw [hx2.1]; exact Nat.lt_trans (Nat.lt_of_lt_of_le hlen (by decide)) line_big, xs ++ [v], rs ++ [r], snewB (s2.trans s4) hDH, hh4.sb sD (fun z => nDh (List.mem_singleton.mp z).symm) (fun z => ncD (List.mem_singleton.mp z)), upd_same, ⟨by rw [List.length_append, List.length_append, hx2.1]; rfl, fun j x q hx hq => ?_⟩, by rw [List.length_append, hl2]; rfl, fun q hq => ?_⟩
      · rcases Nat.lt_trichotomy j rs.length with z | z | z
        · rw [List.getElem?_append_left (by rw [hx2.1]; exact z)] at hx
          rw [List.getElem?_append_left z] at hq
          exact (hx4.2 j x q hx hq).sb sD mD
        · rw [z, List.getElem?_append_right (by rw [hx2.1]; exact Nat.le_refl _), hx2.1, Nat.sub_self] at hx
          rw [z, List.getElem?_append_right (Nat.le_refl _), Nat.sub_self] at hq
          cases hx
          cases hq
          exact hv.sb sD mD
        · have := (List.getElem?_eq_some_iff.mp hq).1
          rw [List.length_append, List.length_singleton] at this
          omega
      · rcases List.mem_append.mp hq with z | z
        · exact hr2 q z
        · rw [List.mem_singleton.mp z]; exact ⟨hro, hrw⟩
    · obtain ⟨xs, rs, s2, hh2, hD2, hx2, hl2, hr2⟩ := p
      have hrl : rs.length ≤ 2 := by rw [hl2]; omega
      refine ⟨_, rfl, _, rfl, hd, cl, l, zs, 2, rfl, hh2, hk.sb s2 (fun z => nlh (List.mem_singleton.mp z)), by decide, by decide, fun ka asked H3 s3 hh3 hka hup hfew => ?_⟩
      have hD3 := s3 _ _ (fun z => nDh (List.mem_singleton.mp z)) hD2
      have hx3 := hx2.sbm hh2 s3
      have ez : (rs.zip xs).map (·.2) = xs := List.map_snd_zip (by rw [hx2.1]; exact Nat.le_refl _)
      have mz : ∀ z ∈ rs.zip xs, RgAt H3 z.2 z.1 ∧ RgOk z.1 ∧ RgW z.1 := fun z hz => by
        obtain ⟨j, hj⟩ := List.mem_iff_getElem?.mp hz
        obtain ⟨h1, h2⟩ := List.getElem?_zip_eq_some.mp hj
        exact ⟨hx3.2 j _ _ h2 h1, hr2 _ (List.mem_of_getElem? h1)⟩
      refine ⟨_, rfl, D, rs.zip xs, rfl, SqL.of (by rw [ez]; exact hD3), by rw [List.length_zip, hx2.1, Nat.min_self]; exact hrl, fun z hz => ⟨(mz z hz).1, (mz z hz).2.1⟩, fun p ys hp hy1 hy2 hy3 => ?_⟩
      refine ⟨p, _, rfl, .inl ⟨SqL.of upd_same, fun ra hra => ?_⟩⟩
      refine ⟨(by show 2 ≤ sizeLine; exact Nat.le_trans (by decide) (Nat.le_of_lt line_big)), fun t ht => ?_⟩
      have sp := snew (o := .lst (ys.map (·.2))) hp
      have sr := sp.trans (snew (o := .tup (ys.map (·.2))) hra)
      have st := sr.trans (snew (o := .tup [.ref ka, .ref ra]) ht)
      have nrt : ra ≠ t := fun z => by rw [← z, upd_same] at ht; cases ht
      have ndy : (ys.map (·.1)).Nodup := by
        rw [List.nodup_iff_pairwise_ne, List.pairwise_map]
        exact hy3.imp fun h z => by rw [z] at h; omega
      have hyl : ys.length ≤ rs.length := by
        have := nd_len (ys.map (·.1)) rs ndy fun z hz => by
          obtain ⟨y, hy', rfl⟩ := List.mem_map.mp hz
          obtain ⟨j, hj⟩ := List.mem_iff_getElem?.mp (hy1 y hy')
          exact List.mem_of_getElem? (List.getElem?_zip_eq_some.mp hj).1
        rw [List.length_map] at this
        exact this
      refine k t ka ra asked (ys.map (·.1)) (ys.map (·.2)) _ ((s2.trans s3).trans (Sb.of st)) (hh3.same st) upd_same (st _ _ hka) hup (by rw [upd_ne nrt]; exact upd_same) ⟨by rw [List.length_map, List.length_map], fun j x q hx hq => ?_⟩ (by rw [List.length_map]; omega) (fun r hr => ?_) ?_
      · rw [List.getElem?_map] at hx hq
        cases ej : ys[j]? with
        | none => rw [ej] at hx; cases hx
        | some y =>
          rw [ej] at hx hq
          cases hx
          cases hq
          exact (mz y (hy1 y (List.mem_of_getElem? ej))).1.same st
      · obtain ⟨y, hy', rfl⟩ := List.mem_map.mp hr
        exact (mz y (hy1 y hy')).2.2
      · rw [UpR, List.pairwise_map]
        refine List.Pairwise.imp_of_mem (fun {a b} ha hb h => ?_) hy3
        rw [rgIx_lt _ _ (mz a (hy1 a ha)).2.1 (mz b (hy1 b hb)).2.1]
        exact decide_eq_true h
end
end K58

namespace K58
open PySem L2
theorem Takes.len {X : Cx} {W : WX} (tk : Takes X W) : Takes X (fun cls d σ H => σ.length = X.N.length → W cls d σ H) := fun u s' ⟨a, B, sI, pins, σ, H, cls, d, e, I, nb, up, sky, na, os, ag, w⟩ =>
  tk u s' ⟨a, B, sI, pins, σ, H, cls, d, e, I, nb, up, sky, na, os, ag, w I.len⟩
theorem pss_ex {X : Cx} {body : List Stmt} {p : XK → Prop} {tt : XK → TS} (h : ∀ E : XK, p E → PSs X body (tt E)) : PSs X body (fun D σ H => ∃ E : XK, p E ∧ tt E D σ H) := ⟨fun pins s σ H D I ⟨E, hp, ht⟩ => (h E hp).run pins s σ H D I ht⟩
/-- what _law_told makes of a call -/
def TTd (RF : Addr) : (XK → Hp → VK → Prop) → Hp → VK → Prop := fun tl H Q => ∀ H0, Same H H0 →
  tl (fun cls d H' => cls = .ref RF ∧ ∃ (dd : Addr) (p : V), d = some dd ∧ H' dd = some (.xd [("ring", p)]) ∧ ∀ (H'' : Hp) (t : Addr), Same H' H'' → H'' t = some (.tup [.str "ring", p]) → Q (.ref t) H'') H0
    (fun v H' => ∀ t : Addr, H' t = none → Q (.ref t) (upd H' t (.tup [.str "told", v])))
theorem scTold : FnScope ["_law_call", "_law_found", "e"] ["_law_call"] (defScope sTold) := ⟨rfl, rfl, rfl, by decide +kernel, rfl, by decide +kernel, by decide +kernel⟩
/-- what catching Refused wants -/
structure CatchR (K : PySem.W.Frag) (mg : Str → Option Value) (RF : Addr) : Prop where
  gC : mg "Refused" = some (.ref RF)
  xf : XfC K RF
  nR : PySem.W.findIn K (.ref RF) "ring" = some none
  ex : PySem.W.exmOne K (.ref RF) (.ref RF) = some true
theorem two_line : 2 ≤ sizeLine := Nat.le_trans (by decide) (Nat.le_of_lt line_big)
theorem told_gives {X : Cx} {g RF : Addr} {cdg : Value} {q : Str} (CR : CatchR X.K X.mg RF) : LamX.GivesTo X ["_law_call", "_law_found", "e"] "_law_told" (defScope sTold) g cdg (defBody sTold) "_law_call" q (TTd RF) := by
  intro f c' s H Q tl act hc h
  refine ⟨_, pss_cons (ps_set (i := 1) scTold.nd rfl (Or.inl rfl) (pe_tup (pa_cons pe_str (pa_cons pe_non pa_nil))))
    (pss_cons (ps_try_as (i := 2) (c := .ref RF)
      (tb := fun W D σ H => ∃ Ech : XK, (∀ cls d σ' H', Ech cls d H' → σ'.length = 3 → W cls d σ' H') ∧ tAsg (tTup (tCons (tC (.str "told")) (tCons (fun σZ HZ Q => σZ[0]? = some (some (.ref f)) ∧ HZ c' = some (LamX.CodeO c' q) ∧ tl Ech HZ Q) tNil))) (gName 1) D σ H)
      rfl rfl scTold.nd rfl rfl ⟨rfl, by decide, .inl CR.gC⟩ LamX.takes0 (fun W pn xe tk _ => pss_ex fun Ech hW => ?_)
      (fun a oe cls d pn hz hf => pss_one (ps_set (i := 1) scTold.nd rfl (Or.inl rfl) (pe_tup (pa_cons pe_str (pa_cons (pe_xf CR.xf CR.nR hz hf (pv 2)) pa_nil))))))
    (pss_one (ps_ret (pv 1)))), ?_⟩
  · exact pss_one (ps_set (i := 1) scTold.nd rfl (Or.inl rfl) (pe_tup (pa_cons pe_str (pa_cons (act _ pn xe Ech _ _ (Takes.len tk) (fun cls d σ' H' he hl => hW cls d σ' H' he hl)) pa_nil))))
  · refine ⟨two_line, fun t0 ht0 => ?_⟩
    have s0 := snew (o := .tup [.str "other", .non]) ht0
    refine ⟨fun cls d H' => cls = .ref RF ∧ ∃ (dd : Addr) (p : V), d = some dd ∧ H' dd = some (.xd [("ring", p)]) ∧ ∀ (H'' : Hp) (t : Addr), Same H' H'' → H'' t = some (.tup [.str "ring", p]) → Q (.ref t) H'', fun cls d σ' H' he hl => ?_, rfl, s0 _ _ hc, ?_⟩
    · obtain ⟨rfl, dd, p, rfl, hdd, k⟩ := he
      obtain ⟨x0, x1, x2, rfl⟩ : ∃ x0 x1 x2, σ' = [x0, x1, x2] := by
        match σ', hl with
        | [x0, x1, x2], _ => exact ⟨x0, x1, x2, rfl⟩
      refine ⟨true, CR.ex, fun _ a ha => ?_, fun z => Bool.noConfusion z⟩
      refine ⟨_, rfl, rfl, rfl, dd, _, p, rfl, hdd, rfl, two_line, fun t ht => ?_⟩
      exact ⟨_, rfl, k _ t (snew ht) upd_same⟩
    · refine (congrArg (tl _ _) ?_).mp (h _ s0)
      funext v H1
      apply propext
      constructor
      · intro k
        exact ⟨two_line, fun p hp => ⟨_, rfl, k p hp⟩⟩
      · rintro ⟨_, k⟩ t ht
        obtain ⟨v2, e2, k2⟩ := k t ht
        have e3 : V.ref t = v2 := Option.some.inj (Option.some.inj e2)
        rw [e3]
        have k3 := k2
        rw [← e3] at k3 ⊢
        exact k3
end K58

namespace K58
open PySem L2
abbrev NmL : Type := List (Int × Int)
def nmGet (nm : NmL) (e : Int) : Int := match nm.find? (fun p => decide (p.1 = e)) with
  | some p => p.2
  | none => 0
theorem nmGet_in {nm : NmL} (nd : (nm.map (·.1)).Nodup) {e v : Int} (h : (e, v) ∈ nm) : nmGet nm e = v := by
  unfold nmGet
  cases hf : nm.find? (fun p => decide (p.1 = e)) with
  | none =>
    have := List.find?_eq_none.mp hf _ h
    simp at this
  | some p =>
    have h1 := List.mem_of_find?_eq_some hf
    have h2 : p.1 = e := by simpa using List.find?_some hf
    obtain ⟨e', q'⟩ := p
    simp only at h2
    subst h2
    exact nodup_key nd h1 h
theorem nm_get {H : Hp} {d : Addr} {nm : NmL} (hd : H d = some (.dK (nm.map rowO))) (nd : (nm.map (·.1)).Nodup) {e : Int} (h : e ∈ nm.map (·.1)) : DGet H d (.int e) (some (.int (nmGet nm e))) := by
  obtain ⟨p, hp, rfl⟩ := List.mem_map.mp h
  have := opn_get hd nd (e := p.1) (s := p.2) hp
  rw [nmGet_in nd hp]
  exact this
def spCommon : Sp := fun vs H Q _ => ∃ (nd t : Addr) (nm : NmL), vs = [.ref nd, .ref t] ∧ H nd = some (.dK (nm.map rowO)) ∧ (nm.map (·.1)).Nodup ∧
  ((∃ (z : Str) (v : V), H t = some (.tup [.str z, v]) ∧ z ≠ "ring" ∧ Q (.ref t) H) ∨
   (∃ (p : Addr) (row : List Int), H t = some (.tup [.str "ring", .ref p]) ∧ H p = some (.tup (row.map V.int)) ∧ row.length ≤ 1000 ∧ (∀ e ∈ row, e ∈ nm.map (·.1)) ∧
     ∀ (q p2 : Addr) (H' : Hp), Same H H' → H' q = some (.tup [.str "ring", .ref p2]) → H' p2 = some (.tup ((row.map (nmGet nm)).map V.int)) → Q (.ref q) H'))
theorem scLW : FnScope ["_law_hand_here", "_law_keys_here", "_law_most", "_law_found", "_law_key"] ["_law_hand_here", "_law_keys_here", "_law_most"] (defScope sLWrites) := ⟨rfl, rfl, rfl, by decide +kernel, rfl, by decide +kernel, by decide +kernel⟩
theorem scCommon : FnScope ["_law_names", "_law_told_here", "_law_entry"] ["_law_names", "_law_told_here"] (defScope sCommon) := ⟨rfl, rfl, rfl, by decide +kernel, rfl, by decide +kernel, by decide +kernel⟩
section
variable {P : Program} {w : World} {K : PySem.W.Frag} {mg : Str → Option Value} {base : Heap}
theorem ok_lwrites {f fD fS : Addr} {fd fdD fdS : FuncData} (F : Fun K "_law_writes" "_law_writes" sLWrites f fd) (B : Bi mg) (DD : Def P w K mg base CX0 1 "_law_draw" fD fdD ["_law_hand_here", "_law_many"] spDraw)
    (DS : Def P w K mg base CX0 2 "_law_some" fS fdS ["_law_hand_here", "_law_things", "_law_most"] spSome) : FnOk P w K mg base CX0 3 f fd ["_law_hand_here", "_law_keys_here", "_law_most"] spLWrites := by
  refine F.ok scLW (fun vs H Q E h => ?_) (fun cdv A outer s H vs Q E hr h => ?_)
  · obtain ⟨hd, cl, l, zs, m, rfl, _⟩ := h
    rfl
  · obtain ⟨hd, cl, l, zs, m, rfl, hh, hk, h0, h2, k⟩ := h
    refine ⟨_, pss_cons (ps_set (i := 3) scLW.nd rfl (Or.inl rfl) (pe_lst pa_nil))
      (pss_cons (ps_for PassesOwn.never rfl (pi_tup (pe_call DS.ok hr (by rfl) DS.gl DS.kp DS.bd .nil pass0 (pa_cons (pv 0) (pa_cons (pv 1) (pa_cons (pv 2) pa_nil))))) (pg_name (i := 4) scLW.nd rfl (Or.inl rfl))
        (pss_one (ps_expr (pe_bm PySem.F.plainAttrs_list PySem.F.slot_list_append PySem.F.type_list_append mt_append (pv 3) (pa_cons (pe_tup (pa_cons (pv 4)
          (pa_cons (pe_ix ix_list (pe_lst (pa_cons pe_non (pa_cons pe_int (pa_cons pe_int (pa_cons (pe_un un_neg pe_int) (pa_cons (pe_op op_pow pe_int pe_int) pa_nil)))))) (pe_call DD.ok (hr.mono (by decide)) (by rfl) DD.gl DD.kp DD.bd .nil pass0 (pa_cons (pv 0) (pa_cons pe_int pa_nil))) (fun _ _ => rfl)) pa_nil))) pa_nil)))))
      (pss_one (ps_ret (pe_callTy call_tuple_of (by rfl) B.tuple (by decide +kernel) (pa_cons (pv 3) pa_nil))))), ?_⟩
    have nlh := hk.not_hand hh
    refine ⟨Nat.zero_le _, fun fl hfl => ?_⟩
    have nfh : fl ≠ hd := hh.fresh hfl
    have nfc : cl ≠ fl := fun z => by
      obtain ⟨_, ⟨cs, c1, _⟩, _⟩ := hh
      rw [z, hfl] at c1; cases c1
    have s0 := snew (o := .lst []) hfl
    have hk0 := hk.sb (L := []) (Sb.of s0) (by simp)
    refine ⟨_, rfl, _, rfl, _, rfl, hd, cl, l, zs, m, rfl, hh.same s0, hk0, h0, h2, fun p ys H1 s1 hh1 hp1 hup hfew => ?_⟩
    have s01 : Sb [hd] H H1 := (Sb.of s0).trans s1
    have hf1 := s1 _ _ (fun z => nfh (List.mem_singleton.mp z)) (upd_same (H := H) (a := fl) (o := .lst []))
    refine ⟨p, rfl, ⟨_, SqT.of hp1⟩, ?_⟩
    refine for_tup (xs := ys.map V.str) (fun i σ' H' => ∃ (ws : List V) (x4 : Option V), σ' = [some (.ref hd), some (.ref l), some (.int m), some (.ref fl), x4] ∧ Sb [hd] H H' ∧ HandAt H' hd cl ∧ H' p = some (.tup (ys.map V.str)) ∧ H' fl = some (.lst ws) ∧ WrsAt H' ws (ys.take i)) ?_ ?_ ?_ ?_
    · exact ⟨[], _, rfl, s01, hh1, hp1, hf1, ⟨by simp, fun i x z hx => by simp at hx⟩⟩
    · rintro i σ' H' _ ⟨ws, x4, rfl, g1, g2, g3, g4⟩
      exact SqT.of g3
    · rintro i x σ' H2 hx ⟨ws, x4, rfl, g1, g2, g3, g4, g5⟩
      obtain ⟨rfl, hm⟩ := at_map ("" : Str) V.str hx
      have hyi : ys[i]? = some (ys.getD i "") := by
        rw [List.getElem?_map] at hx
        cases ej : ys[i]? with
        | none => rw [ej] at hx; cases hx
        | some o => rw [List.getD_eq_getElem?_getD, ej]; rfl
      generalize ys.getD i "" = z at hyi hm ⊢
      refine ⟨_, rfl, .inl ⟨rfl, _, SqL.of g4⟩, _, rfl, _, rfl, _, _, rfl, rfl, ⟨by decide, by decide, by decide⟩, (by show 5 ≤ sizeLine; exact Nat.le_trans (by decide) (Nat.le_of_lt line_big)), fun q hq => ?_⟩
      have sq := snew (o := .lst [.non, .int 0, .int 5, .int (-7), .int ((10 : Int) ^ (18 : Int).toNat)]) hq
      have nqh : q ≠ hd := g2.fresh hq
      refine ⟨_, rfl, hd, cl, 5, rfl, g2.same sq, by decide, by decide, fun d H3 hd0 hd1 s3 hh3 => ?_⟩
      have hq3 := s3 _ _ (fun z => nqh (List.mem_singleton.mp z)) (upd_same (H := H2) (a := q) (o := .lst [.non, .int 0, .int 5, .int (-7), .int ((10 : Int) ^ (18 : Int).toNat)]))
      have s23 : Sb [hd] H2 H3 := (Sb.of sq).trans s3
      obtain ⟨v, hv, hW⟩ : ∃ v, atI [V.non, .int 0, .int 5, .int (-7), .int ((10 : Int) ^ (18 : Int).toNat)] d = some v ∧ WorthV v := by
        have c : d = 0 ∨ d = 1 ∨ d = 2 ∨ d = 3 ∨ d = 4 := by omega
        rcases c with rfl | rfl | rfl | rfl | rfl
        · exact ⟨_, rfl, .inl rfl⟩
        · exact ⟨_, rfl, .inr ⟨_, rfl, by decide, by decide⟩⟩
        · exact ⟨_, rfl, .inr ⟨_, rfl, by decide, by decide⟩⟩
        · exact ⟨_, rfl, .inr ⟨_, rfl, by decide, by decide⟩⟩
        · exact ⟨_, rfl, .inr ⟨_, rfl, by decide, by decide⟩⟩
      refine ⟨q, _, d, v, rfl, rfl, SqL.of hq3, hv, two_line, fun t ht => ?_⟩
      have st := snew (o := .tup [.str z, v]) ht
      have s2t : Sb [hd] H2 (upd H3 t (.tup [.str z, v])) := s23.trans (Sb.of st)
      have hf3 := s2t _ _ (fun z => nfh (List.mem_singleton.mp z)) g4
      have hp3 := s2t _ _ (fun z => (hh1.ne_of hp1 (fun xs z => by cases z)) (List.mem_singleton.mp z)) g3
      have hwl : ws.length < 1000 := by
        rw [g5.1, List.length_take]
        have := hup.few
        omega
      refine ⟨fl, _, _, rfl, rfl, hf3, Nat.lt_trans (Nat.lt_of_lt_of_le hwl (by decide)) line_big, ?_⟩
      have hh3t := hh3.same st
      have g5t : WrsAt (upd H3 t (.tup [.str z, v])) ws (ys.take i) := g5.sb s2t fun b hb => by rw [List.mem_singleton.mp hb]; exact g2.mb
      have ht3 : upd H3 t (.tup [.str z, v]) t = some (.tup [.str z, v]) := upd_same
      have g1t : Sb [hd] H (upd H3 t (.tup [.str z, v])) := g1.trans s2t
      generalize upd H3 t (.tup [.str z, v]) = H4 at hf3 hp3 hh3t g5t ht3 g1t ⊢
      have sD : Sb [fl] H4 (upd H4 fl (.lst (ws ++ [.ref t]))) := fun b o hb hbo => by rw [upd_ne (fun z => hb (by rw [z]; simp))]; exact hbo
      have mD : ∀ b ∈ [fl], Mb H4 b := fun b hb => by rw [List.mem_singleton.mp hb]; exact .inr (.inr (.inl ⟨_, hf3⟩))
      refine ⟨ws ++ [.ref t], _, rfl, snewB g1t hfl, hh3t.sb sD (fun z => nfh (List.mem_singleton.mp z).symm) (fun z => nfc (List.mem_singleton.mp z)), sD _ _ (fun z => ne_of hp3 hf3 (by intro z; cases z) (List.mem_singleton.mp z)) hp3, upd_same, ?_⟩
      have g6 := g5t.sb sD mD
      refine ⟨by rw [L2.take_next hyi, List.length_append, List.length_append, g5.1]; rfl, fun j x z2 hxj hzj => ?_⟩
      rw [L2.take_next hyi] at hzj
      rcases Nat.lt_trichotomy j ws.length with c | c | c
      · rw [List.getElem?_append_left c] at hxj
        rw [List.getElem?_append_left (by rw [← g5.1]; exact c)] at hzj
        exact g6.2 j x z2 hxj hzj
      · rw [c, List.getElem?_append_right (Nat.le_refl _), Nat.sub_self] at hxj
        rw [c, g5.1, List.getElem?_append_right (Nat.le_refl _), Nat.sub_self] at hzj
        cases hxj
        cases hzj
        exact ⟨t, v, rfl, sD _ _ (fun z => ne_of ht3 hf3 (by intro z; cases z) (List.mem_singleton.mp z)) ht3, hW⟩
      · have := (List.getElem?_eq_some_iff.mp hxj).1
        rw [List.length_append, List.length_singleton] at this
        omega
    · rintro σ' H2 ⟨ws, x4, rfl, g1, g2, g3, g4, g5⟩
      rw [List.length_map, List.take_length] at g5
      refine ⟨_, rfl, fl, _, rfl, .inl ⟨SqL.of g4, fun q hq => ?_⟩⟩
      have sq := snew (o := .tup ws) hq
      exact k q ws ys _ (g1.trans (Sb.of sq)) (g2.same sq) upd_same (g5.same sq) hup
theorem ok_common {f : Addr} {fd : FuncData} (F : Fun K "_law_common" "_law_common" sCommon f fd) (B : Bi mg) : FnOk P w K mg base CX0 1 f fd ["_law_names", "_law_told_here"] spCommon := by
  refine F.ok scCommon (fun vs H Q E h => ?_) (fun cdv A outer s H vs Q E hr h => ?_)
  · obtain ⟨nd, t, nm, rfl, _⟩ := h
    rfl
  · obtain ⟨nd, t, nm, rfl, hn, hnd, hc⟩ := h
    refine ⟨_, pss_cons (ps_if (pt_cmpR op_ne (pe_ix ix_tup (pv 1) pe_int (fun _ _ => rfl)) pe_str (nomark _)) (pss_one (ps_ret (pv 1))) pss_nil)
      (pss_one (ps_ret (pe_tup (pa_cons pe_str (pa_cons (pe_callTy call_tuple_of (by rfl) B.tuple (by decide +kernel) (pa_cons (pe_lc (own := [("_law_entry", 2)]) (g := gName 2) rfl scCommon.nd (pi_tup (pe_ix ix_tup (pv 1) pe_int (fun _ _ => rfl)))
          (blkOk_by (own := [("_law_entry", 2)]) (N := ["_law_names", "_law_told_here", "_law_entry"]) (sc := defScope sCommon) (by decide +kernel))
          (fun _ _ _ _ _ => pg_name (i := 2) scCommon.nd rfl (Or.inl rfl)) (fun _ _ _ _ _ => pts_nil) (fun _ _ _ _ _ => pe_dget2 (hu_of hr) (pv 0) (pv 2) pe_non ⟨rfl, rfl, rfl, rfl⟩)) pa_nil)) pa_nil))))), ?_⟩
    rcases hc with ⟨z, v, ht, hz, k⟩ | ⟨p, row, ht, hp, hl, hin, k⟩
    · refine ⟨_, rfl, t, _, 0, _, rfl, rfl, SqT.of ht, rfl, rfl, _, rfl, ?_⟩
      have e : (!decide (V.str z = V.str "ring")) = true := by
        rw [decide_eq_false (fun q => hz (by injection q))]; rfl
      show if (!decide (V.str z = V.str "ring")) = true then _ else _
      rw [e]
      exact iteT ⟨_, rfl, k⟩
    · refine ⟨_, rfl, t, _, 0, _, rfl, rfl, SqT.of ht, rfl, rfl, _, rfl, ?_⟩
      show if (!decide (V.str "ring" = V.str "ring")) = true then _ else _
      rw [decide_eq_true (rfl : V.str "ring" = V.str "ring")]
      refine iteF ?_
      refine ⟨_, rfl, t, _, 1, _, rfl, rfl, SqT.of ht, rfl, p, rfl, ⟨_, SqT.of hp⟩, fun D hD => ?_⟩
      refine lc_map (walk_tup (xs := row.map V.int)) (fun i => .int (nmGet nm (row.getD i 0))) (by rw [List.length_map]; omega) hD (fun H3 h => SqT.of (h _ _ hp)) (fun i x H3 H4 hi s3 y kk => ?_) fun H3 s3 hlD => ?_
      · obtain ⟨rfl, hx⟩ := y
        obtain ⟨rfl, hm⟩ := at_map (0 : Int) V.int hx
        exact ⟨rfl, tyes ⟨_, rfl, nd, rfl, .inl ⟨_, .inl (s3 _ _ hn)⟩, _, rfl, _, nm_get (s3 _ _ hn) hnd (hin _ hm), kk _ (Same.refl _)⟩⟩
      · rw [List.length_map, rng_map (0 : Int) (fun z => V.int (nmGet nm z)) row] at hlD
        have eD : row.map (fun z => V.int (nmGet nm z)) = (row.map (nmGet nm)).map V.int := by rw [List.map_map]; rfl
        rw [eD] at hlD
        refine ⟨D, _, rfl, .inl ⟨SqL.of hlD, fun p2 hp2 => ⟨two_line, fun q hq => ?_⟩⟩⟩
        have nq : p2 ≠ q := fun z => by rw [← z, upd_same] at hq; cases hq
        exact k q p2 _ (s3.trans ((snew hp2).trans (snew hq))) upd_same (by rw [upd_ne nq]; exact upd_same)
end
end K58

namespace K58
open PySem L2
/-! ### the plain law: two checks led alike, up to an ordered renaming of entries -/
abbrev PL : Type := List (Int × Tr)
def prj (q : Int × Addr × Tr) : Int × Tr := (q.1, q.2.2)
def BeginP (K : PL) (ss : List Int) (e : Int) : Prop := ∃ (m c : Int) (t : Tr), m ∈ ss ∧ (∀ y ∈ ss, m ≤ y) ∧ (e, t) ∈ K ∧ t.count = some c ∧ m < c
inductive ReachP (K : PL) (B : Int → Prop) : Int → Prop
  | base {e : Int} : B e → ReachP K B e
  | step {e e' : Int} {t t' : Tr} : ReachP K B e → (e, t) ∈ K → (e', t') ∈ K → tied t t' = true → ReachP K B e'
theorem mem_prj {kn : KnL} {e : Int} {t : Tr} : (e, t) ∈ kn.map prj ↔ ∃ a, (e, a, t) ∈ kn := by
  constructor
  · intro h
    obtain ⟨⟨e', a, t'⟩, hp, eq⟩ := List.mem_map.mp h
    have e1 : e' = e := congrArg Prod.fst eq
    have e2 : t' = t := congrArg Prod.snd eq
    subst e1 e2
    exact ⟨a, hp⟩
  · rintro ⟨a, h⟩
    exact List.mem_map.mpr ⟨_, h, rfl⟩
theorem begin_prj {kn : KnL} {ss : List Int} {e : Int} : Begin kn ss e ↔ BeginP (kn.map prj) ss e := by
  constructor
  · rintro ⟨m, c, a, t, h1, h2, h3, h4⟩
    exact ⟨m, c, t, h1, h2, mem_prj.mpr ⟨a, h3⟩, h4⟩
  · rintro ⟨m, c, t, h1, h2, h3, h4⟩
    obtain ⟨a, h3⟩ := mem_prj.mp h3
    exact ⟨m, c, a, t, h1, h2, h3, h4⟩
theorem reach_prj {kn : KnL} {B B' : Int → Prop} (hB : ∀ e, B e ↔ B' e) {e : Int} : Reach kn B e ↔ ReachP (kn.map prj) B' e := by
  constructor
  · intro h
    induction h with
    | base hb => exact .base ((hB _).mp hb)
    | step _ h1 h2 h3 ih => exact .step ih (mem_prj.mpr ⟨_, h1⟩) (mem_prj.mpr ⟨_, h2⟩) h3
  · intro h
    induction h with
    | base hb => exact .base ((hB _).mpr hb)
    | step _ h1 h2 h3 ih =>
      obtain ⟨a, h1⟩ := mem_prj.mp h1
      obtain ⟨a', h2⟩ := mem_prj.mp h2
      exact .step ih h1 h2 h3
/-- what is kept -/
def KeptP (K : PL) (ss : List Int) (K' : PL) : Prop := (K'.map (·.1)).Pairwise (· < ·) ∧ ∀ q, q ∈ K' ↔ q ∈ K ∧ ReachP K (BeginP K ss) q.1
theorem keys_prj (kn : KnL) : (kn.map prj).map (·.1) = kn.map (·.1) := by rw [List.map_map]; rfl
theorem kept_prj {kn kn' : KnL} {ss : List Int} (h : KeptOf kn ss kn') : KeptP (kn.map prj) ss (kn'.map prj) := by
  refine ⟨by rw [keys_prj]; exact h.1, fun q => ?_⟩
  obtain ⟨e, t⟩ := q
  rw [mem_prj]
  constructor
  · rintro ⟨a, ha⟩
    obtain ⟨h1, h2⟩ := (h.2 _).mp ha
    exact ⟨mem_prj.mpr ⟨a, h1⟩, (reach_prj fun _ => begin_prj).mp h2⟩
  · rintro ⟨h1, h2⟩
    obtain ⟨a, h1⟩ := mem_prj.mp h1
    exact ⟨a, (h.2 _).mpr ⟨h1, (reach_prj fun _ => begin_prj).mpr h2⟩⟩
/-- lists ordered by keys with the same members are one -/
theorem same_sorted {α : Type} : ∀ {A B : List (Int × α)}, (A.map (·.1)).Pairwise (· < ·) → (B.map (·.1)).Pairwise (· < ·) → (∀ q, q ∈ A ↔ q ∈ B) → A = B
  | [], [], _, _, _ => rfl
  | [], b :: B, _, _, h => by
    have := (h b).mpr List.mem_cons_self
    cases this
  | a :: A, [], _, _, h => by
    have := (h a).mp List.mem_cons_self
    cases this
  | a :: A, b :: B, h1, h2, h => by
    rw [List.map_cons, List.pairwise_cons] at h1 h2
    have ha : ∀ q ∈ A, a.1 < q.1 := fun q hq => h1.1 q.1 (List.mem_map.mpr ⟨q, hq, rfl⟩)
    have hb : ∀ q ∈ B, b.1 < q.1 := fun q hq => h2.1 q.1 (List.mem_map.mpr ⟨q, hq, rfl⟩)
    have e : a = b := by
      rcases List.mem_cons.mp ((h a).mp List.mem_cons_self) with z | z
      · exact z
      · rcases List.mem_cons.mp ((h b).mpr List.mem_cons_self) with z2 | z2
        · exact z2.symm
        · have := ha b z2
          have := hb a z
          omega
    subst e
    rw [same_sorted h1.2 h2.2 fun q => ?_]
    constructor
    · intro hq
      rcases List.mem_cons.mp ((h q).mp (List.mem_cons_of_mem _ hq)) with z | z
      · have := ha q hq
        rw [z] at this
        omega
      · exact z
    · intro hq
      rcases List.mem_cons.mp ((h q).mpr (List.mem_cons_of_mem _ hq)) with z | z
      · have := hb q hq
        rw [z] at this
        omega
      · exact z
theorem KeptP.uniq {K A B : PL} {ss : List Int} (h1 : KeptP K ss A) (h2 : KeptP K ss B) : A = B := same_sorted h1.1 h2.1 fun q => (h1.2 q).trans (h2.2 q).symm
/-- what is kept stays kept -/
theorem KeptP.again {K A : PL} {ss : List Int} (h : KeptP K ss A) (nd : (K.map (·.1)).Nodup) : ∀ q ∈ A, ReachP A (BeginP A ss) q.1 := by
  have key : ∀ e, ReachP K (BeginP K ss) e → ReachP A (BeginP A ss) e := by
    intro e he
    induction he with
    | base hb =>
      obtain ⟨m, c, t, h1, h2, h3, h4⟩ := hb
      exact .base ⟨m, c, t, h1, h2, (h.2 _).mpr ⟨h3, .base ⟨m, c, t, h1, h2, h3, h4⟩⟩, h4⟩
    | step hr h1 h2 h3 ih =>
      exact .step ih ((h.2 _).mpr ⟨h1, hr⟩) ((h.2 _).mpr ⟨h2, .step hr h1 h2 h3⟩) h3
  intro q hq
  exact key _ ((h.2 q).mp hq).2
/-- closed lists are kept whole -/
theorem KeptP.whole {K : PL} {ss : List Int} (s : (K.map (·.1)).Pairwise (· < ·)) (c : ∀ q ∈ K, ReachP K (BeginP K ss) q.1) : KeptP K ss K := ⟨s, fun q => ⟨fun h => ⟨h, c q h⟩, fun h => h.1⟩⟩
/-! renaming -/
def ren (f : Int → Int) (K : PL) : PL := K.map fun q => (f q.1, q.2)
theorem mem_ren {f : Int → Int} {K : PL} {q : Int × Tr} : q ∈ ren f K ↔ ∃ e, (e, q.2) ∈ K ∧ f e = q.1 := by
  constructor
  · intro h
    obtain ⟨⟨e, t⟩, hp, rfl⟩ := List.mem_map.mp h
    exact ⟨e, hp, rfl⟩
  · rintro ⟨e, h, e2⟩
    refine List.mem_map.mpr ⟨_, h, ?_⟩
    rw [e2]
def InjOn (f : Int → Int) (ks : List Int) : Prop := ∀ a ∈ ks, ∀ b ∈ ks, f a = f b → a = b
def UpOn (f : Int → Int) (ks : List Int) : Prop := ∀ a ∈ ks, ∀ b ∈ ks, a < b → f a < f b
theorem UpOn.inj {f : Int → Int} {ks : List Int} (h : UpOn f ks) : InjOn f ks := fun a ha b hb e => by
  rcases Int.lt_trichotomy a b with z | z | z
  · have := h a ha b hb z; omega
  · exact z
  · have := h b hb a ha z; omega
theorem key_mem {K : PL} {e : Int} {t : Tr} (h : (e, t) ∈ K) : e ∈ K.map (·.1) := List.mem_map.mpr ⟨_, h, rfl⟩
theorem reach_ren {f : Int → Int} {K : PL} {ss : List Int} (inj : InjOn f (K.map (·.1))) {e : Int} (he : e ∈ K.map (·.1)) : ReachP (ren f K) (BeginP (ren f K) ss) (f e) ↔ ReachP K (BeginP K ss) e := by
  constructor
  · have key : ∀ x, ReachP (ren f K) (BeginP (ren f K) ss) x → ∀ e ∈ K.map (·.1), f e = x → ReachP K (BeginP K ss) e := by
      intro x hx
      induction hx with
      | base hb =>
        rintro e he rfl
        obtain ⟨m, c, t, h1, h2, h3, h4⟩ := hb
        obtain ⟨e', h5, h6⟩ := mem_ren.mp h3
        have := inj _ (key_mem h5) _ he h6
        subst this
        exact .base ⟨m, c, t, h1, h2, h5, h4⟩
      | step _ h1 h2 h3 ih =>
        rintro e he rfl
        obtain ⟨e1, h5, h6⟩ := mem_ren.mp h1
        obtain ⟨e2, h7, h8⟩ := mem_ren.mp h2
        have := inj _ (key_mem h7) _ he h8
        subst this
        exact .step (ih e1 (key_mem h5) h6) h5 h7 h3
    exact fun h => key _ h e he rfl
  · intro h
    induction h with
    | base hb =>
      obtain ⟨m, c, t, h1, h2, h3, h4⟩ := hb
      exact .base ⟨m, c, t, h1, h2, mem_ren.mpr ⟨_, h3, rfl⟩, h4⟩
    | step _ h1 h2 h3 ih => exact .step (ih (key_mem h1)) (mem_ren.mpr ⟨_, h1, rfl⟩) (mem_ren.mpr ⟨_, h2, rfl⟩) h3
theorem kept_ren {f : Int → Int} {K A : PL} {ss : List Int} (up : UpOn f (K.map (·.1))) (h : KeptP K ss A) : KeptP (ren f K) ss (ren f A) := by
  have sub : ∀ q ∈ A, q.1 ∈ K.map (·.1) := fun q hq => List.mem_map.mpr ⟨q, ((h.2 q).mp hq).1, rfl⟩
  refine ⟨?_, fun q => ?_⟩
  · have e : (ren f A).map (·.1) = A.map fun q => f q.1 := by unfold ren; rw [List.map_map]; rfl
    rw [e, List.pairwise_map]
    refine List.Pairwise.imp_of_mem (fun {a b} ha hb hab => ?_) (List.pairwise_map.mp h.1)
    exact up _ (sub a ha) _ (sub b hb) hab
  · rw [mem_ren, mem_ren]
    constructor
    · rintro ⟨e, h1, h2⟩
      obtain ⟨h3, h4⟩ := (h.2 _).mp h1
      refine ⟨⟨e, h3, h2⟩, ?_⟩
      rw [← h2]
      exact (reach_ren up.inj (key_mem h3)).mpr h4
    · rintro ⟨⟨e, h3, h2⟩, h4⟩
      rw [← h2] at h4
      exact ⟨e, (h.2 _).mpr ⟨h3, (reach_ren up.inj (key_mem h3)).mp h4⟩, h2⟩
/-! the ring, renamed -/
def mapS (f : Int → Int) : Sum (List Int) (List Int × List (List Int)) → Sum (List Int) (List Int × List (List Int))
  | .inl row => .inl (row.map f)
  | .inr p => .inr (p.1.map f, p.2.map (List.map f))
section
variable {f : Int → Int} {ys : List Int} {g1 g2 : Int → Tr} {t : Tr}
theorem news_ren (inj : InjOn f ys) (hg : ∀ o ∈ ys, g1 (f o) = g2 o) (here : Tr) {seen : List Int} (hs : ∀ o ∈ seen, o ∈ ys) : newsR (ys.map f) g1 here (seen.map f) = (newsR ys g2 here seen).map f := by
  unfold newsR
  rw [List.filter_map]
  congr 1
  refine List.filter_congr fun o ho => ?_
  show (!(seen.map f).contains (f o) && tied here (g1 (f o))) = (!seen.contains o && tied here (g2 o))
  rw [hg o ho]
  congr 2
  rw [Bool.eq_iff_iff, List.contains_iff_mem, List.contains_iff_mem, List.mem_map]
  constructor
  · rintro ⟨x, hx, e⟩
    rw [← inj x (hs x hx) o ho e]
    exact hx
  · exact fun h => ⟨o, h, rfl⟩
/-- a row as it may stand -/
def RowOk (ys : List Int) (row : List Int) : Prop := row.length = 1 ∨ ∃ r o, row = r ++ [o] ∧ o ∈ ys
theorem here_ren (hg : ∀ o ∈ ys, g1 (f o) = g2 o) {row : List Int} (h : RowOk ys row) : hereR g1 t (row.map f) = hereR g2 t row := by
  unfold hereR
  rw [List.length_map]
  by_cases h1 : row.length = 1
  · rw [if_pos h1, if_pos h1]
  · rw [if_neg h1, if_neg h1]
    rcases h with h | ⟨r, o, rfl, ho⟩
    · exact absurd h h1
    · rw [List.map_append, List.map_singleton, List.getLast?_concat, List.getLast?_concat]
      exact hg o ho
theorem layer_ren (inj : InjOn f ys) (hg : ∀ o ∈ ys, g1 (f o) = g2 o) : ∀ (rows : List (List Int)) (seen : List Int) (later : List (List Int)), (∀ r ∈ rows, RowOk ys r) → (∀ o ∈ seen, o ∈ ys) →
    layerR (ys.map f) g1 t (rows.map (List.map f)) (seen.map f) (later.map (List.map f)) = mapS f (layerR ys g2 t rows seen later)
  | [], seen, later, _, _ => rfl
  | row :: rows, seen, later, hr, hs => by
    have hrow := hr row List.mem_cons_self
    have eh := here_ren (t := t) hg hrow
    have en := news_ren inj hg (hereR g2 t row) hs
    rw [List.map_cons]
    unfold layerR
    rw [eh, List.length_map]
    by_cases c : (decide (1 < row.length) && tied (hereR g2 t row) t) = true
    · rw [if_pos c, if_pos c]; rfl
    · rw [if_neg c, if_neg c, en]
      have e1 : seen.map f ++ (newsR ys g2 (hereR g2 t row) seen).map f = (seen ++ newsR ys g2 (hereR g2 t row) seen).map f := by rw [List.map_append]
      have e2 : later.map (List.map f) ++ ((newsR ys g2 (hereR g2 t row) seen).map f).map (fun o => row.map f ++ [o]) = (later ++ (newsR ys g2 (hereR g2 t row) seen).map fun o => row ++ [o]).map (List.map f) := by
        rw [List.map_append, List.map_map, List.map_map]
        congr 1
        refine List.map_congr_left fun o _ => ?_
        show row.map f ++ [f o] = (row ++ [o]).map f
        rw [List.map_append]; rfl
      rw [e1, e2]
      refine layer_ren inj hg rows _ _ (fun r h => hr r (List.mem_cons_of_mem _ h)) fun o ho => ?_
      rcases List.mem_append.mp ho with z | z
      · exact hs o z
      · exact (List.mem_filter.mp z).1
/-- what a layer leaves is as it may be -/
theorem layer_ok : ∀ (rows : List (List Int)) (seen : List Int) (later : List (List Int)) {s2 : List Int} {l2 : List (List Int)}, (∀ o ∈ seen, o ∈ ys) → (∀ r ∈ later, RowOk ys r) → layerR ys g2 t rows seen later = .inr (s2, l2) → (∀ o ∈ s2, o ∈ ys) ∧ ∀ r ∈ l2, RowOk ys r
  | [], seen, later, s2, l2, hs, hl, e => by
    injection e with e
    injection e with e1 e2
    subst e1 e2
    exact ⟨hs, hl⟩
  | row :: rows, seen, later, s2, l2, hs, hl, e => by
    unfold layerR at e
    by_cases c : (decide (1 < row.length) && tied (hereR g2 t row) t) = true
    · rw [if_pos c] at e; cases e
    · rw [if_neg c] at e
      refine layer_ok rows _ _ (fun o ho => ?_) (fun r hr => ?_) e
      · rcases List.mem_append.mp ho with z | z
        · exact hs o z
        · exact (List.mem_filter.mp z).1
      · rcases List.mem_append.mp hr with z | z
        · exact hl r z
        · obtain ⟨o, ho, rfl⟩ := List.mem_map.mp z
          exact .inr ⟨row, o, rfl, (List.mem_filter.mp ho).1⟩
theorem ring_ren (inj : InjOn f ys) (hg : ∀ o ∈ ys, g1 (f o) = g2 o) : ∀ (n : Nat) (rows : List (List Int)) (seen : List Int), (∀ r ∈ rows, RowOk ys r) → (∀ o ∈ seen, o ∈ ys) →
    ringR (ys.map f) g1 t n (rows.map (List.map f)) (seen.map f) = (ringR ys g2 t n rows seen).map (List.map f)
  | 0, _, _, _, _ => rfl
  | n + 1, rows, seen, hr, hs => by
    unfold ringR
    by_cases c : rows = []
    · rw [if_pos c, if_pos (by rw [c]; rfl)]; rfl
    · rw [if_neg c, if_neg (fun z => c (List.map_eq_nil_iff.mp z))]
      have e := layer_ren (t := t) (g1 := g1) (g2 := g2) inj hg rows seen [] hr hs
      rw [show (([] : List (List Int)).map (List.map f)) = [] from rfl] at e
      rw [e]
      cases hL : layerR ys g2 t rows seen [] with
      | inl row => rfl
      | inr p =>
        obtain ⟨s2, l2⟩ := p
        obtain ⟨h1, h2⟩ := layer_ok rows seen [] hs (fun r h => by cases h) hL
        exact ring_ren inj hg n l2 s2 h2 h1
/-- what a ring is made of -/
theorem layer_sub {S : List Int} (hS : ∀ o ∈ ys, o ∈ S) : ∀ (rows : List (List Int)) (seen : List Int) (later : List (List Int)), (∀ r ∈ rows, ∀ x ∈ r, x ∈ S) → (∀ r ∈ later, ∀ x ∈ r, x ∈ S) →
    (∀ row, layerR ys g2 t rows seen later = .inl row → ∀ x ∈ row, x ∈ S) ∧ ∀ s2 l2, layerR ys g2 t rows seen later = .inr (s2, l2) → ∀ r ∈ l2, ∀ x ∈ r, x ∈ S
  | [], seen, later, _, hl => ⟨fun row e => (by cases e), fun s2 l2 e => by
    injection e with e
    injection e with e1 e2
    subst e2
    exact hl⟩
  | row :: rows, seen, later, hr, hl => by
    unfold layerR
    by_cases c : (decide (1 < row.length) && tied (hereR g2 t row) t) = true
    · rw [if_pos c]
      refine ⟨fun r e => ?_, fun s2 l2 e => by cases e⟩
      injection e with e
      subst e
      exact hr row List.mem_cons_self
    · rw [if_neg c]
      refine layer_sub hS rows _ _ (fun r h => hr r (List.mem_cons_of_mem _ h)) fun r h => ?_
      rcases List.mem_append.mp h with z | z
      · exact hl r z
      · obtain ⟨o, ho, rfl⟩ := List.mem_map.mp z
        intro x hx
        rcases List.mem_append.mp hx with y | y
        · exact hr row List.mem_cons_self x y
        · rw [List.mem_singleton.mp y]
          exact hS o (List.mem_filter.mp ho).1
theorem layer_len {m : Nat} : ∀ (rows : List (List Int)) (seen : List Int) (later : List (List Int)), (∀ r ∈ rows, r.length ≤ m) → (∀ r ∈ later, r.length ≤ m + 1) →
    (∀ row, layerR ys g2 t rows seen later = .inl row → row.length ≤ m) ∧ ∀ s2 l2, layerR ys g2 t rows seen later = .inr (s2, l2) → ∀ r ∈ l2, r.length ≤ m + 1
  | [], seen, later, _, hl => ⟨fun row e => (by cases e), fun s2 l2 e => by
    injection e with e
    injection e with e1 e2
    subst e2
    exact hl⟩
  | row :: rows, seen, later, hr, hl => by
    unfold layerR
    by_cases c : (decide (1 < row.length) && tied (hereR g2 t row) t) = true
    · rw [if_pos c]
      refine ⟨fun r e => ?_, fun s2 l2 e => by cases e⟩
      injection e with e
      subst e
      exact hr row List.mem_cons_self
    · rw [if_neg c]
      refine layer_len rows _ _ (fun r h => hr r (List.mem_cons_of_mem _ h)) fun r h => ?_
      rcases List.mem_append.mp h with z | z
      · exact hl r z
      · obtain ⟨o, ho, rfl⟩ := List.mem_map.mp z
        rw [List.length_append, List.length_singleton]
        have := hr row List.mem_cons_self
        omega
theorem ring_sub {S : List Int} (hS : ∀ o ∈ ys, o ∈ S) : ∀ (n m : Nat) (rows : List (List Int)) (seen : List Int), (∀ r ∈ rows, ∀ x ∈ r, x ∈ S) → (∀ r ∈ rows, r.length ≤ m) → ∀ row, ringR ys g2 t n rows seen = some row → (∀ x ∈ row, x ∈ S) ∧ row.length ≤ m + n
  | 0, _, _, _, _, _, row, e => by cases e
  | n + 1, m, rows, seen, hr, hm, row, e => by
    unfold ringR at e
    by_cases c : rows = []
    · rw [if_pos c] at e; cases e
    · rw [if_neg c] at e
      have h1 := layer_sub (g2 := g2) (t := t) hS rows seen [] hr (fun r h => by cases h)
      have h2 := layer_len (ys := ys) (g2 := g2) (t := t) rows seen [] hm (fun r h => by cases h)
      cases hL : layerR ys g2 t rows seen [] with
      | inl r =>
        rw [hL] at e
        have e2 : r = row := Option.some.inj e
        subst e2
        exact ⟨h1.1 _ hL, Nat.le_trans (h2.1 _ hL) (by omega)⟩
      | inr p =>
        obtain ⟨s2, l2⟩ := p
        rw [hL] at e
        obtain ⟨h3, h4⟩ := ring_sub hS n (m + 1) l2 s2 (h1.2 _ _ hL) (h2.2 _ _ hL) row e
        exact ⟨h3, by omega⟩
end
end K58

namespace K58
open PySem L2
def keysN (nm : NmL) : List Int := nm.map (·.1)
/-- the two checks, led alike but for entries opened and given up in the second -/
structure Rel (c1 c2 : Ck) (nm : NmL) (n1 n2 : Int) : Prop where
  last : c1.last = c2.last
  nx1 : 0 ≤ c1.next ∧ c1.next ≤ n1
  nx2 : 0 ≤ c2.next ∧ c2.next ≤ n2
  nmUp : nm.Pairwise fun p q => p.1 < q.1 ∧ p.2 < q.2
  nmB : ∀ p ∈ nm, (0 ≤ p.1 ∧ p.1 < c2.next) ∧ (0 ≤ p.2 ∧ p.2 < c1.next)
  opn : c1.opn = c2.opn.map fun p => (nmGet nm p.1, p.2)
  opnK : ∀ p ∈ c2.opn, p.1 ∈ keysN nm
  opnUp : (c2.opn.map (·.1)).Pairwise (· < ·)
  ss : ∀ p ∈ c2.opn, p.2 ≤ c2.last
  kn : c1.kn.map prj = ren (nmGet nm) (c2.kn.map prj)
  knK : ∀ q ∈ c2.kn, q.1 ∈ keysN nm
  knUp : (c2.kn.map (·.1)).Pairwise (· < ·)
  dis : ∀ k ∈ c2.opn.map (·.1), k ∉ c2.kn.map (·.1)
  clo : ∀ q ∈ c2.kn.map prj, ReachP (c2.kn.map prj) (BeginP (c2.kn.map prj) (c2.opn.map (·.2))) q.1
theorem nd_of_up {l : List Int} (h : l.Pairwise (· < ·)) : l.Nodup := h.imp fun h => by omega
section
variable {c1 c2 : Ck} {nm : NmL} {n1 n2 : Int}
theorem nm_nd {nm : NmL} (h : nm.Pairwise fun p q => p.1 < q.1 ∧ p.2 < q.2) : (keysN nm).Nodup := nd_of_up (List.pairwise_map.mpr (h.imp fun h => h.1))
theorem nm_up {nm : NmL} (h : nm.Pairwise fun p q => p.1 < q.1 ∧ p.2 < q.2) : UpOn (nmGet nm) (keysN nm) := by
  intro a ha b hb hab
  obtain ⟨p, hp, rfl⟩ := List.mem_map.mp ha
  obtain ⟨q, hq, rfl⟩ := List.mem_map.mp hb
  rw [nmGet_in (nm_nd h) (e := p.1) (v := p.2) hp, nmGet_in (nm_nd h) (e := q.1) (v := q.2) hq]
  obtain ⟨i, hi⟩ := List.mem_iff_getElem?.mp hp
  obtain ⟨j, hj⟩ := List.mem_iff_getElem?.mp hq
  obtain ⟨hi1, hi2⟩ := List.getElem?_eq_some_iff.mp hi
  obtain ⟨hj1, hj2⟩ := List.getElem?_eq_some_iff.mp hj
  have pw := List.pairwise_iff_getElem.mp h
  rcases Nat.lt_trichotomy i j with z | z | z
  · have := pw i j hi1 hj1 z
    rw [hi2, hj2] at this
    exact this.2
  · subst z
    rw [hi2] at hj2
    rw [hj2] at hab
    omega
  · have := pw j i hj1 hi1 z
    rw [hi2, hj2] at this
    omega
theorem UpOn.sub {f : Int → Int} {ks ks' : List Int} (h : UpOn f ks) (s : ∀ k ∈ ks', k ∈ ks) : UpOn f ks' := fun a ha b hb => h a (s a ha) b (s b hb)
/-- ascending numbers below a bound are few -/
theorem up_len : ∀ (l : List Int) (lo hi : Int), l.Pairwise (· < ·) → (∀ x ∈ l, lo ≤ x ∧ x < hi) → (l.length : Int) ≤ max 0 (hi - lo)
  | [], lo, hi, _, _ => by simp; omega
  | x :: l, lo, hi, h, b => by
    obtain ⟨h1, h2⟩ := List.pairwise_cons.mp h
    have bx := b x List.mem_cons_self
    have ih := up_len l (x + 1) hi h2 fun y hy => ⟨by have := h1 y hy; omega, (b y (List.mem_cons_of_mem _ hy)).2⟩
    rw [List.length_cons]
    omega
theorem Rel.nmLen (R : Rel c1 c2 nm n1 n2) : (nm.length : Int) ≤ n1 := by
  have h := up_len (nm.map (·.2)) 0 c1.next (List.pairwise_map.mpr (R.nmUp.imp fun h => h.2)) fun x hx => by
    obtain ⟨p, hp, rfl⟩ := List.mem_map.mp hx
    exact (R.nmB p hp).2
  rw [List.length_map] at h
  have := R.nx1
  omega
theorem Rel.opnLen (R : Rel c1 c2 nm n1 n2) : (c2.opn.length : Int) ≤ n1 ∧ (c1.opn.length : Int) ≤ n1 := by
  have h := nd_len (c2.opn.map (·.1)) (keysN nm) (nd_of_up R.opnUp) fun k hk => by
    obtain ⟨p, hp, rfl⟩ := List.mem_map.mp hk
    exact R.opnK p hp
  unfold keysN at h
  rw [List.length_map, List.length_map] at h
  have := R.nmLen
  rw [R.opn, List.length_map]
  omega
theorem Rel.knLen (R : Rel c1 c2 nm n1 n2) : (c2.kn.length : Int) ≤ n1 ∧ (c1.kn.length : Int) ≤ n1 := by
  have h := nd_len (c2.kn.map (·.1)) (keysN nm) (nd_of_up R.knUp) fun k hk => by
    obtain ⟨p, hp, rfl⟩ := List.mem_map.mp hk
    exact R.knK p hp
  unfold keysN at h
  rw [List.length_map, List.length_map] at h
  have e := congrArg List.length R.kn
  unfold ren at e
  rw [List.length_map, List.length_map, List.length_map] at e
  have := R.nmLen
  omega
theorem Rel.val (R : Rel c1 c2 nm n1 n2) {k : Int} (h : k ∈ keysN nm) : 0 ≤ nmGet nm k ∧ nmGet nm k < c1.next := by
  obtain ⟨p, hp, rfl⟩ := List.mem_map.mp h
  rw [nmGet_in (nm_nd R.nmUp) (e := p.1) (v := p.2) hp]
  exact (R.nmB p hp).2
theorem Rel.keyB (R : Rel c1 c2 nm n1 n2) {k : Int} (h : k ∈ keysN nm) : 0 ≤ k ∧ k < c2.next := by
  obtain ⟨p, hp, rfl⟩ := List.mem_map.mp h
  exact (R.nmB p hp).1
theorem Rel.kn1 (R : Rel c1 c2 nm n1 n2) : c1.kn.map (·.1) = (c2.kn.map (·.1)).map (nmGet nm) := by
  have e := congrArg (List.map (·.1)) R.kn
  rw [keys_prj] at e
  unfold ren at e
  rw [e, List.map_map, List.map_map, List.map_map]; rfl
theorem Rel.opn1 (R : Rel c1 c2 nm n1 n2) : c1.opn.map (·.1) = (c2.opn.map (·.1)).map (nmGet nm) := by
  rw [R.opn, List.map_map, List.map_map]; rfl
theorem Rel.opn2 (R : Rel c1 c2 nm n1 n2) : c1.opn.map (·.2) = c2.opn.map (·.2) := by
  rw [R.opn, List.map_map]; rfl
theorem up_map {f : Int → Int} {l : List Int} (u : UpOn f l) (h : l.Pairwise (· < ·)) : (l.map f).Pairwise (· < ·) := by
  rw [List.pairwise_map]
  exact List.Pairwise.imp_of_mem (fun {a b} ha hb h => u a ha b hb h) h
theorem Rel.knUp1 (R : Rel c1 c2 nm n1 n2) : (c1.kn.map (·.1)).Pairwise (· < ·) := by
  rw [R.kn1]
  exact up_map ((nm_up R.nmUp).sub fun k hk => by
    obtain ⟨p, hp, rfl⟩ := List.mem_map.mp hk
    exact R.knK p hp) R.knUp
theorem Rel.opnUp1 (R : Rel c1 c2 nm n1 n2) : (c1.opn.map (·.1)).Pairwise (· < ·) := by
  rw [R.opn1]
  exact up_map ((nm_up R.nmUp).sub fun k hk => by
    obtain ⟨p, hp, rfl⟩ := List.mem_map.mp hk
    exact R.opnK p hp) R.opnUp
theorem Rel.b2 (R : Rel c1 c2 nm n1 n2) (h : n2 ≤ 900) : CkB c2 := by
  have := R.nx2
  refine ⟨R.knUp, fun k hk => ?_, fun k hk => ?_, R.dis⟩
  · obtain ⟨p, hp, rfl⟩ := List.mem_map.mp hk
    have := R.keyB (R.knK p hp)
    have e : BB = 1000 := rfl
    omega
  · obtain ⟨p, hp, rfl⟩ := List.mem_map.mp hk
    have := R.keyB (R.opnK p hp)
    have e : BB = 1000 := rfl
    omega
theorem Rel.b1 (R : Rel c1 c2 nm n1 n2) (h : n1 ≤ 900) : CkB c1 := by
  have := R.nx1
  have inj := (nm_up R.nmUp).inj
  refine ⟨R.knUp1, fun k hk => ?_, fun k hk => ?_, fun k hk hk2 => ?_⟩
  · rw [R.kn1] at hk
    obtain ⟨k2, hk2, rfl⟩ := List.mem_map.mp hk
    obtain ⟨p, hp, rfl⟩ := List.mem_map.mp hk2
    have := R.val (R.knK p hp)
    have e : BB = 1000 := rfl
    omega
  · rw [R.opn1] at hk
    obtain ⟨k2, hk2, rfl⟩ := List.mem_map.mp hk
    obtain ⟨p, hp, rfl⟩ := List.mem_map.mp hk2
    have := R.val (R.opnK p hp)
    have e : BB = 1000 := rfl
    omega
  · rw [R.opn1] at hk
    rw [R.kn1] at hk2
    obtain ⟨a, ha, rfl⟩ := List.mem_map.mp hk
    obtain ⟨b, hb, e⟩ := List.mem_map.mp hk2
    obtain ⟨p, hp, rfl⟩ := List.mem_map.mp ha
    obtain ⟨q, hq, rfl⟩ := List.mem_map.mp hb
    have := inj _ (R.knK q hq) _ (R.opnK p hp) e
    rw [this] at hb
    exact R.dis _ ha hb
/-- a further entry opened and given up -/
theorem Rel.further (R : Rel c1 c2 nm n1 n2) {kn' : KnL} (h : KeptOf c2.kn (c2.opn.map (·.2)) kn') : Rel c1 ⟨c2.last, c2.next + 1, c2.opn, kn'⟩ nm n1 (n2 + 1) := by
  have e : kn' = c2.kn := by
    refine same_sorted h.1 R.knUp fun q => (h.2 q).trans ⟨fun h => h.1, fun hq => ⟨hq, ?_⟩⟩
    exact (reach_prj fun _ => begin_prj).mpr (R.clo (prj q) (List.mem_map.mpr ⟨q, hq, rfl⟩))
  subst e
  have := R.nx2
  exact ⟨R.last, R.nx1, ⟨by show 0 ≤ c2.next + 1; omega, by show c2.next + 1 ≤ n2 + 1; omega⟩, R.nmUp, fun p hp => ⟨⟨(R.nmB p hp).1.1, by have := (R.nmB p hp).1.2; show p.1 < c2.next + 1; omega⟩, (R.nmB p hp).2⟩, R.opn, R.opnK, R.opnUp, R.ss, R.kn, R.knK, R.knUp, R.dis, R.clo⟩
theorem nmGet_snoc {nm : NmL} {a b k : Int} (h : a ∉ keysN nm) : nmGet (nm ++ [(a, b)]) k = if k = a then b else nmGet nm k := by
  unfold nmGet
  rw [List.find?_append]
  cases hf : nm.find? (fun p => decide (p.1 = k)) with
  | some p =>
    have h1 := List.mem_of_find?_eq_some hf
    have h2 : p.1 = k := by simpa using List.find?_some hf
    have hk : ¬ k = a := fun z => h (by rw [← z, ← h2]; exact List.mem_map.mpr ⟨p, h1, rfl⟩)
    rw [if_neg hk]; rfl
  | none =>
    by_cases hk : k = a
    · rw [if_pos hk]
      have : ([(a, b)] : NmL).find? (fun p => decide (p.1 = k)) = some (a, b) := by simp [hk]
      rw [this]; rfl
    · rw [if_neg hk]
      have : ([(a, b)] : NmL).find? (fun p => decide (p.1 = k)) = none := by simp; exact fun z => hk z.symm
      rw [this]; rfl
theorem not_key {nm : NmL} {k : Int} (h : ∀ p ∈ nm, p.1 < k) : k ∉ keysN nm := fun z => by
  obtain ⟨p, hp, e⟩ := List.mem_map.mp z
  have := h p hp
  have e2 : p.1 = k := e
  omega
/-- an entry opened in both -/
theorem Rel.open_ (R : Rel c1 c2 nm n1 n2) :
    Rel ⟨c1.last, c1.next + 1, c1.opn ++ [(c1.next, c1.last)], c1.kn⟩ ⟨c2.last, c2.next + 1, c2.opn ++ [(c2.next, c2.last)], c2.kn⟩ (nm ++ [(c2.next, c1.next)]) (n1 + 1) (n2 + 1) := by
  have hnk : c2.next ∉ keysN nm := not_key fun p hp => (R.nmB p hp).1.2
  have n1' := R.nx1
  have n2' := R.nx2
  have same : ∀ {k}, k ∈ keysN nm → nmGet (nm ++ [(c2.next, c1.next)]) k = nmGet nm k := fun {k} hk => by
    rw [nmGet_snoc hnk, if_neg (fun z => hnk (by rw [← z]; exact hk))]
  have new : nmGet (nm ++ [(c2.next, c1.next)]) c2.next = c1.next := by rw [nmGet_snoc hnk, if_pos rfl]
  have sub : ∀ {k}, k ∈ keysN nm → k ∈ keysN (nm ++ [(c2.next, c1.next)]) := fun {k} hk => by
    unfold keysN
    rw [List.map_append]
    exact List.mem_append_left _ hk
  refine ⟨R.last, ⟨by show 0 ≤ c1.next + 1; omega, by show c1.next + 1 ≤ n1 + 1; omega⟩, ⟨by show 0 ≤ c2.next + 1; omega, by show c2.next + 1 ≤ n2 + 1; omega⟩, ?_, fun p hp => ?_, ?_, fun p hp => ?_, ?_, fun p hp => ?_, ?_, fun q hq => sub (R.knK q hq), R.knUp, fun k hk => ?_, fun q hq => ?_⟩
  · refine List.pairwise_append.mpr ⟨R.nmUp, List.pairwise_singleton _ _, fun p hp q hq => ?_⟩
    rw [List.mem_singleton.mp hq]
    exact ⟨(R.nmB p hp).1.2, (R.nmB p hp).2.2⟩
  · show (0 ≤ p.1 ∧ p.1 < c2.next + 1) ∧ (0 ≤ p.2 ∧ p.2 < c1.next + 1)
    rcases List.mem_append.mp hp with z | z
    · have := R.nmB p z
      omega
    · rw [List.mem_singleton.mp z]
      show (0 ≤ c2.next ∧ c2.next < c2.next + 1) ∧ (0 ≤ c1.next ∧ c1.next < c1.next + 1)
      omega
  · show c1.opn ++ [(c1.next, c1.last)] = (c2.opn ++ [(c2.next, c2.last)]).map _
    rw [List.map_append, List.map_singleton, new, R.opn, R.last]
    congr 1
    refine List.map_congr_left fun p hp => ?_
    rw [same (R.opnK p hp)]
  · rcases List.mem_append.mp hp with z | z
    · exact sub (R.opnK p z)
    · rw [List.mem_singleton.mp z]
      unfold keysN
      rw [List.map_append]
      exact List.mem_append_right _ (List.mem_singleton.mpr rfl)
  · show ((c2.opn ++ [(c2.next, c2.last)]).map (·.1)).Pairwise (· < ·)
    rw [List.map_append]
    refine List.pairwise_append.mpr ⟨R.opnUp, List.pairwise_singleton _ _, fun x hx y hy => ?_⟩
    rw [List.map_singleton, List.mem_singleton] at hy
    rw [hy]
    obtain ⟨p, hp, rfl⟩ := List.mem_map.mp hx
    exact (R.keyB (R.opnK p hp)).2
  · rcases List.mem_append.mp hp with z | z
    · exact R.ss p z
    · rw [List.mem_singleton.mp z]
      exact Int.le_refl _
  · show c1.kn.map prj = ren _ (c2.kn.map prj)
    rw [R.kn]
    unfold ren
    refine List.map_congr_left fun q hq => ?_
    obtain ⟨q0, hq0, rfl⟩ := List.mem_map.mp hq
    show (nmGet nm q0.1, q0.2.2) = (nmGet _ q0.1, q0.2.2)
    rw [same (R.knK q0 hq0)]
  · have hk' : k ∈ (c2.opn ++ [(c2.next, c2.last)]).map (·.1) := hk
    rw [List.map_append, List.mem_append] at hk'
    rcases hk' with z | z
    · exact R.dis k z
    · rw [List.map_singleton, List.mem_singleton] at z
      rw [z]
      intro h
      obtain ⟨q, hq, e⟩ := List.mem_map.mp h
      have := (R.keyB (R.knK q hq)).2
      have e2 : q.1 = c2.next := e
      omega
  · -- the least snapshot is the same
    have h := R.clo q hq
    have e : (c2.opn ++ [(c2.next, c2.last)]).map (·.2) = c2.opn.map (·.2) ++ [c2.last] := by rw [List.map_append]; rfl
    show ReachP (c2.kn.map prj) (BeginP (c2.kn.map prj) ((c2.opn ++ [(c2.next, c2.last)]).map (·.2))) q.1
    rw [e]
    have key : ∀ x, ReachP (c2.kn.map prj) (BeginP (c2.kn.map prj) (c2.opn.map (·.2))) x → ReachP (c2.kn.map prj) (BeginP (c2.kn.map prj) (c2.opn.map (·.2) ++ [c2.last])) x := by
      intro x hx
      induction hx with
      | base hb =>
        obtain ⟨m, c, t, h1, h2, h3, h4, h5⟩ := hb
        refine .base ⟨m, c, t, List.mem_append_left _ h1, fun y hy => ?_, h3, h4, h5⟩
        rcases List.mem_append.mp hy with z | z
        · exact h2 y z
        · rw [List.mem_singleton.mp z]
          obtain ⟨p, hp, rfl⟩ := List.mem_map.mp h1
          exact R.ss p hp
      | step _ h1 h2 h3 ih => exact .step ih h1 h2 h3
    exact key _ h
theorem drop_ren {opn : OpL} {f : Int → Int} {e : Int} (inj : ∀ p ∈ opn, f p.1 = f e → p.1 = e) : dropO (opn.map fun p => (f p.1, p.2)) (f e) = (dropO opn e).map fun p => (f p.1, p.2) := by
  unfold dropO
  rw [List.filter_map]
  congr 1
  refine List.filter_congr fun p hp => ?_
  show decide (f p.1 ≠ f e) = decide (p.1 ≠ e)
  exact decide_eq_decide.mpr ⟨fun h z => h (by rw [z]), fun h z => h (inj p hp z)⟩
/-- a commit in both -/
theorem Rel.commit (R : Rel c1 c2 nm n1 n2) {e2 a1 a2 : Int} {snap last' : Int} {ad1 ad2 : Addr} {t : Tr} {kn1' kn2' : KnL} (he : (e2, snap) ∈ c2.opn) (hl : c2.last ≤ last')
    (h1 : KeptOf (c1.kn ++ [(nmGet nm e2, ad1, t)]) ((dropO c1.opn (nmGet nm e2)).map (·.2)) kn1') (h2 : KeptOf (c2.kn ++ [(e2, ad2, t)]) ((dropO c2.opn e2).map (·.2)) kn2') :
    Rel ⟨last', c1.next, dropO c1.opn (nmGet nm e2), kn1'⟩ ⟨last', c2.next, dropO c2.opn e2, kn2'⟩ nm n1 n2 := by
  have hk2 : e2 ∈ keysN nm := R.opnK _ he
  have inj := (nm_up R.nmUp).inj
  have ed : dropO c1.opn (nmGet nm e2) = (dropO c2.opn e2).map fun p => (nmGet nm p.1, p.2) := by
    rw [R.opn]
    exact drop_ren fun p hp z => inj _ (R.opnK p hp) _ hk2 z
  have ess : (dropO c1.opn (nmGet nm e2)).map (·.2) = (dropO c2.opn e2).map (·.2) := by rw [ed, List.map_map]; rfl
  have esub : ∀ p ∈ dropO c2.opn e2, p ∈ c2.opn ∧ p.1 ≠ e2 := fun p hp => by
    unfold dropO at hp
    rw [List.mem_filter, decide_eq_true_eq] at hp
    exact hp
  have k1 := kept_prj h1
  have k2 := kept_prj h2
  have eK : (c1.kn ++ [(nmGet nm e2, ad1, t)]).map prj = ren (nmGet nm) ((c2.kn ++ [(e2, ad2, t)]).map prj) := by
    rw [List.map_append, List.map_append, R.kn]
    unfold ren
    rw [List.map_append]; rfl
  have kK : ∀ k ∈ ((c2.kn ++ [(e2, ad2, t)]).map prj).map (·.1), k ∈ keysN nm := fun k hk => by
    rw [keys_prj, List.map_append, List.mem_append] at hk
    rcases hk with z | z
    · obtain ⟨q, hq, rfl⟩ := List.mem_map.mp z
      exact R.knK q hq
    · rw [List.map_singleton, List.mem_singleton] at z
      rw [z]; exact hk2
  have up2 : UpOn (nmGet nm) (((c2.kn ++ [(e2, ad2, t)]).map prj).map (·.1)) := (nm_up R.nmUp).sub kK
  have nd2 : (((c2.kn ++ [(e2, ad2, t)]).map prj).map (·.1)).Nodup := by
    rw [keys_prj, List.map_append]
    refine List.nodup_append.mpr ⟨nd_of_up R.knUp, by simp, fun x hx y hy => ?_⟩
    rw [List.map_singleton, List.mem_singleton] at hy
    rw [hy]
    exact fun z => R.dis e2 (List.mem_map.mpr ⟨_, he, rfl⟩) (by have z2 : x = e2 := z; rw [← z2]; exact hx)
  have e3 : kn1'.map prj = ren (nmGet nm) (kn2'.map prj) := by
    rw [ess, eK] at k1
    exact k1.uniq (kept_ren up2 k2)
  have sub2 : ∀ q ∈ kn2', q.1 ∈ c2.kn.map (·.1) ∨ q.1 = e2 := fun q hq => by
    rcases List.mem_append.mp ((h2.2 q).mp hq).1 with z | z
    · exact .inl (List.mem_map.mpr ⟨q, z, rfl⟩)
    · rw [List.mem_singleton.mp z]; exact .inr rfl
  refine ⟨rfl, R.nx1, R.nx2, R.nmUp, R.nmB, ed, fun p hp => R.opnK p (esub p hp).1, ?_, fun p hp => Int.le_trans (R.ss p (esub p hp).1) hl, e3, fun q hq => ?_, h2.1, fun k hk hk3 => ?_, ?_⟩
  · exact R.opnUp.sublist (List.filter_sublist.map _)
  · rcases sub2 q hq with z | z
    · obtain ⟨q', hq', e'⟩ := List.mem_map.mp z
      rw [← e']; exact R.knK q' hq'
    · rw [z]; exact hk2
  · obtain ⟨p, hp, rfl⟩ := List.mem_map.mp hk
    obtain ⟨q, hq, e'⟩ := List.mem_map.mp hk3
    obtain ⟨g1, g2⟩ := esub p hp
    have e'' : q.1 = p.1 := e'
    rcases sub2 q hq with z | z
    · rw [e''] at z
      exact R.dis p.1 (List.mem_map.mpr ⟨p, g1, rfl⟩) z
    · exact g2 (e''.symm.trans z)
  · exact k2.again nd2
/-- the ring is the same -/
theorem Rel.ring (R : Rel c1 c2 nm n1 n2) {e2 snap : Int} (he : (e2, snap) ∈ c2.opn) (t : Tr) : ckRing c1 (nmGet nm e2) t = (ckRing c2 e2 t).map (List.map (nmGet nm)) := by
  have up : UpOn (nmGet nm) (c2.kn.map (·.1)) := (nm_up R.nmUp).sub fun k hk => by
    obtain ⟨p, hp, rfl⟩ := List.mem_map.mp hk
    exact R.knK p hp
  have nd1 := nd_of_up R.knUp1
  have nd2 := nd_of_up R.knUp
  have hg : ∀ o ∈ c2.kn.map (·.1), (adr c1.kn (nmGet nm o)).2 = (adr c2.kn o).2 := fun o ho => by
    obtain ⟨a, tt, hat⟩ := in_keys ho
    rw [adr_in nd2 hat]
    have hm : (nmGet nm o, tt) ∈ c1.kn.map prj := by
      rw [R.kn]
      exact mem_ren.mpr ⟨o, mem_prj.mpr ⟨a, hat⟩, rfl⟩
    obtain ⟨a', ha'⟩ := mem_prj.mp hm
    rw [adr_in nd1 ha']
  have hl : c1.kn.length = c2.kn.length := by
    have e := congrArg List.length R.kn
    unfold ren at e
    rw [List.length_map, List.length_map, List.length_map] at e
    exact e
  unfold ckRing
  rw [R.kn1, hl]
  have h := ring_ren (t := t) (g1 := fun k => (adr c1.kn k).2) (g2 := fun k => (adr c2.kn k).2) up.inj hg (c2.kn.length + 1) [[e2]] [] (fun r hr => by rw [List.mem_singleton] at hr; rw [hr]; exact .inl rfl) (fun o ho => by cases ho)
  exact h
theorem Rel.ringK (R : Rel c1 c2 nm n1 n2) {e2 snap : Int} (he : (e2, snap) ∈ c2.opn) {t : Tr} {row : List Int} (h : ckRing c2 e2 t = some row) (hn : n1 ≤ 900) : (∀ x ∈ row, x ∈ keysN nm) ∧ row.length ≤ 1000 := by
  have h1 := ring_sub (S := keysN nm) (fun o ho => by
    obtain ⟨p, hp, rfl⟩ := List.mem_map.mp ho
    exact R.knK p hp) (c2.kn.length + 1) 1 [[e2]] [] (fun r hr x hx => by
      rw [List.mem_singleton] at hr
      rw [hr, List.mem_singleton] at hx
      rw [hx]; exact R.opnK _ he) (fun r hr => by rw [List.mem_singleton] at hr; rw [hr]; exact Nat.le_refl _) row h
  have := R.knLen
  exact ⟨h1.1, by omega⟩
end
end K58

namespace K58
open PySem PySem.Spec PyProof.Rows L2
/-- max(d), d a dict with int keys -/
def rMaxK : List V → Hp → VK → Prop := fun vs H Q => ∃ (a : Addr) (kvs : List (Key × V)) (is : List Int), vs = [V.ref a] ∧ H a = some (.dK kvs) ∧ kvs.map (·.1) = is.map Sum.inl ∧ is ≠ [] ∧ ∀ m, m ∈ is → (∀ j ∈ is, j ≤ m) → Q (.int m) H
theorem cr_maxK {X : Cx} (hc : X.calm = true) : CallR X (.builtin "max") rMaxK := by
  intro pins s σ H vs us Q I r h
  obtain ⟨a, kvs, is, rfl, ha, hv, hne, q⟩ := h
  rw [Vals.ref1 r]
  obtain ⟨_, hsys, vs, rel, dof⟩ := dk_of I.hok ha
  obtain ⟨ep, dat⟩ := dof.dictAt
  obtain ⟨ob, es, ho, hex, hdat, hko, hpr, hnd⟩ := id dat
  have hlt : a < s.heap.objs.size := Heap.lt_size ho
  have hkeys : vs.map (·.1) = is.map Sum.inl := (KV.keys rel).symm.trans hv
  have hlv : vs.length = is.length := by
    have e1 := congrArg List.length hkeys
    rw [List.length_map, List.length_map] at e1
    exact e1
  have hlen : 0 < vs.length := by
    rw [hlv]
    exact List.length_pos_iff.mpr hne
  have hval : ∀ (i : Nat) (v : Value), (∃ k x, vs[i]? = some (k, x) ∧ (mixKind X.prog X.w).is k v = true) → ∃ t, v = Value.int (is.getD i 0) t := fun i v ⟨k, x, hk, hkey⟩ => by
    have e1 : (vs.map (·.1))[i]? = some k := by rw [List.getElem?_map, hk] <;> rfl
    rw [hkeys, List.getElem?_map] at e1
    obtain ⟨j, hj, e2⟩ := Option.map_eq_some_iff.mp e1
    subst e2
    have hi : Value.isInt j v = true := hkey
    obtain ⟨t, e3⟩ := Value.isInt_shape (k := j) (v := v) hi
    refine ⟨t, ?_⟩
    rw [e3, List.getD_eq_getElem?_getD, hj] <;> rfl
  refine call_max_walk (wpAny_pyIter_dict (knd := mixKind X.prog X.w) hsys dat ?_)
  refine ⟨_, _, _, _, _, _, _, rfl, Walks.dictKeys (knd := mixKind X.prog X.w) (A := X.A.in1) (I.ok.hd hc) s.heap.objs.size a (Nat.ne_of_lt hlt) vs ep,
    ⟨⟨_, Heap.get?_push_size _ rfl, rfl, rfl⟩, dat.keep fun b u e => Heap.get?_push_of_some _ e⟩, fun b hb => ?_, hlen, CmpOf.ints_gt (fun i => is.getD i 0) hval, fun v h' tk hP hk => ?_⟩
  · show b < (s.heap.push _).objs.size
    rw [Heap.size_push]
    rcases List.mem_cons.mp hb with e | hb
    · rw [e]
      exact Nat.lt_succ_self _
    · rw [List.mem_singleton.mp hb]
      exact Nat.lt_succ_of_lt hlt
  · obtain ⟨t, rfl⟩ := hval _ v hP
    obtain ⟨b1, b2⟩ := argBest_gt (fun i => is.getD i 0) (vs.length - 1)
    refine ⟨.int _, H, I.kept (t' := tk) fun b u e => hk b u (fun hmem => ?_) (Heap.get?_push_of_some _ e), ⟨t, rfl⟩, q _ ?_ fun j hj => ?_⟩
    · have e1 : b = s.heap.objs.size := List.mem_singleton.mp hmem
      have e2 := Heap.lt_size e
      rw [e1] at e2
      exact absurd e2 (Nat.lt_irrefl _)
    · have hb : argBest (fun i j => decide (is.getD i 0 > is.getD j 0)) (vs.length - 1) < is.length := by omega
      rw [List.getD_eq_getElem?_getD, List.getElem?_eq_getElem hb]
      exact List.getElem_mem hb
    · obtain ⟨i, hi, e⟩ := List.mem_iff_getElem.mp hj
      have e2 : is.getD i 0 = j := by rw [List.getD_eq_getElem?_getD, List.getElem?_eq_getElem hi, ← e] <;> rfl
      rw [← e2]
      exact b2 i (by omega)
/-! ### frames beside the tables of code objects -/
def Ex (L : List Addr) (H H' : Hp) : Prop := ∀ b o, b ∉ L → (∀ ps, o ≠ HO.tbl ps) → H b = some o → H' b = some o
theorem Sb.ex {L : List Addr} {H H' : Hp} (s : Sb L H H') : Ex L H H' := fun b o n _ e => s b o n e
theorem Ex.ofN {L : List Addr} {H H' : Hp} (s : LamX.ExtN H H') : Ex L H H' := fun b o _ n e => s b o e n
theorem Ex.trans {L : List Addr} {H H1 H2 : Hp} (s : Ex L H H1) (t : Ex L H1 H2) : Ex L H H2 := fun b o n m e => t b o n m (s b o n m e)
theorem Ex.mono {L L' : List Addr} {H H' : Hp} (s : Ex L H H') (h : ∀ b ∈ L, b ∈ L') : Ex L' H H' := fun b o n m e => s b o (fun z => n (h b z)) m e
theorem RgsAt.ex {H H' : Hp} {L : List Addr} {xs : List V} {rs : List KT.Rg} (h : RgsAt H xs rs) (s : Ex L H H') (m : ∀ b ∈ L, Mb H b) : RgsAt H' xs rs := ⟨h.1, fun i x r h1 h2 => by
  obtain ⟨b, o, e, hb, ho⟩ := h.2 i x r h1 h2
  exact ⟨b, o, e, s _ _ (fun z => (m _ z).noTup hb) (fun ps z => by cases z) hb, s _ _ (fun z => (m _ z).noTup ho) (fun ps z => by cases z) ho⟩⟩
theorem TrAt.ex {T : Addr} {H H' : Hp} {L : List Addr} {a : Addr} {t : Tr} (h : TrAt T H a t) (s : Ex L H H') (m : ∀ b ∈ L, Mb H b) : TrAt T H' a t := by
  obtain ⟨dx, ka, ra, wa, xs, h1, h2, h3, h4, h5, h6⟩ := h
  exact ⟨dx, ka, ra, wa, xs, s _ _ (fun z => (m _ z).noTr h1) (fun ps z => by cases z) h1, s _ _ (fun z => (m _ z).noTup h2) (fun ps z => by cases z) h2, s _ _ (fun z => (m _ z).noTup h3) (fun ps z => by cases z) h3, h4.ex s m, s _ _ (fun z => (m _ z).noTup h5) (fun ps z => by cases z) h5, h6⟩
theorem KnAt.ex {T : Addr} {H H' : Hp} {L : List Addr} {d : Addr} {kn : KnL} (h : KnAt T H d kn) (s : Ex L H H') (m : ∀ b ∈ L, Mb H b) (hd : d ∉ L) : KnAt T H' d kn :=
  ⟨s _ _ hd (fun ps z => by cases z) h.at_, fun p hp => (h.tr p hp).ex s m, h.nd, h.few⟩
theorem CkAt.ex {C T : Addr} {H H' : Hp} {L : List Addr} {a od kd : Addr} {c : Ck} (h : CkAt C T H a od kd c) (s : Ex L H H') (m : ∀ b ∈ L, Mb H b) (h1 : a ∉ L) (h2 : od ∉ L) (h3 : kd ∉ L) : CkAt C T H' a od kd c := by
  obtain ⟨⟨dx, g1⟩, g2, g3, g4, g5⟩ := h
  exact ⟨⟨dx, s _ _ h1 (fun ps z => by cases z) g1⟩, s _ _ h2 (fun ps z => by cases z) g2, g3.ex s m h3, g4, g5⟩
theorem HandAt.ex {H H' : Hp} {L : List Addr} {hd cl : Addr} (h : HandAt H hd cl) (s : Ex L H H') (h1 : hd ∉ L) (h2 : cl ∉ L) : HandAt H' hd cl := by
  obtain ⟨⟨i1, i2, i3, i4, h0, g1⟩, ⟨cs, g2, g3⟩, g4⟩ := h
  exact ⟨⟨i1, i2, i3, i4, h0, s _ _ h1 (fun ps z => by cases z) g1⟩, ⟨cs, s _ _ h2 (fun ps z => by cases z) g2, g3⟩, g4⟩
theorem KeysAt.ex {H H' : Hp} {L : List Addr} {l : Addr} {zs : List Str} (h : KeysAt H l zs) (s : Ex L H H') (hl : l ∉ L) : KeysAt H' l zs := ⟨s _ _ hl (fun ps z => by cases z) h.at_, h.ne, h.few, h.six⟩
theorem ArgsAt.ex {H H' : Hp} {L : List Addr} {ka ra wr : Addr} {asked : List Str} {spans : List KT.Rg} {wrote : List Str} (h : ArgsAt H ka ra wr asked spans wrote) (s : Ex L H H') (m : ∀ b ∈ L, Mb H b) : ArgsAt H' ka ra wr asked spans wrote := by
  obtain ⟨h1, h2, ⟨xs, h3, h4⟩, h5, ⟨ws, h6, h7⟩, h8⟩ := h
  refine ⟨s _ _ (fun z => (m _ z).noTup h1) (fun ps z => by cases z) h1, h2, ⟨xs, s _ _ (fun z => (m _ z).noTup h3) (fun ps z => by cases z) h3, h4.ex s m⟩, h5, ⟨ws, s _ _ (fun z => (m _ z).noTup h6) (fun ps z => by cases z) h6, h7.1, fun i x z e1 e2 => ?_⟩, h8⟩
  obtain ⟨b, v, e, hb, hv⟩ := h7.2 i x z e1 e2
  exact ⟨b, v, e, s _ _ (fun q => (m _ q).noTup hb) (fun ps z => by cases z) hb, hv⟩
abbrev Tbs : Type := List (Addr × Str)
theorem tabs_sb {Tb : Tbs} {H H' : Hp} {L : List Addr} (h : LamX.Tabs Tb H) (s : Sb L H H') (m : ∀ b ∈ L, Mb H b) : LamX.Tabs Tb H' := fun p hp => by
  obtain ⟨ps, h1, h2, h3⟩ := h p hp
  refine ⟨ps, s _ _ (fun z => ?_) h1, h2, fun pos cv hc => ?_⟩
  · rcases m _ z with q | ⟨_, q⟩ | ⟨_, q⟩ | ⟨_, _, _, _, _, _, q⟩ <;> (rw [q] at h1; cases h1)
  · obtain ⟨c, e1, e2⟩ := h3 pos cv hc
    refine ⟨c, e1, s _ _ (fun z => ?_) e2⟩
    rcases m _ z with q | ⟨_, q⟩ | ⟨_, q⟩ | ⟨_, _, _, _, _, _, q⟩ <;> (rw [q] at e2; cases e2)
theorem tabs_same {Tb : Tbs} {H H' : Hp} (h : LamX.Tabs Tb H) (s : Same H H') : LamX.Tabs Tb H' := h.ext s
theorem erase_flt : ∀ {l : List Int} {j : Nat} {e : Int}, l.Nodup → l[j]? = some e → l.eraseIdx j = l.filter fun x => decide (x ≠ e)
  | [], j, e, _, h => by simp at h
  | x :: l, 0, e, nd, h => by
    have hx : x = e := Option.some.inj h
    subst hx
    rw [List.eraseIdx_cons_zero, List.filter_cons_of_neg (by simp)]
    refine (List.filter_eq_self.mpr fun y hy => ?_).symm
    rw [decide_eq_true_eq]
    exact fun z => (List.nodup_cons.mp nd).1 (z ▸ hy)
  | x :: l, j + 1, e, nd, h => by
    have h' : l[j]? = some e := h
    obtain ⟨n1, n2⟩ := List.nodup_cons.mp nd
    have hne : x ≠ e := fun z => n1 (z ▸ List.mem_of_getElem? h')
    rw [List.eraseIdx_cons_succ, List.filter_cons_of_pos (by simpa using hne), erase_flt n2 h']
end K58

namespace K58
open PySem L2
theorem scFurther : FnScope ["_law_hand_here", "_law_check", "_law_keys_here", "_law_last", "_law_entry", "_law_ranges", "_law_seen_here", "_law_writes_here"] ["_law_hand_here", "_law_check", "_law_keys_here", "_law_last"] (defScope sFurther) := ⟨rfl, rfl, rfl, by decide +kernel, rfl, by decide +kernel, by decide +kernel⟩
def qF : Str := "_law_further.<locals>.<lambda>"
def qL : Str := "law.<locals>.<lambda>"
theorem drop_snoc {opn : OpL} {e s : Int} (h : e ∉ opn.map (·.1)) : dropO (opn ++ [(e, s)]) e = opn := by
  unfold dropO
  rw [List.filter_append]
  have e1 : opn.filter (fun p => decide (p.1 ≠ e)) = opn := List.filter_eq_self.mpr fun p hp => by
    rw [decide_eq_true_eq]
    exact fun z => h (by rw [← z]; exact List.mem_map.mpr ⟨p, hp, rfl⟩)
  have e2 : ([(e, s)] : OpL).filter (fun p => decide (p.1 ≠ e)) = [] := by simp
  rw [e1, e2, List.append_nil]
def spFurther (C T : Addr) (Tb : Tbs) : Sp := fun vs H Q _ => ∃ (hd cl a od kd l : Addr) (c : Ck) (zs : List Str), vs = [.ref hd, .ref a, .ref l, .int c.last] ∧ HandAt H hd cl ∧ CkAt C T H a od kd c ∧ CkB c ∧ KeysAt H l zs ∧ c.next ∉ c.opn.map (·.1) ∧ c.next ∉ c.kn.map (·.1) ∧
  (0 ≤ c.next ∧ c.next < BB) ∧ c.opn.length < 100 ∧ LamX.Tabs Tb H ∧
  ∀ (kd' : Addr) (H' : Hp) (kn' : KnL), Ex [hd, a, od] H H' → LamX.Tabs Tb H' → HandAt H' hd cl → (∀ b o, (∀ ps, o ≠ HO.tbl ps) → H b = some o → b ≠ kd') → CkAt C T H' a od kd' ⟨c.last, c.next + 1, c.opn, kn'⟩ → KeptOf c.kn (c.opn.map (·.2)) kn' → Q (.bl true) H'
section
variable {P : Program} {w : World} {K : PySem.W.Frag} {mg : Str → Option Value} {base : Heap}
/-- a def whose code object is known -/
theorem fn_okC {x qual : Str} {st : Stmt} {f : Addr} {oc : Value} {od an : Option Addr} {kV doc pm cd ct : Value} {osl : Array (Option Value)} {N ps : List Str} {k : Nat} {sp : Sp} (lk : K.lookup f = some ⟨oc, od, .func (PySem.W.fnOf x qual (defArgs st) (defBody st) (defScope st) .none kV doc pm an cd ct), osl⟩)
    (hcd : PySem.W.codeIn K cd qual = true) (S : FnScope N ps (defScope st)) (len : ∀ vs H Q E, sp vs H Q E → vs.length = ps.length)
    (hbody : ∀ (A : Around) (outer : List Env) (s : Shared) (H : Hp) (vs : List V) (Q : VK) (E : XK), Room k (A.deeper (PyProof.Rows.envOfC qual (defScope st) s.heap.objs.size f cd)) → sp vs H Q E →
      ∃ t, PSs (cxOf CX0 P w K mg base N qual (defScope st) f cd A outer s H E).nox (defBody st) t ∧ t { nx := fun _ H' => Q .non H', rt := Q } (start N vs) H) : FnOk P w K mg base CX0 (k + 1) f (PySem.W.fnOf x qual (defArgs st) (defBody st) (defScope st) .none kV doc pm an cd ct) ps sp := by
  refine fn_of lk hcd S len fun A outer s H vs Q E hr hsp => ?_
  obtain ⟨t, h, q⟩ := hbody A outer s H vs Q E hr hsp
  exact ⟨t, h.nox, q⟩
theorem ok_further {f fS fW fT fO fG fC cF pF RF C T : Addr} {fdS fdW fdT fdO fdG fdC : FuncData} {Tb : Tbs} {oc : Value} {od an : Option Addr} {kV doc pm ct : Value} {osl : Array (Option Value)}
    (lk : K.lookup f = some ⟨oc, od, .func (PySem.W.fnOf "_law_further" "_law_further" (defArgs sFurther) (defBody sFurther) (defScope sFurther) .none kV doc pm an (.ref cF) ct), osl⟩) (hcd : PySem.W.codeIn K (.ref cF) "_law_further" = true)
    (CT : CkTx K C) (CR : CatchR K mg RF) (TB : LamX.TabB base mg cF pF) (hmT : (pF, qF) ∈ Tb) (hu : ∀ p ∈ Tb, p.1 = pF → p.2 = qF)
    (DO : MDef P w K mg base CX0 3 C "opens" fO fdO ["self", "snapshot"] (spOpens C T)) (DG : MDef P w K mg base CX0 8 C "gives_up" fG fdG ["self", "entry"] (spClose C T))
    (DC : MDef P w K mg base (L2.CX P w) 7 C "would_commit" fC fdC ["self", "entry", "keys", "ranges", "writes"] (spWould C T RF))
    (DS : Def P w K mg base CX0 4 "_law_seen" fS fdS ["_law_hand_here", "_law_keys_here"] spLSeen) (DW : Def P w K mg base CX0 3 "_law_writes" fW fdW ["_law_hand_here", "_law_keys_here", "_law_most"] spLWrites)
    (FT : Fun K "_law_told" "_law_told" sTold fT fdT) (gT : mg "_law_told" = some (.ref fT)) (bT : Binds K fdT ["_law_call"] []) :
    FnOk P w K mg base CX0 10 f (PySem.W.fnOf "_law_further" "_law_further" (defArgs sFurther) (defBody sFurther) (defScope sFurther) .none kV doc pm an (.ref cF) ct) ["_law_hand_here", "_law_check", "_law_keys_here", "_law_last"] (spFurther C T Tb) := by
  refine fn_okC lk hcd scFurther (fun vs H Q E h => ?_) (fun A outer s H vs Q E hr h => ?_)
  · obtain ⟨hd, cl, a, od, kd, l, c, zs, rfl, _⟩ := h
    rfl
  · obtain ⟨hd, cl, a, od, kd, l, c, zs, rfl, hh, hc, hb, hk, hn1, hn2, hn3, hl, hT, k⟩ := h
    obtain ⟨oc2, od2, kV2, doc2, pm2, an2, cdv2, ct2, osl2, rfl, lk2, hcd2⟩ := FT.ex
    refine ⟨_, pss_cons (ps_set (i := 4) scFurther.nd rfl (Or.inr rfl) (pe_meth (pv 1) CT.cl DO.mt DO.ok (hr.mono (by decide)) DO.bd .nil pass0 (pa_cons (pv 3) pa_nil)))
      (pss_cons (ps_asg (pe_call DS.ok (hr.mono (by decide)) (by rfl) DS.gl DS.kp DS.bd .nil pass0 (pa_cons (pv 0) (pa_cons (pv 2) pa_nil))) (pg_tup rfl (pgs_cons (pg_name (i := 6) scFurther.nd rfl (Or.inr rfl)) (pgs_cons (pg_name (i := 5) scFurther.nd rfl (Or.inr rfl)) pgs_nil))))
      (pss_cons (ps_set (i := 7) scFurther.nd rfl (Or.inr rfl) (pe_call DW.ok (hr.mono (by decide)) (by rfl) DW.gl DW.kp DW.bd .nil pass0 (pa_cons (pv 0) (pa_cons (pv 2) (pa_cons pe_int pa_nil)))))
      (pss_mid (ps_expr (LamX.pe_lamcall (T := Tb) (TT := TTd RF) (k := 7) (by rfl) gT FT.kp lk2 hcd2 bT scTold rfl (Or.inl rfl) (told_gives CR) TB rfl hmT hu hr (LamX.lamS_by (by show LamX.lamSB (defScope sFurther) _ = true; decide +kernel)) rfl (fun _ _ _ _ _ => rfl)
          (fun A outer s H E f c' hr2 => pe_meth (pv 1) CT.cl DC.mt DC.ok hr2 DC.bd .nil (passes_call (takes_of rfl rfl rfl rfl) (fun _ _ _ _ h => h)) (pa_cons (pv 4) (pa_cons (pv 6) (pa_cons (pv 5) (pa_cons (pv 7) pa_nil)))))))
      (pss_one (ps_ret (pe_cmpR op_isN (pe_meth (pv 1) CT.cl DG.mt DG.ok (hr.mono (by decide)) DG.bd .nil pass0 (pa_cons (pv 4) pa_nil)) pe_non (nomark _))))))), ?_⟩
    obtain ⟨dx, g1⟩ := hc.ob
    have nah : a ≠ hd := hh.ne_of g1 (fun xs z => by cases z)
    have noh : od ≠ hd := hh.ne_of hc.opn (fun xs z => by cases z)
    have nkh : kd ≠ hd := hh.ne_of hc.kn.at_ (fun xs z => by cases z)
    have nlh := hk.not_hand hh
    obtain ⟨cs, hcs, hcsl⟩ := hh.cells
    have nac : a ≠ cl := ne_of g1 hcs (by intro z; cases z)
    have noc : od ≠ cl := ne_of hc.opn hcs (by intro z; cases z)
    have nal : a ≠ l := ne_of g1 hk.at_ (by intro z; cases z)
    have nol : od ≠ l := ne_of hc.opn hk.at_ (by intro z; cases z)
    have nak : a ≠ kd := ne_of g1 hc.kn.at_ (by intro z; cases z)
    have nao : a ≠ od := ne_of g1 hc.opn (by intro z; cases z)
    have mbo : ∀ b ∈ [a, od], Mb H b := fun b hb => by
      rcases List.mem_cons.mp hb with z | z
      · rw [z]; exact hc.mb.1
      · rw [List.mem_singleton.mp z]; exact hc.mb.2.1
    -- opens
    refine ⟨_, rfl, a, dx, _, rfl, g1, rfl, _, rfl, a, od, kd, c, rfl, hc, hn1, by omega, fun H1 s1 hc1 => ?_⟩
    have hh1 := hh.sb s1 (by simp; exact ⟨nah.symm, noh.symm⟩) (by simp; exact ⟨nac.symm, noc.symm⟩)
    have hk1 := hk.sb s1 (by simp; exact ⟨nal.symm, nol.symm⟩)
    have hT1 := tabs_sb hT s1 mbo
    -- seen
    refine ⟨_, rfl, _, rfl, hd, cl, l, zs, rfl, hh1, hk1, fun p ka ra asked spans xs H2 s2 hh2 hp hka hup hra hxs hsl hsw hsu => ?_⟩
    refine ⟨p, _, rfl, SqT.of hp, rfl, _, _, rfl, _, _, rfl, rfl, ?_⟩
    have mb1 : ∀ b ∈ [hd], Mb H1 b := fun b hb => by rw [List.mem_singleton.mp hb]; exact hh1.mb
    have hk2 := hk1.sb s2 (fun z => nlh (List.mem_singleton.mp z))
    have hc2 := hc1.sb s2 mb1 (fun z => nah (List.mem_singleton.mp z)) (fun z => noh (List.mem_singleton.mp z)) (fun z => nkh (List.mem_singleton.mp z))
    have hT2 := tabs_sb hT1 s2 mb1
    -- writes
    refine ⟨_, rfl, _, rfl, hd, cl, l, zs, 2, rfl, hh2, hk2, by decide, by decide, fun wr ws wrote H3 s3 hh3 hwr hws hwu => ?_⟩
    have mb2 : ∀ b ∈ [hd], Mb H2 b := fun b hb => by rw [List.mem_singleton.mp hb]; exact hh2.mb
    have hc3 := hc2.sb s3 mb2 (fun z => nah (List.mem_singleton.mp z)) (fun z => noh (List.mem_singleton.mp z)) (fun z => nkh (List.mem_singleton.mp z))
    have hT3 := tabs_sb hT2 s3 mb2
    have hka3 := s3 _ _ (fun z => (hh2.ne_of hka (fun xs z => by cases z)) (List.mem_singleton.mp z)) hka
    have hra3 := s3 _ _ (fun z => (hh2.ne_of hra (fun xs z => by cases z)) (List.mem_singleton.mp z)) hra
    have hA : ArgsAt H3 ka ra wr asked spans wrote := ⟨hka3, ⟨by have := hup.few; omega, fun z hz => six_key z (hup.six z hz), hup.up⟩, ⟨xs, hra3, hxs.sb s3 mb2⟩, ⟨by omega, hsw, hsu⟩, ⟨ws, hwr, hws⟩, ⟨by have := hwu.few; omega, fun z hz => six_key z (hwu.six z hz), hwu.up⟩⟩
    have s13 : Sb [hd, a, od] H H3 := ((s1.mono (L' := [hd, a, od]) (by simp)).trans (s2.mono (by simp))).trans (s3.mono (by simp))
    have hcB : CkB ⟨c.last, c.next + 1, c.opn ++ [(c.next, c.last)], c.kn⟩ := ⟨hb.srt, hb.kb, fun x hx => by
      have hx' : x ∈ (c.opn ++ [(c.next, c.last)]).map (·.1) := hx
      rw [List.map_append, List.mem_append] at hx'
      rcases hx' with z | z
      · exact hb.ob x z
      · rw [List.map_singleton, List.mem_singleton] at z
        rw [z]; exact hn3, fun x hx => by
      have hx' : x ∈ (c.opn ++ [(c.next, c.last)]).map (·.1) := hx
      rw [List.map_append, List.mem_append] at hx'
      rcases hx' with z | z
      · exact hb.dis x z
      · rw [List.map_singleton, List.mem_singleton] at z
        rw [z]; exact hn2⟩
    have hin : (c.next, c.last) ∈ c.opn ++ [(c.next, c.last)] := List.mem_append_right _ (List.mem_singleton.mpr rfl)
    -- told
    refine ⟨fun σ' H' => σ' = [some (.ref hd), some (.ref a), some (.ref l), some (.int c.last), some (.int c.next), some (.ref ra), some (.ref ka), some (.ref wr)] ∧ Ex [] H3 H' ∧ LamX.Tabs Tb H', ⟨hT3, fun H4 e4 hT4 H5 s5 => ?_⟩, ?_⟩
    · have e35 : Ex [] H3 H5 := (Ex.ofN e4).trans (Sb.of s5).ex
      have hc5 := hc3.ex e35 (by simp) (by simp) (by simp) (by simp)
      have hA5 := hA.ex e35 (by simp)
      have hT5 := tabs_same hT4 s5
      obtain ⟨dx5, g5⟩ := hc5.ob
      refine ⟨_, rfl, a, dx5, _, rfl, g5, rfl, _, rfl, _, rfl, _, rfl, _, rfl, ?_⟩
      refine ⟨a, od, kd, _, c.next, c.last, ka, ra, wr, asked, spans, wrote, rfl, hc5, hcB, hin, hA5, fun v H6 s6 t ht => ?_, fun row d p H6 s6 hd6 hp6 => ?_⟩
      · have s7 := s6.trans (snew (o := .tup [.str "told", v]) ht)
        exact ⟨rfl, e35.trans (Sb.of s7).ex, tabs_same hT5 s7⟩
      · refine ⟨rfl, d, .ref p, rfl, hd6, fun H7 t s7 ht => ?_⟩
        have s8 := s6.trans s7
        exact ⟨rfl, e35.trans (Sb.of s8).ex, tabs_same hT5 s8⟩
    · rintro σ' H4 ⟨rfl, e34, hT4⟩
      have hc4 := hc3.ex e34 (by simp) (by simp) (by simp) (by simp)
      have hh4 := hh3.ex e34 (by simp) (by simp)
      obtain ⟨dx4, g4⟩ := hc4.ob
      refine ⟨_, rfl, a, dx4, _, rfl, g4, rfl, _, rfl, a, od, kd, _, c.next, rfl, hc4, List.mem_map.mpr ⟨_, hin, rfl⟩, by show (c.opn ++ [(c.next, c.last)]).length ≤ 500; rw [List.length_append, List.length_singleton]; omega, fun kd' H5 kn' s5 hkd' hc5 hkept => ⟨rfl, ?_⟩⟩
      have hkept' : KeptOf c.kn ((dropO (c.opn ++ [(c.next, c.last)]) c.next).map (·.2)) kn' := hkept
      have hc5' : CkAt C T H5 a od kd' ⟨c.last, c.next + 1, dropO (c.opn ++ [(c.next, c.last)]) c.next, kn'⟩ := hc5
      rw [drop_snoc hn1] at hkept' hc5'
      have mb4 : ∀ b ∈ [a, od], Mb H4 b := fun b hb => by
        rcases List.mem_cons.mp hb with z | z
        · rw [z]; exact hc4.mb.1
        · rw [List.mem_singleton.mp z]; exact hc4.mb.2.1
      have e04 : Ex [hd, a, od] H H4 := s13.ex.trans (e34.mono (by simp))
      refine k kd' H5 kn' (e04.trans (s5.mono (by simp)).ex) (tabs_sb hT4 s5 mb4) (hh4.sb s5 (by simp; exact ⟨nah.symm, noh.symm⟩) (by simp; exact ⟨nac.symm, noc.symm⟩)) (fun b o no hbo z => ?_) hc5' hkept'
      have hbn : H4 b = none := by rw [z]; exact hkd'
      by_cases hbL : b ∈ [hd, a, od]
      · rcases List.mem_cons.mp hbL with y | y
        · obtain ⟨⟨i1, i2, i3, i4, h0, g9⟩, _⟩ := hh4
          rw [y, g9] at hbn; cases hbn
        · rcases List.mem_cons.mp y with y | y
          · rw [y, g4] at hbn; cases hbn
          · rw [List.mem_singleton.mp y, hc4.opn] at hbn; cases hbn
      · rw [e04 b o hbL no hbo] at hbn; cases hbn
end
end K58

namespace K58
open PySem L2
/-- where the law's things stand -/
structure Pl where
  hd : Addr
  cl : Addr
  l : Addr
  a1 : Addr
  od1 : Addr
  a2 : Addr
  od2 : Addr
  nd : Addr
  md : Addr
  ol : Addr
/-- the law's things -/
structure LW (C T : Addr) (Tb : Tbs) (p : Pl) (zs : List Str) (H : Hp) (kd1 kd2 : Addr) (c1 c2 : Ck) (nm mn : OpL) (ops : List Int) : Prop where
  hand : HandAt H p.hd p.cl
  keys : KeysAt H p.l zs
  k1 : CkAt C T H p.a1 p.od1 kd1 c1
  k2 : CkAt C T H p.a2 p.od2 kd2 c2
  names : H p.nd = some (.dK (nm.map rowO))
  mine : H p.md = some (.dK (mn.map rowO))
  opened : H p.ol = some (.lst (ops.map V.int))
  tabs : LamX.Tabs Tb H
  a12 : p.a1 ≠ p.a2
  dd : [p.od1, kd1, p.od2, kd2, p.nd, p.md].Nodup
  oc : p.ol ≠ p.cl
theorem ints_keys {H : Hp} {x l : Addr} {is : List Int} {zs : List Str} (h : H x = some (.lst (is.map V.int))) (k : KeysAt H l zs) : x ≠ l := fun z => by
  have a := k.at_
  rw [← z, h] at a
  have b := Option.some.inj a
  injection b with b
  have n := k.ne
  cases zs with
  | nil => exact absurd n (by decide)
  | cons z r =>
    cases is with
    | nil => cases b
    | cons i is =>
      rw [List.map_cons, List.map_cons] at b
      injection b with b
      cases b
theorem ints_hand {H : Hp} {x hd cl : Addr} {is : List Int} (h : H x = some (.lst (is.map V.int))) (k : HandAt H hd cl) : x ≠ hd := fun z => by
  obtain ⟨⟨i1, i2, i3, i4, h0, g1⟩, _⟩ := k
  rw [z, g1] at h
  have b := Option.some.inj h
  injection b with b
  cases is with
  | nil => cases b
  | cons i is =>
    rw [List.map_cons] at b
    injection b with b
    cases b
section
variable {C T : Addr} {Tb : Tbs} {p : Pl} {zs : List Str} {H H' : Hp} {kd1 kd2 : Addr} {c1 c2 : Ck} {nm mn : OpL} {ops : List Int}
/-- no two of the places are one -/
structure Dst (p : Pl) (kd1 kd2 : Addr) : Prop where
  l1 : p.hd ≠ p.cl ∧ p.hd ≠ p.l ∧ p.hd ≠ p.ol ∧ p.cl ≠ p.l ∧ p.cl ≠ p.ol ∧ p.l ≠ p.ol
  i1 : p.a1 ≠ p.a2
  hi : p.hd ≠ p.a1 ∧ p.hd ≠ p.a2 ∧ p.cl ≠ p.a1 ∧ p.cl ≠ p.a2 ∧ p.l ≠ p.a1 ∧ p.l ≠ p.a2 ∧ p.ol ≠ p.a1 ∧ p.ol ≠ p.a2
  hD : p.hd ≠ p.od1 ∧ p.hd ≠ kd1 ∧ p.hd ≠ p.od2 ∧ p.hd ≠ kd2 ∧ p.hd ≠ p.nd ∧ p.hd ≠ p.md
  cD : p.cl ≠ p.od1 ∧ p.cl ≠ kd1 ∧ p.cl ≠ p.od2 ∧ p.cl ≠ kd2 ∧ p.cl ≠ p.nd ∧ p.cl ≠ p.md
  lD : p.l ≠ p.od1 ∧ p.l ≠ kd1 ∧ p.l ≠ p.od2 ∧ p.l ≠ kd2 ∧ p.l ≠ p.nd ∧ p.l ≠ p.md
  oD : p.ol ≠ p.od1 ∧ p.ol ≠ kd1 ∧ p.ol ≠ p.od2 ∧ p.ol ≠ kd2 ∧ p.ol ≠ p.nd ∧ p.ol ≠ p.md
  aD : p.a1 ≠ p.od1 ∧ p.a1 ≠ kd1 ∧ p.a1 ≠ p.od2 ∧ p.a1 ≠ kd2 ∧ p.a1 ≠ p.nd ∧ p.a1 ≠ p.md
  bD : p.a2 ≠ p.od1 ∧ p.a2 ≠ kd1 ∧ p.a2 ≠ p.od2 ∧ p.a2 ≠ kd2 ∧ p.a2 ≠ p.nd ∧ p.a2 ≠ p.md
  dD : p.od1 ≠ kd1 ∧ p.od1 ≠ p.od2 ∧ p.od1 ≠ kd2 ∧ p.od1 ≠ p.nd ∧ p.od1 ≠ p.md ∧ kd1 ≠ p.od2 ∧ kd1 ≠ kd2 ∧ kd1 ≠ p.nd ∧ kd1 ≠ p.md ∧ p.od2 ≠ kd2 ∧ p.od2 ≠ p.nd ∧ p.od2 ≠ p.md ∧ kd2 ≠ p.nd ∧ kd2 ≠ p.md ∧ p.nd ≠ p.md
theorem LW.dst (W : LW C T Tb p zs H kd1 kd2 c1 c2 nm mn ops) : Dst p kd1 kd2 := by
  obtain ⟨⟨i1, i2, i3, i4, h0, gh⟩, ⟨cs, gc, _⟩, hne⟩ := id W.hand
  obtain ⟨dx1, g1⟩ := W.k1.ob
  obtain ⟨dx2, g2⟩ := W.k2.ob
  have gl := W.keys.at_
  have go := W.opened
  have d1 := W.k1.opn
  have d2 := W.k1.kn.at_
  have d3 := W.k2.opn
  have d4 := W.k2.kn.at_
  have d5 := W.names
  have d6 := W.mine
  have D := W.dd
  simp only [List.nodup_cons, List.mem_cons, List.not_mem_nil, or_false, not_or] at D
  obtain ⟨⟨e1, e2, e3, e4, e5⟩, ⟨e6, e7, e8, e9⟩, ⟨e10, e11, e12⟩, ⟨e13, e14⟩, e15, _⟩ := D
  have k : ∀ {x y : Addr} {xs : List V} {C dx : Addr} {fs : List (Str × V)}, H x = some (.lst xs) → H y = some (.ins C dx fs) → x ≠ y := fun a b => ne_of a b (by intro z; cases z)
  have k2 : ∀ {x y : Addr} {xs : List V} {kvs : List (Key × V)}, H x = some (.lst xs) → H y = some (.dK kvs) → x ≠ y := fun a b => ne_of a b (by intro z; cases z)
  have k3 : ∀ {x y : Addr} {C dx : Addr} {fs : List (Str × V)} {kvs : List (Key × V)}, H x = some (.ins C dx fs) → H y = some (.dK kvs) → x ≠ y := fun a b => ne_of a b (by intro z; cases z)
  exact ⟨⟨hne, (W.keys.not_hand W.hand).symm, (ints_hand go W.hand).symm, ints_keys gc W.keys, W.oc.symm, (ints_keys go W.keys).symm⟩, W.a12,
    ⟨k gh g1, k gh g2, k gc g1, k gc g2, k gl g1, k gl g2, k go g1, k go g2⟩,
    ⟨k2 gh d1, k2 gh d2, k2 gh d3, k2 gh d4, k2 gh d5, k2 gh d6⟩, ⟨k2 gc d1, k2 gc d2, k2 gc d3, k2 gc d4, k2 gc d5, k2 gc d6⟩, ⟨k2 gl d1, k2 gl d2, k2 gl d3, k2 gl d4, k2 gl d5, k2 gl d6⟩, ⟨k2 go d1, k2 go d2, k2 go d3, k2 go d4, k2 go d5, k2 go d6⟩,
    ⟨k3 g1 d1, k3 g1 d2, k3 g1 d3, k3 g1 d4, k3 g1 d5, k3 g1 d6⟩, ⟨k3 g2 d1, k3 g2 d2, k3 g2 d3, k3 g2 d4, k3 g2 d5, k3 g2 d6⟩,
    ⟨e1, e2, e3, e4, e5, e6, e7, e8, e9, e10, e11, e12, e13, e14, e15⟩⟩
theorem nin {x : Addr} {L : List Addr} (h : ∀ y ∈ L, x ≠ y) : x ∉ L := fun z => h x z rfl
/-- a new dict in place of check 1's -/
theorem LW.ofOne (W : LW C T Tb p zs H kd1 kd2 c1 c2 nm mn ops) {kd1' : Addr} {c1' : Ck} (s : Sb [p.a1, p.od1, kd1] H H') (hk : CkAt C T H' p.a1 p.od1 kd1' c1') (hn : kd1' = kd1 ∨ H kd1' = none) :
    LW C T Tb p zs H' kd1' kd2 c1' c2 nm mn ops := by
  have D := W.dst
  obtain ⟨D1, D2, D3, D4, D5, D6, D7, D8, D9, D10⟩ := id D
  have m : ∀ b ∈ [p.a1, p.od1, kd1], Mb H b := fun b hb => by
    simp only [List.mem_cons, List.not_mem_nil, or_false] at hb
    rcases hb with z | z | z <;> rw [z]
    · exact W.k1.mb.1
    · exact W.k1.mb.2.1
    · exact W.k1.mb.2.2
  have nm_ : ∀ {x : Addr}, x ≠ p.a1 → x ≠ p.od1 → x ≠ kd1 → x ∉ [p.a1, p.od1, kd1] := fun h1 h2 h3 => by simp only [List.mem_cons, List.not_mem_nil, or_false, not_or]; exact ⟨h1, h2, h3⟩
  refine ⟨W.hand.sb s (nm_ D3.1 D4.1 D4.2.1) (nm_ D3.2.2.1 D5.1 D5.2.1), W.keys.sb s (nm_ D3.2.2.2.2.1 D6.1 D6.2.1), hk, W.k2.sb s m (nm_ D2.symm D9.1 D9.2.1) (nm_ D8.2.2.1.symm D10.2.1.symm D10.2.2.2.2.2.1.symm) (nm_ D8.2.2.2.1.symm D10.2.2.1.symm D10.2.2.2.2.2.2.1.symm),
    s _ _ (nm_ D8.2.2.2.2.1.symm D10.2.2.2.1.symm D10.2.2.2.2.2.2.2.1.symm) W.names, s _ _ (nm_ D8.2.2.2.2.2.symm D10.2.2.2.2.1.symm D10.2.2.2.2.2.2.2.2.1.symm) W.mine, s _ _ (nm_ D3.2.2.2.2.2.2.1 D7.1 D7.2.1) W.opened, tabs_sb W.tabs s m, W.a12, ?_, W.oc⟩
  rcases hn with rfl | hn
  · exact W.dd
  · have n : ∀ {x : Addr} {o : HO}, H x = some o → x ≠ kd1' := fun e z => by rw [z, hn] at e; cases e
    have w1 := n W.k1.opn
    have w3 := n W.k2.opn
    have w4 := n W.k2.kn.at_
    have w5 := n W.names
    have w6 := n W.mine
    simp only [List.nodup_cons, List.mem_cons, List.not_mem_nil, or_false, not_or, List.nodup_nil, and_true, not_false_eq_true]
    exact ⟨⟨w1, D10.2.1, D10.2.2.1, D10.2.2.2.1, D10.2.2.2.2.1⟩, ⟨w3.symm, w4.symm, w5.symm, w6.symm⟩, ⟨D10.2.2.2.2.2.2.2.2.2.1, D10.2.2.2.2.2.2.2.2.2.2.1, D10.2.2.2.2.2.2.2.2.2.2.2.1⟩, ⟨D10.2.2.2.2.2.2.2.2.2.2.2.2.1, D10.2.2.2.2.2.2.2.2.2.2.2.2.2.1⟩, D10.2.2.2.2.2.2.2.2.2.2.2.2.2.2⟩
/-- the same for check 2, the hand too may have moved -/
theorem LW.ofTwo (W : LW C T Tb p zs H kd1 kd2 c1 c2 nm mn ops) {kd2' : Addr} {c2' : Ck} (s : Ex [p.hd, p.a2, p.od2, kd2] H H') (hh : HandAt H' p.hd p.cl) (hT : LamX.Tabs Tb H') (hk : CkAt C T H' p.a2 p.od2 kd2' c2') (hn : kd2' = kd2 ∨ ∀ b o, (∀ ps, o ≠ HO.tbl ps) → H b = some o → b ≠ kd2') :
    LW C T Tb p zs H' kd1 kd2' c1 c2' nm mn ops := by
  have D := W.dst
  obtain ⟨D1, D2, D3, D4, D5, D6, D7, D8, D9, D10⟩ := id D
  have m : ∀ b ∈ [p.hd, p.a2, p.od2, kd2], Mb H b := fun b hb => by
    simp only [List.mem_cons, List.not_mem_nil, or_false] at hb
    rcases hb with z | z | z | z <;> rw [z]
    · exact W.hand.mb
    · exact W.k2.mb.1
    · exact W.k2.mb.2.1
    · exact W.k2.mb.2.2
  have nm_ : ∀ {x : Addr}, x ≠ p.hd → x ≠ p.a2 → x ≠ p.od2 → x ≠ kd2 → x ∉ [p.hd, p.a2, p.od2, kd2] := fun h1 h2 h3 h4 => by simp only [List.mem_cons, List.not_mem_nil, or_false, not_or]; exact ⟨h1, h2, h3, h4⟩
  refine ⟨hh, W.keys.ex s (nm_ D1.2.1.symm D3.2.2.2.2.2.1 D6.2.2.1 D6.2.2.2.1), W.k1.ex s m (nm_ D3.1.symm D2 D8.2.2.1 D8.2.2.2.1) (nm_ D4.1.symm D9.1.symm D10.2.1 D10.2.2.1) (nm_ D4.2.1.symm D9.2.1.symm D10.2.2.2.2.2.1 D10.2.2.2.2.2.2.1), hk,
    s _ _ (nm_ D4.2.2.2.2.1.symm D9.2.2.2.2.1.symm D10.2.2.2.2.2.2.2.2.2.2.1.symm D10.2.2.2.2.2.2.2.2.2.2.2.2.1.symm) (fun ps z => by cases z) W.names, s _ _ (nm_ D4.2.2.2.2.2.symm D9.2.2.2.2.2.symm D10.2.2.2.2.2.2.2.2.2.2.2.1.symm D10.2.2.2.2.2.2.2.2.2.2.2.2.2.1.symm) (fun ps z => by cases z) W.mine,
    s _ _ (nm_ D1.2.2.1.symm D3.2.2.2.2.2.2.2 D7.2.2.1 D7.2.2.2.1) (fun ps z => by cases z) W.opened, hT, W.a12, ?_, W.oc⟩
  rcases hn with rfl | hn
  · exact W.dd
  · have w1 := hn _ _ (fun ps z => by cases z) W.k1.opn
    have w2 := hn _ _ (fun ps z => by cases z) W.k1.kn.at_
    have w3 := hn _ _ (fun ps z => by cases z) W.k2.opn
    have w5 := hn _ _ (fun ps z => by cases z) W.names
    have w6 := hn _ _ (fun ps z => by cases z) W.mine
    simp only [List.nodup_cons, List.mem_cons, List.not_mem_nil, or_false, not_or, List.nodup_nil, and_true, not_false_eq_true]
    exact ⟨⟨D10.1, D10.2.1, w1, D10.2.2.2.1, D10.2.2.2.2.1⟩, ⟨D10.2.2.2.2.2.1, w2, D10.2.2.2.2.2.2.2.1, D10.2.2.2.2.2.2.2.2.1⟩, ⟨w3, D10.2.2.2.2.2.2.2.2.2.2.1, D10.2.2.2.2.2.2.2.2.2.2.2.1⟩, ⟨w5.symm, w6.symm⟩, D10.2.2.2.2.2.2.2.2.2.2.2.2.2.2⟩
/-- nothing of it touched -/
theorem LW.ofEx (W : LW C T Tb p zs H kd1 kd2 c1 c2 nm mn ops) (s : Ex [] H H') (hT : LamX.Tabs Tb H') : LW C T Tb p zs H' kd1 kd2 c1 c2 nm mn ops :=
  W.ofTwo (s.mono (by simp)) (W.hand.ex s (by simp) (by simp)) hT (W.k2.ex s (by simp) (by simp) (by simp) (by simp)) (.inl rfl)
theorem LW.same (W : LW C T Tb p zs H kd1 kd2 c1 c2 nm mn ops) (s : Same H H') : LW C T Tb p zs H' kd1 kd2 c1 c2 nm mn ops := W.ofEx (Sb.of s).ex (tabs_same W.tabs s)
theorem LW.ofHand (W : LW C T Tb p zs H kd1 kd2 c1 c2 nm mn ops) (s : Sb [p.hd] H H') (hh : HandAt H' p.hd p.cl) : LW C T Tb p zs H' kd1 kd2 c1 c2 nm mn ops := by
  have m : ∀ b ∈ [p.hd], Mb H b := fun b hb => by rw [List.mem_singleton.mp hb]; exact W.hand.mb
  have D := W.dst
  exact W.ofTwo (s.ex.mono (by simp)) hh (tabs_sb W.tabs s m) (W.k2.sb s m (fun z => D.hi.2.1 (List.mem_singleton.mp z).symm) (fun z => D.hD.2.2.1 (List.mem_singleton.mp z).symm) (fun z => D.hD.2.2.2.1 (List.mem_singleton.mp z).symm)) (.inl rfl)
/-- check 2 alone -/
theorem LW.ofTwoS (W : LW C T Tb p zs H kd1 kd2 c1 c2 nm mn ops) {kd2' : Addr} {c2' : Ck} (s : Sb [p.a2, p.od2, kd2] H H') (hk : CkAt C T H' p.a2 p.od2 kd2' c2') (hn : kd2' = kd2 ∨ H kd2' = none) :
    LW C T Tb p zs H' kd1 kd2' c1 c2' nm mn ops := by
  have D := W.dst
  have m : ∀ b ∈ [p.a2, p.od2, kd2], Mb H b := fun b hb => by
    simp only [List.mem_cons, List.not_mem_nil, or_false] at hb
    rcases hb with z | z | z <;> rw [z]
    · exact W.k2.mb.1
    · exact W.k2.mb.2.1
    · exact W.k2.mb.2.2
  have nm_ : ∀ {x : Addr}, x ≠ p.a2 → x ≠ p.od2 → x ≠ kd2 → x ∉ [p.a2, p.od2, kd2] := fun h1 h2 h3 => by simp only [List.mem_cons, List.not_mem_nil, or_false, not_or]; exact ⟨h1, h2, h3⟩
  refine W.ofTwo (s.ex.mono (by simp)) (W.hand.sb s (nm_ D.hi.2.1 D.hD.2.2.1 D.hD.2.2.2.1) (nm_ D.hi.2.2.2.1 D.cD.2.2.1 D.cD.2.2.2.1)) (tabs_sb W.tabs s m) hk ?_
  rcases hn with z | z
  · exact .inl z
  · refine .inr fun b o _ e y => ?_
    rw [y, z] at e; cases e
/-- the names written -/
theorem LW.ofNames (W : LW C T Tb p zs H kd1 kd2 c1 c2 nm mn ops) (nm' : OpL) : LW C T Tb p zs (upd H p.nd (.dK (nm'.map rowO))) kd1 kd2 c1 c2 nm' mn ops := by
  have D := W.dst
  have s : Sb [p.nd] H (upd H p.nd (.dK (nm'.map rowO))) := fun b o hb e => by rw [upd_ne (fun z => hb (by rw [z]; simp))]; exact e
  have m : ∀ b ∈ [p.nd], Mb H b := fun b hb => by rw [List.mem_singleton.mp hb]; exact .inr (.inl ⟨_, W.names⟩)
  have q : ∀ {x : Addr}, x ≠ p.nd → x ∉ [p.nd] := fun h z => h (List.mem_singleton.mp z)
  exact ⟨W.hand.sb s (q D.hD.2.2.2.2.1) (q D.cD.2.2.2.2.1), W.keys.sb s (q D.lD.2.2.2.2.1), W.k1.sb s m (q D.aD.2.2.2.2.1) (q D.dD.2.2.2.1) (q D.dD.2.2.2.2.2.2.2.1), W.k2.sb s m (q D.bD.2.2.2.2.1) (q D.dD.2.2.2.2.2.2.2.2.2.2.1) (q D.dD.2.2.2.2.2.2.2.2.2.2.2.2.1), upd_same,
    s _ _ (q D.dD.2.2.2.2.2.2.2.2.2.2.2.2.2.2.symm) W.mine, s _ _ (q D.oD.2.2.2.2.1) W.opened, tabs_sb W.tabs s m, W.a12, W.dd, W.oc⟩
theorem LW.ofMine (W : LW C T Tb p zs H kd1 kd2 c1 c2 nm mn ops) (mn' : OpL) : LW C T Tb p zs (upd H p.md (.dK (mn'.map rowO))) kd1 kd2 c1 c2 nm mn' ops := by
  have D := W.dst
  have s : Sb [p.md] H (upd H p.md (.dK (mn'.map rowO))) := fun b o hb e => by rw [upd_ne (fun z => hb (by rw [z]; simp))]; exact e
  have m : ∀ b ∈ [p.md], Mb H b := fun b hb => by rw [List.mem_singleton.mp hb]; exact .inr (.inl ⟨_, W.mine⟩)
  have q : ∀ {x : Addr}, x ≠ p.md → x ∉ [p.md] := fun h z => h (List.mem_singleton.mp z)
  exact ⟨W.hand.sb s (q D.hD.2.2.2.2.2) (q D.cD.2.2.2.2.2), W.keys.sb s (q D.lD.2.2.2.2.2), W.k1.sb s m (q D.aD.2.2.2.2.2) (q D.dD.2.2.2.2.1) (q D.dD.2.2.2.2.2.2.2.2.1), W.k2.sb s m (q D.bD.2.2.2.2.2) (q D.dD.2.2.2.2.2.2.2.2.2.2.2.1) (q D.dD.2.2.2.2.2.2.2.2.2.2.2.2.2.1),
    s _ _ (q D.dD.2.2.2.2.2.2.2.2.2.2.2.2.2.2) W.names, upd_same, s _ _ (q D.oD.2.2.2.2.2) W.opened, tabs_sb W.tabs s m, W.a12, W.dd, W.oc⟩
theorem LW.ofOpened (W : LW C T Tb p zs H kd1 kd2 c1 c2 nm mn ops) (ops' : List Int) : LW C T Tb p zs (upd H p.ol (.lst (ops'.map V.int))) kd1 kd2 c1 c2 nm mn ops' := by
  have D := W.dst
  have s : Sb [p.ol] H (upd H p.ol (.lst (ops'.map V.int))) := fun b o hb e => by rw [upd_ne (fun z => hb (by rw [z]; simp))]; exact e
  have m : ∀ b ∈ [p.ol], Mb H b := fun b hb => by rw [List.mem_singleton.mp hb]; exact .inr (.inr (.inl ⟨_, W.opened⟩))
  have q : ∀ {x : Addr}, x ≠ p.ol → x ∉ [p.ol] := fun h z => h (List.mem_singleton.mp z)
  exact ⟨W.hand.sb s (q D.l1.2.2.1) (q D.l1.2.2.2.2.1), W.keys.sb s (q D.l1.2.2.2.2.2), W.k1.sb s m (q D.hi.2.2.2.2.2.2.1.symm) (q D.oD.1.symm) (q D.oD.2.1.symm), W.k2.sb s m (q D.hi.2.2.2.2.2.2.2.symm) (q D.oD.2.2.1.symm) (q D.oD.2.2.2.1.symm),
    s _ _ (q D.oD.2.2.2.2.1.symm) W.names, s _ _ (q D.oD.2.2.2.2.2.symm) W.mine, upd_same, tabs_sb W.tabs s m, W.a12, W.dd, W.oc⟩
end
end K58

namespace K58
open PySem L2
theorem ints_lay : ∀ xs : List Int, PyData.canLayAll0 (xs.map PyData.int) = true
  | [] => rfl
  | x :: xs => by
    have := ints_lay xs
    show (PyData.canLay0 (.int x) && PyData.canLayAll0 (xs.map PyData.int)) = true
    rw [this]; rfl
theorem ints_depth : ∀ xs : List Int, PyData.depthAll (xs.map PyData.int) ≤ 1
  | [] => by decide
  | x :: xs => by
    have := ints_depth xs
    show max (PyData.depth (.int x)) (PyData.depthAll (xs.map PyData.int)) ≤ 1
    have e : PyData.depth (.int x) = 0 := rfl
    omega
theorem ints_dpAll {K : PySem.W.Frag} {H : Hp} : ∀ xs : List Int, DpAll K H (xs.map V.int) (xs.map PyData.int)
  | [] => .nil
  | x :: xs => .cons (.int x) (ints_dpAll xs)
theorem ints_dp {K : PySem.W.Frag} {H : Hp} {p : Addr} {xs : List Int} (h : H p = some (.tup (xs.map V.int))) : Dp K H (.ref p) (.tuple (xs.map PyData.int)) := .tup (SqT.of h) (ints_dpAll xs)
theorem ints_shaped (xs : List Int) : SeqAt.shaped (.tuple (xs.map PyData.int)) = true := by
  unfold SeqAt.shaped
  have h1 := ints_lay xs
  have h2 := ints_depth xs
  have e1 : PyData.canLay0 (.tuple (xs.map PyData.int)) = PyData.canLayAll0 (xs.map PyData.int) := rfl
  have e2 : PyData.depth (.tuple (xs.map PyData.int)) = PyData.depthAll (xs.map PyData.int) + 1 := rfl
  rw [e1, e2, h1, decide_eq_true (by omega)]
  rfl
theorem self_ne {d : PyData} (h : SeqAt.shaped d = true) : (!PyData.eqv d d) = false := by
  rw [SeqAt.eqv_refl d (SeqAt.canLay_of_shaped h)]; rfl
def told_d : Option Int → PyData
  | none => .tuple [.str "told", .none]
  | some i => .tuple [.str "told", .int i]
theorem told_dp {K : PySem.W.Frag} {H : Hp} {p : Addr} {c : Option Int} (h : H p = some (.tup [.str "told", cV c])) : Dp K H (.ref p) (told_d c) := by
  cases c with
  | none => exact .tup (SqT.of h) (.cons (.str _) (.cons .non .nil))
  | some i => exact .tup (SqT.of h) (.cons (.str _) (.cons (.int i) .nil))
theorem told_shaped (c : Option Int) : SeqAt.shaped (told_d c) = true := by
  have h : PyData.strOk "told" = true := by decide +kernel
  cases c with
  | none =>
    unfold SeqAt.shaped
    have e1 : PyData.canLay0 (told_d none) = (PyData.strOk "told" && (true && true)) := rfl
    rw [e1, h]; rfl
  | some i =>
    unfold SeqAt.shaped
    have e1 : PyData.canLay0 (told_d (some i)) = (PyData.strOk "told" && (true && true)) := rfl
    rw [e1, h]; rfl
def ring_d (xs : List Int) : PyData := .tuple [.str "ring", .tuple (xs.map PyData.int)]
theorem ring_dp {K : PySem.W.Frag} {H : Hp} {q p : Addr} {xs : List Int} (h : H q = some (.tup [.str "ring", .ref p])) (hp : H p = some (.tup (xs.map V.int))) : Dp K H (.ref q) (ring_d xs) :=
  .tup (SqT.of h) (.cons (.str _) (.cons (ints_dp hp) .nil))
theorem ring_shaped (xs : List Int) : SeqAt.shaped (ring_d xs) = true := by
  unfold SeqAt.shaped
  have h1 := ints_lay xs
  have h2 := ints_depth xs
  have e1 : PyData.canLay0 (ring_d xs) = (PyData.strOk "ring" && (PyData.canLayAll0 (xs.map PyData.int) && true)) := rfl
  have h : PyData.strOk "ring" = true := by decide +kernel
  have e2 : PyData.depth (ring_d xs) = max 0 (max (PyData.depthAll (xs.map PyData.int) + 1) 0) + 1 := rfl
  rw [e1, e2, h, h1, decide_eq_true (by omega)]
  rfl
end K58

namespace K58
open PySem L2
abbrev nLaw : List Str := ["_law_script", "_law_hand_here", "_law_keys_here", "_law_names", "_law_opened", "_law_turn", "_law_told_here", "_law_also", "_law_entry", "_law_mine", "_law_one", "_law_other", "_law_ranges", "_law_seen_here", "_law_writes_here"]
theorem scLaw : FnScope ["_law_script", "_law_hand_here", "_law_keys_here", "_law_names", "_law_opened", "_law_turn", "_law_told_here", "_law_also", "_law_entry", "_law_mine", "_law_one", "_law_other", "_law_ranges", "_law_seen_here", "_law_writes_here"] ["_law_script"] (defScope sLaw) := ⟨rfl, rfl, rfl, by decide +kernel, rfl, by decide +kernel, by decide +kernel⟩
def spLaw (K : PySem.W.Frag) (Tb : Tbs) : Sp := fun vs H Q _ => ∃ (a : Addr) (ns : List Int), vs = [.ref a] ∧ SqL K H a (ns.map V.int) ∧ LamX.Tabs Tb H ∧ ∀ H', Q (.bl true) H'
def swp (q : Int × Int) : Int × Int := (q.2, q.1)
def LInv (C T : Addr) (Tb : Tbs) (p : Pl) (zs : List Str) (a : Addr) (n1 n2 : Int) (σ' : List (Option V)) (H' : Hp) : Prop :=
  ∃ (kd1 kd2 : Addr) (c1 c2 : Ck) (nm : NmL) (x5 x6 x7 x8 x12 x13 x14 : Option V), LW C T Tb p zs H' kd1 kd2 c1 c2 nm (nm.map swp) (c1.opn.map (·.1)) ∧ Rel c1 c2 nm n1 n2 ∧
    σ' = [some (.ref a), some (.ref p.hd), some (.ref p.l), some (.ref p.nd), some (.ref p.ol), x5, x6, x7, x8, some (.ref p.md), some (.ref p.a1), some (.ref p.a2), x12, x13, x14]
theorem Rel.start : Rel ⟨0, 0, [], []⟩ ⟨0, 0, [], []⟩ [] 0 0 := ⟨rfl, ⟨by decide, by decide⟩, ⟨by decide, by decide⟩, .nil, fun p hp => (by cases hp), rfl, fun p hp => (by cases hp), .nil, fun p hp => (by cases hp), rfl, fun p hp => (by cases hp), .nil, fun p hp => (by cases hp), fun p hp => (by cases hp)⟩
theorem Rel.weak {c1 c2 : Ck} {nm : NmL} {n1 n2 m1 m2 : Int} (R : Rel c1 c2 nm n1 n2) (h1 : n1 ≤ m1) (h2 : n2 ≤ m2) : Rel c1 c2 nm m1 m2 :=
  ⟨R.last, ⟨R.nx1.1, by have := R.nx1.2; omega⟩, ⟨R.nx2.1, by have := R.nx2.2; omega⟩, R.nmUp, R.nmB, R.opn, R.opnK, R.opnUp, R.ss, R.kn, R.knK, R.knUp, R.dis, R.clo⟩
theorem two_ways {G P0 : Hp → Prop} {Pr : Prop} (h : (∀ H, P0 H → G H) → Pr) (g : ∀ H, P0 H → G H) : Pr := h g
section
variable {P : Program} {w : World} {K : PySem.W.Frag} {mg : Str → Option Value} {base : Heap}
theorem ok_law {f fH fK fD fI fF fS fW fT fN fO fL fR fE fM cL pL RF C T : Addr} {fdH fdK fdD fdI fdF fdS fdW fdT fdN fdO fdL fdR fdE fdM : FuncData} {Tb : Tbs} {oc : Value} {od an : Option Addr} {kV doc pm ct : Value} {osl : Array (Option Value)}
    (lk : K.lookup f = some ⟨oc, od, .func (PySem.W.fnOf "law" "law" (defArgs sLaw) (defBody sLaw) (defScope sLaw) .none kV doc pm an (.ref cL) ct), osl⟩) (hcd : PySem.W.codeIn K (.ref cL) "law" = true)
    (B : Bi mg) (CT : CkTx K C) (CR : CatchR K mg RF) (TB : LamX.TabB base mg cL pL) (hmT : (pL, qL) ∈ Tb) (hu : ∀ p ∈ Tb, p.1 = pL → p.2 = qL)
    (DH : Def P w K mg base CX0 1 "_law_hand" fH fdH ["_law_script"] (spHand K)) (DK : Def P w K mg base CX0 1 "_law_keys" fK fdK [] spLKeys) (DD : Def P w K mg base CX0 1 "_law_draw" fD fdD ["_law_hand_here", "_law_many"] spDraw)
    (gC : mg "Check" = some (.ref C)) (MC : Mk K C fI) (GC : FnOk P w K mg base CX0 2 fI fdI ["self", "last"] (spCkInit C T)) (bC : Binds K fdI ["self", "last"] [])
    (DF : Def P w K mg base CX0 10 "_law_further" fF fdF ["_law_hand_here", "_law_check", "_law_keys_here", "_law_last"] (spFurther C T Tb))
    (DS : Def P w K mg base CX0 4 "_law_seen" fS fdS ["_law_hand_here", "_law_keys_here"] spLSeen) (DW : Def P w K mg base CX0 3 "_law_writes" fW fdW ["_law_hand_here", "_law_keys_here", "_law_most"] spLWrites)
    (FT : Fun K "_law_told" "_law_told" sTold fT fdT) (gT : mg "_law_told" = some (.ref fT)) (bT : Binds K fdT ["_law_call"] [])
    (DN : Def P w K mg base CX0 1 "_law_common" fN fdN ["_law_names", "_law_told_here"] spCommon)
    (DO : MDef P w K mg base CX0 3 C "opens" fO fdO ["self", "snapshot"] (spOpens C T)) (DL : MDef P w K mg base CX0 1 C "last" fL fdL ["self"] (spLast C T)) (DR : MDef P w K mg base CX0 1 C "remembered" fR fdR ["self"] (spRem C T)) (DE : MDef P w K mg base CX0 1 C "open_entries" fE fdE ["self"] (spOes C T))
    (DM : MDef P w K mg base (L2.CX P w) 8 C "commits" fM fdM ["self", "entry", "keys", "ranges", "writes"] (spCommits C T RF)) :
    FnOk P w K mg base CX0 12 f (PySem.W.fnOf "law" "law" (defArgs sLaw) (defBody sLaw) (defScope sLaw) .none kV doc pm an (.ref cL) ct) ["_law_script"] (spLaw K Tb) := by
  refine fn_okC lk hcd scLaw (fun vs H Q E h => ?_) (fun A outer s H vs Q E hr h => ?_)
  · obtain ⟨a, ns, rfl, _⟩ := h
    rfl
  · obtain ⟨a, ns, rfl, ha, hT, k⟩ := h
    obtain ⟨oc2, od2, kV2, doc2, pm2, an2, cdv2, ct2, osl2, rfl, lk2, hcd2⟩ := FT.ex
    refine ⟨_, pss_cons (ps_set (i := 1) scLaw.nd rfl (Or.inl rfl) (pe_call DH.ok (hr.mono (by decide)) (by rfl) DH.gl DH.kp DH.bd .nil pass0 (pa_cons (pv 0) pa_nil)))
      (pss_cons (ps_set (i := 2) scLaw.nd rfl (Or.inl rfl) (pe_slice sl_list (pe_call0 DK.ok (hr.mono (by decide)) (by rfl) DK.gl DK.kp DK.bd .nil pass0) po_none (po_some (pe_op op_add pe_int (pe_call DD.ok (hr.mono (by decide)) (by rfl) DD.gl DD.kp DD.bd .nil pass0 (pa_cons (pv 1) (pa_cons pe_int pa_nil)))))))
      (pss_cons (ps_asg (pe_tup (pa_cons (pe_make MC GC (hr.mono (by decide)) (by rfl) gC bC .nil pass0 (pa_cons pe_int pa_nil)) (pa_cons (pe_make MC GC (hr.mono (by decide)) (by rfl) gC bC .nil pass0 (pa_cons pe_int pa_nil)) (pa_cons pe_dnewK (pa_cons (pe_lst pa_nil) pa_nil)))))
        (pg_tup rfl (pgs_cons (pg_name (i := 10) scLaw.nd rfl (Or.inr rfl)) (pgs_cons (pg_name (i := 11) scLaw.nd rfl (Or.inr rfl)) (pgs_cons (pg_name (i := 3) scLaw.nd rfl (Or.inr rfl)) (pgs_cons (pg_name (i := 4) scLaw.nd rfl (Or.inl rfl)) pgs_nil))))))
      (pss_cons (ps_set (i := 9) scLaw.nd rfl (Or.inr rfl) pe_dnewK)
      (pss_cons (ps_for PassesOwn.never rfl (pi_range1 rfl B.range (pa_cons (pe_op op_add pe_int (pe_call DD.ok (hr.mono (by decide)) (by rfl) DD.gl DD.kp DD.bd .nil pass0 (pa_cons (pv 1) (pa_cons pe_int pa_nil)))) pa_nil)) (pg_name (i := 5) scLaw.nd rfl (Or.inl rfl))
        (pss_mid (ps_if (PW.pt (pw_and (pt_cmpR op_eq (pe_call DD.ok (hr.mono (by decide)) (by rfl) DD.gl DD.kp DD.bd .nil pass0 (pa_cons (pv 1) (pa_cons pe_int pa_nil))) pe_int (nomark _))
            (pw_and1 (pt_not (pt_val (pe_call DF.ok (hr.mono (by decide)) (by rfl) DF.gl DF.kp DF.bd .nil pass0 (pa_cons (pv 1) (pa_cons (pv 11) (pa_cons (pv 2) (pa_cons (pe_meth0 (pv 10) CT.cl DL.mt DL.ok (hr.mono (by decide)) DL.bd .nil pass0) pa_nil)))))))))) (pss_one (ps_ret pe_bl)) pss_nil)
        (pss_mid (ps_if (PW.pt (pw_or (pt_cmpR op_eq (pe_callB call_len (by rfl) B.len (by decide +kernel) (pa_cons (pv 4) pa_nil)) pe_int (nomark _)) (pw_or1 (pt_cmpR op_eq (pe_call DD.ok (hr.mono (by decide)) (by rfl) DD.gl DD.kp DD.bd .nil pass0 (pa_cons (pv 1) (pa_cons pe_int pa_nil))) pe_int (nomark _)))))
          (pss_cons (ps_set (i := 8) scLaw.nd rfl (Or.inr rfl) (pe_meth (pv 10) CT.cl DO.mt DO.ok (hr.mono (by decide)) DO.bd .nil pass0 (pa_cons (pe_meth0 (pv 10) CT.cl DL.mt DL.ok (hr.mono (by decide)) DL.bd .nil pass0) pa_nil)))
          (pss_cons (ps_dput (hu_of hr) (pv 3) (pe_meth (pv 11) CT.cl DO.mt DO.ok (hr.mono (by decide)) DO.bd .nil pass0 (pa_cons (pe_meth0 (pv 11) CT.cl DL.mt DL.ok (hr.mono (by decide)) DL.bd .nil pass0) pa_nil)) (pv 8) rfl)
          (pss_cons (ps_dput (hu_of hr) (pv 9) (pv 8) (pe_callB (cr_maxK rfl) (by rfl) B.max (by decide +kernel) (pa_cons (pv 3) pa_nil)) rfl)
          (pss_one (ps_expr (pe_bm PySem.F.plainAttrs_list PySem.F.slot_list_append PySem.F.type_list_append mt_append (pv 4) (pa_cons (pv 8) pa_nil)))))))
          (pss_cons (ps_set (i := 8) scLaw.nd rfl (Or.inr rfl) (pe_ix ix_list (pv 4) (pe_call DD.ok (hr.mono (by decide)) (by rfl) DD.gl DD.kp DD.bd .nil pass0 (pa_cons (pv 1) (pa_cons (pe_callB call_len (by rfl) B.len (by decide +kernel) (pa_cons (pv 4) pa_nil)) pa_nil))) (fun _ _ => rfl)))
          (pss_cons (ps_asg (pe_call DS.ok (hr.mono (by decide)) (by rfl) DS.gl DS.kp DS.bd .nil pass0 (pa_cons (pv 1) (pa_cons (pv 2) pa_nil))) (pg_tup rfl (pgs_cons (pg_name (i := 13) scLaw.nd rfl (Or.inr rfl)) (pgs_cons (pg_name (i := 12) scLaw.nd rfl (Or.inr rfl)) pgs_nil))))
          (pss_cons (ps_set (i := 14) scLaw.nd rfl (Or.inr rfl) (pe_call DW.ok (hr.mono (by decide)) (by rfl) DW.gl DW.kp DW.bd .nil pass0 (pa_cons (pv 1) (pa_cons (pv 2) (pa_cons pe_int pa_nil)))))
          (pss_mid (ps_set (i := 6) scLaw.nd rfl (Or.inl rfl) (LamX.pe_lamcall (T := Tb) (TT := TTd RF) (k := 8) (by rfl) gT FT.kp lk2 hcd2 bT scTold rfl (Or.inl rfl) (told_gives CR) TB rfl hmT hu (hr.mono (by decide)) (LamX.lamS_by (by show LamX.lamSB (defScope sLaw) _ = true; decide +kernel)) rfl (fun _ _ _ _ _ => rfl)
            (fun A outer s H E f c' hr2 => pe_meth (pv 10) CT.cl DM.mt DM.ok hr2 DM.bd .nil (passes_call (takes_of rfl rfl rfl rfl) (fun _ _ _ _ h => h)) (pa_cons (pv 8) (pa_cons (pv 13) (pa_cons (pv 12) (pa_cons (pv 14) pa_nil)))))))
          (pss_mid (ps_set (i := 7) scLaw.nd rfl (Or.inl rfl) (LamX.pe_lamcall (T := Tb) (TT := TTd RF) (k := 8) (by rfl) gT FT.kp lk2 hcd2 bT scTold rfl (Or.inl rfl) (told_gives CR) TB rfl hmT hu (hr.mono (by decide)) (LamX.lamS_by (by show LamX.lamSB (defScope sLaw) _ = true; decide +kernel)) rfl (fun _ _ _ _ _ => rfl)
            (fun A outer s H E f c' hr2 => pe_meth (pv 11) CT.cl DM.mt DM.ok hr2 DM.bd .nil (passes_call (takes_of rfl rfl rfl rfl) (fun _ _ _ _ h => h)) (pa_cons (pe_dget (hu_of hr2) (pv 9) (pv 8) (fun _ _ => rfl)) (pa_cons (pv 13) (pa_cons (pv 12) (pa_cons (pv 14) pa_nil)))))))
          (pss_cons (ps_if (pt_cmpR (op_neD hr.units) (pe_call DN.ok (hr.mono (by decide)) (by rfl) DN.gl DN.kp DN.bd .nil pass0 (pa_cons (pv 3) (pa_cons (pv 7) pa_nil))) (pv 6) (nomark _)) (pss_one (ps_ret pe_bl)) pss_nil)
          (pss_one (ps_if (pt_cmpR op_eq (pe_ix ix_tup (pv 6) pe_int (fun _ _ => rfl)) pe_str (nomark _)) (pss_one (ps_expr (pe_bm PySem.F.plainAttrs_list PySem.F.slot_list_remove PySem.F.type_list_remove mt_remove (pv 4) (pa_cons (pv 8) pa_nil)))) pss_nil)))))))))
        (pss_mid (ps_if (PW.pt (pw_or (pt_cmpR op_ne (pe_meth0 (pv 10) CT.cl DL.mt DL.ok (hr.mono (by decide)) DL.bd .nil pass0) (pe_meth0 (pv 11) CT.cl DL.mt DL.ok (hr.mono (by decide)) DL.bd .nil pass0) (nomark _))
            (pw_or1 (pt_cmpR (op_neD hr.units) (pe_meth0 (pv 10) CT.cl DR.mt DR.ok (hr.mono (by decide)) DR.bd .nil pass0) (pe_callTy call_tuple_of (by rfl) B.tuple (by decide +kernel) (pa_cons (pe_lc (own := [("_law_entry", 8)]) (g := gName 8) rfl scLaw.nd (pi_tup (pe_meth0 (pv 11) CT.cl DR.mt DR.ok (hr.mono (by decide)) DR.bd .nil pass0))
              (blkOk_by (own := [("_law_entry", 8)]) (N := nLaw) (sc := defScope sLaw) (by decide +kernel)) (fun _ _ _ _ _ => pg_name (i := 8) scLaw.nd rfl (Or.inl rfl)) (fun _ _ _ _ _ => pts_nil) (fun _ _ _ _ _ => pe_dget1 (hu_of hr) (pv 3) (pv 8) ⟨rfl, rfl, rfl, rfl⟩)) pa_nil)) (nomark _))))) (pss_one (ps_ret pe_bl)) pss_nil)
        (pss_one (ps_if (pt_cmpR (op_neD hr.units) (pe_meth0 (pv 10) CT.cl DE.mt DE.ok (hr.mono (by decide)) DE.bd .nil pass0) (pe_callTy call_tuple_of (by rfl) B.tuple (by decide +kernel) (pa_cons (pe_lc (own := [("_law_entry", 8)]) (g := gName 8) rfl scLaw.nd (pi_tup (pe_meth0 (pv 11) CT.cl DE.mt DE.ok (hr.mono (by decide)) DE.bd .nil pass0))
              (blkOk_by (own := [("_law_entry", 8)]) (N := nLaw) (sc := defScope sLaw) (by decide +kernel)) (fun _ _ _ _ _ => pg_name (i := 8) scLaw.nd rfl (Or.inl rfl)) (fun _ _ _ _ _ => pts_nil) (fun _ _ _ _ _ => pe_dget1 (hu_of hr) (pv 3) (pv 8) ⟨rfl, rfl, rfl, rfl⟩)) pa_nil)) (nomark _)) (pss_one (ps_ret pe_bl)) pss_nil))))))
      (pss_one (ps_ret pe_bl)))))), ?_⟩
    refine ⟨_, rfl, a, ns, rfl, ha, fun hd cl H1 s1 nhd ncl hh1 => ?_⟩
    refine ⟨rfl, fun q H2 s2 hq hk2 => ?_⟩
    have hh2 := hh1.same s2
    refine ⟨_, rfl, hd, cl, 4, rfl, hh2, by decide, by decide, fun d H3 hd0 hd1 s3 hh3 => ?_⟩
    have nqh : q ≠ hd := hh1.fresh hq
    have hk3 := s3 _ _ (fun z => nqh (List.mem_singleton.mp z)) hk2
    refine ⟨_, _, rfl, rfl, 2 + d, rfl, q, _, rfl, SqL.of hk3, fun l hl => ?_⟩
    have hcut : cutV (six.map V.str) none (some (2 + d)) = (six.take (2 + d).toNat).map V.str := by
      have c : d = 0 ∨ d = 1 ∨ d = 2 ∨ d = 3 := by omega
      rcases c with rfl | rfl | rfl | rfl <;> rfl
    rw [hcut]
    have hzl : 0 < (six.take (2 + d).toNat).length ∧ (six.take (2 + d).toNat).length ≤ 6 := by
      rw [List.length_take]; show 0 < min _ 6 ∧ min _ 6 ≤ 6; omega
    have hzs : ∀ z ∈ six.take (2 + d).toNat, Six z := fun z hz => List.mem_of_mem_take hz
    generalize six.take (2 + d).toNat = zs at hzl hzs
    have s4 := snew (o := .lst (zs.map V.str)) hl
    have hk4 : KeysAt (upd H3 l (.lst (zs.map V.str))) l zs := ⟨upd_same, hzl.1, hzl.2, hzs⟩
    have hh4 := hh3.same s4
    have m1 : ∀ b ∈ [hd], Mb H2 b := fun b hb => by rw [List.mem_singleton.mp hb]; exact hh2.mb
    have hT4 := tabs_same (tabs_sb (tabs_same (tabs_same hT s1) s2) s3 m1) s4
    generalize upd H3 l (.lst (zs.map V.str)) = H4 at hk4 hh4 hT4
    refine fun a1 dx1 na1 nx1 nxa1 => ⟨a1, dx1, 0, rfl, by decide, upd_same, fun od1 kd1 H5 fr1 hod1 hkd1 ck1 => ⟨rfl, ?_⟩⟩
    have s5 : Same H4 H5 := fun b o e => fr1 b o (ne_of_none e na1) (by rw [upd_ne (ne_of_none e na1), upd_ne (ne_of_none e nx1)]; exact e)
    refine fun a2 dx2 na2 nx2 nxa2 => ⟨a2, dx2, 0, rfl, by decide, upd_same, fun od2 kd2 H6 fr2 hod2 hkd2 ck2 => ⟨rfl, ?_⟩⟩
    have s6 : Same H5 H6 := fun b o e => fr2 b o (ne_of_none e na2) (by rw [upd_ne (ne_of_none e na2), upd_ne (ne_of_none e nx2)]; exact e)
    have low2 : ∀ {b : Addr} {o : HO}, H5 b = some o → b ≠ od2 ∧ b ≠ kd2 := fun {b} {o} e => by
      have e2 : upd (upd H5 dx2 (.own a2)) a2 (.ins C dx2 []) b = some o := by rw [upd_ne (ne_of_none e na2), upd_ne (ne_of_none e nx2)]; exact e
      exact ⟨ne_of_none e2 hod2, ne_of_none e2 hkd2⟩
    obtain ⟨da1, ga1⟩ := ck1.ob
    have a12 : a1 ≠ a2 := ne_of_none ga1 na2
    have ck1' := ck1.same s6
    refine fun nd hnd => ⟨Nat.zero_le _, fun ol hol => ?_⟩
    have s7 := snew (o := .dK []) hnd
    have s8 := snew (o := .lst []) hol
    have hnd7 : upd H6 nd (.dK []) nd = some (.dK []) := upd_same
    have hol8 : upd (upd H6 nd (.dK [])) ol (.lst []) ol = some (.lst []) := upd_same
    have hnd8 := s8 _ _ hnd7
    have s48 := (s5.trans s6).trans (s7.trans s8)
    have q1 := ne_of_none ck1'.opn hnd
    have q2 := ne_of_none ck1'.kn.at_ hnd
    have q3 := ne_of_none ck2.opn hnd
    have q4 := ne_of_none ck2.kn.at_ hnd
    have ck1'' := ck1'.same (s7.trans s8)
    have ck2'' := ck2.same (s7.trans s8)
    have hclol : ol ≠ cl := fun z => by
      obtain ⟨_, ⟨cs, c1, _⟩, _⟩ := (hh4.same ((s5.trans s6).trans s7))
      rw [← z, hol] at c1; cases c1
    generalize upd (upd H6 nd (.dK [])) ol (.lst []) = H8 at hol8 hnd8 s48 ck1'' ck2''
    refine ⟨(by show 4 ≤ sizeLine; exact Nat.le_trans (by decide) (Nat.le_of_lt line_big)), fun tp htp => ?_⟩
    have s9 := snew (o := .tup [.ref a1, .ref a2, .ref nd, .ref ol]) htp
    refine ⟨tp, _, rfl, SqT.of upd_same, rfl, _, _, rfl, _, _, rfl, _, _, rfl, _, _, rfl, rfl, ?_⟩
    have hnd9 := s9 _ _ hnd8
    have hol9 := s9 _ _ hol8
    have ck1q := ck1''.same s9
    have ck2q := ck2''.same s9
    have s49 := s48.trans s9
    generalize upd H8 tp (.tup [.ref a1, .ref a2, .ref nd, .ref ol]) = H9 at hnd9 hol9 ck1q ck2q s49
    intro md hmd
    have s10 := snew (o := .dK []) hmd
    have W0 : LW C T Tb ⟨hd, cl, l, a1, od1, a2, od2, nd, md, ol⟩ zs (upd H9 md (.dK [])) kd1 kd2 ⟨0, 0, [], []⟩ ⟨0, 0, [], []⟩ [] [] [] := by
      refine ⟨hh4.same (s49.trans s10), (hk4.sb (L := []) (Sb.of (s49.trans s10)) (by simp)), ck1q.same s10, ck2q.same s10, s10 _ _ hnd9, upd_same, s10 _ _ hol9, tabs_same hT4 (s49.trans s10), a12, ?_, hclol⟩
      have p1 := low2 ck1.opn
      have p2 := low2 ck1.kn.at_
      have r1 := ne_of_none ck1q.opn hmd
      have r2 := ne_of_none ck1q.kn.at_ hmd
      have r3 := ne_of_none ck2q.opn hmd
      have r4 := ne_of_none ck2q.kn.at_ hmd
      have r5 := ne_of_none hnd9 hmd
      simp only [List.nodup_cons, List.mem_cons, List.not_mem_nil, or_false, not_or, List.nodup_nil, and_true, not_false_eq_true]
      exact ⟨⟨ck1.ne, p1.1, p1.2, q1, r1⟩, ⟨p2.1, p2.2, q2, r2⟩, ⟨ck2.ne, q3, r3⟩, ⟨q4, r4⟩, r5⟩
    generalize upd H9 md (.dK []) = H10 at W0
    have hh10 := W0.hand
    refine ⟨_, rfl, hd, cl, 20, rfl, hh10, by decide, by decide, fun nt H11 ht0 ht1 s11 hh11 => ?_⟩
    have W1 := W0.ofHand s11 hh11
    refine ⟨_, _, rfl, rfl, 10 + nt, rfl, by omega, by omega, ?_⟩
    have hN : (10 + nt).toNat ≤ 29 := by omega
    have start' : LInv C T Tb ⟨hd, cl, l, a1, od1, a2, od2, nd, md, ol⟩ zs a ((0 : Nat) : Int) (2 * ((0 : Nat) : Int)) [some (.ref a), some (.ref hd), some (.ref l), some (.ref nd), some (.ref ol), none, none, none, none, some (.ref md), some (.ref a1), some (.ref a2), none, none, none] H11 := ⟨kd1, kd2, _, _, [], _, _, _, _, _, _, _, W1, Rel.start, rfl⟩
    obtain ⟨p, hp⟩ : ∃ p : Pl, p = ⟨hd, cl, l, a1, od1, a2, od2, nd, md, ol⟩ := ⟨_, rfl⟩
    rw [← hp] at start'
    refine for_range (lo := 0) (n := (10 + nt).toNat) (fun i σ' H' => LInv C T Tb p zs a i (2 * i) σ' H') start' ?_ ?_
    · rintro i σ' H hi ⟨kd1, kd2, c1, c2, nm, x5, x6, x7, x8, x12, x13, x14, W, R, rfl⟩
      clear W1 W0 start' hp s11 hh11 hh10 hol9 hnd9 ck1q ck2q s49
      have hi29 : (i : Int) ≤ 28 := by omega
      refine ⟨fun σ' H' => LInv C T Tb p zs a i (2 * i + 1) σ' H', ?_, ?_⟩
      · refine ⟨_, rfl, p.hd, p.cl, 3, rfl, W.hand, by decide, by decide, fun d H3 hd0 hd1 s3 hh3 => ?_⟩
        have W3 := W.ofHand s3 hh3
        refine ⟨rfl, _, rfl, ?_⟩
        cases e1 : decide (V.int d = V.int 0) with
        | false => exact iteF ⟨kd1, kd2, c1, c2, nm, _, _, _, _, _, _, _, W3, R.weak (Int.le_refl _) (by omega), rfl⟩
        | true =>
          obtain ⟨dx1, g1⟩ := W3.k1.ob
          have hb2 := R.b2 (by omega)
          have hol2 := R.opnLen
          have hnx := R.nx2
          refine iteT ⟨_, rfl, _, rfl, _, rfl, _, rfl, p.a1, dx1, _, rfl, g1, rfl, p.a1, p.od1, kd1, c1, rfl, W3.k1, ?_⟩
          refine ⟨p.hd, p.cl, p.a2, p.od2, kd2, p.l, c2, zs, by rw [R.last]; rfl, W3.hand, W3.k2, hb2, W3.keys, fun z => ?_, fun z => ?_, ⟨hnx.1, ?_⟩, by omega, W3.tabs, fun kd' H4 kn' ex4 hT4 hh4 fr4 ck4 kept => ?_⟩
          · obtain ⟨q, hq, e⟩ := List.mem_map.mp z
            have := R.keyB (R.opnK q hq)
            omega
          · obtain ⟨q, hq, e⟩ := List.mem_map.mp z
            have := R.keyB (R.knK q hq)
            omega
          · show c2.next < 1000; omega
          · refine ⟨true, rfl, iteF ?_⟩
            exact ⟨kd1, kd', c1, _, nm, _, _, _, _, _, _, _, W3.ofTwo (ex4.mono (by simp)) hh4 hT4 ck4 (.inr fun b o no e => fr4 b o no e), R.further kept, rfl⟩
      · rintro σ' H2 ⟨kd1, kd2, c1, c2, nm, x5, x6, x7, x8, x12, x13, x14, W, R, rfl⟩
        clear hi
        have hnk := R.nmLen
        have hop := R.opnLen
        have big : (1000 : Nat) < sizeLine := Nat.lt_trans (by decide) line_big
        refine ⟨fun σ' H' => LInv C T Tb p zs a ((i + 1 : Nat) : Int) (2 * ((i + 1 : Nat) : Int)) σ' H', ?_, ?_⟩
        · apply two_ways (P0 := fun H' => LW C T Tb p zs H' kd1 kd2 c1 c2 nm (nm.map swp) (c1.opn.map (·.1)))
          case h =>
            intro hopen
            refine ⟨_, rfl, _, c1.opn.length, rfl, .inl ⟨_, SqL.of W.opened, by rw [List.length_map, List.length_map]⟩, rfl, _, rfl, ?_⟩
            cases e1 : decide (V.int c1.opn.length = V.int 0) with
            | true => exact iteT (iteT (hopen H2 W))
            | false =>
              refine iteF ⟨_, rfl, p.hd, p.cl, 2, rfl, W.hand, by decide, by decide, fun d H3 hd0 hd1 s3 hh3 => ?_⟩
              have W3 := W.ofHand s3 hh3
              refine ⟨rfl, _, rfl, ?_⟩
              cases e2 : decide (V.int d = V.int 0) with
              | true => exact iteT (hopen H3 W3)
              | false =>
                refine iteF ?_
                have hne : c1.opn.length ≠ 0 := fun z => by
                  rw [z] at e1
                  exact absurd e1 (by decide)
                refine ⟨_, rfl, _, rfl, _, rfl, _, c1.opn.length, rfl, .inl ⟨_, SqL.of W3.opened, by rw [List.length_map, List.length_map]⟩, p.hd, p.cl, (c1.opn.length : Int), rfl, W3.hand, by omega, by omega, fun d2 H4 hd20 hd21 s4 hh4 => ?_⟩
                have W4 := W3.ofHand s4 hh4
                obtain ⟨j, rfl⟩ := Int.eq_ofNat_of_zero_le hd20
                have hlen : c1.opn.length = c2.opn.length := by rw [R.opn, List.length_map]
                have hj2 : j < c2.opn.length := by omega
                obtain ⟨e2', snap, hes⟩ : ∃ e s, c2.opn[j]? = some (e, s) := ⟨c2.opn[j].1, c2.opn[j].2, by rw [List.getElem?_eq_getElem hj2]⟩
                have hin2 : (e2', snap) ∈ c2.opn := List.mem_of_getElem? hes
                have hes1 : c1.opn[j]? = some (nmGet nm e2', snap) := by rw [R.opn, List.getElem?_map, hes]; rfl
                have hin1 : (nmGet nm e2', snap) ∈ c1.opn := List.mem_of_getElem? hes1
                have hkey : e2' ∈ keysN nm := R.opnK _ hin2
                have hmem : (e2', nmGet nm e2') ∈ nm := by
                  obtain ⟨q, hq, e⟩ := List.mem_map.mp hkey
                  obtain ⟨u, v⟩ := q
                  simp only at e
                  subst e
                  rw [nmGet_in (nm_nd R.nmUp) hq]
                  exact hq
                have hmnd : ((nm.map swp).map (·.1)).Nodup := by
                  rw [List.map_map]
                  exact nd_of_up (List.pairwise_map.mpr (R.nmUp.imp fun h => h.2))
                have hmin : (nmGet nm e2', e2') ∈ nm.map swp := List.mem_map.mpr ⟨_, hmem, rfl⟩
                have hj1 : (c1.opn.map (·.1))[j]? = some (nmGet nm e2') := by rw [List.getElem?_map, hes1]; rfl
                refine ⟨p.ol, _, j, .int (nmGet nm e2'), rfl, rfl, SqL.of W4.opened, atI_nat (by rw [List.getElem?_map, hj1]; rfl), ?_⟩
                refine ⟨_, rfl, _, rfl, p.hd, p.cl, p.l, zs, rfl, W4.hand, W4.keys, fun q ka ra asked spans xs H5 s5 hh5 hq hka hup hra hxs hsl hsw hsu => ?_⟩
                refine ⟨q, _, rfl, SqT.of hq, rfl, _, _, rfl, _, _, rfl, rfl, ?_⟩
                have W5 := W4.ofHand s5 hh5
                refine ⟨_, rfl, _, rfl, p.hd, p.cl, p.l, zs, 2, rfl, W5.hand, W5.keys, by decide, by decide, fun wr ws wrote H6 s6 hh6 hwr hws hwu => ?_⟩
                have W6 := W5.ofHand s6 hh6
                have mb5 : ∀ b ∈ [p.hd], Mb H5 b := fun b hb => by rw [List.mem_singleton.mp hb]; exact hh5.mb
                have hka6 := s6 _ _ (fun z => (hh5.ne_of hka (fun xs z => by cases z)) (List.mem_singleton.mp z)) hka
                have hra6 := s6 _ _ (fun z => (hh5.ne_of hra (fun xs z => by cases z)) (List.mem_singleton.mp z)) hra
                have hA : ArgsAt H6 ka ra wr asked spans wrote := ⟨hka6, ⟨by have := hup.few; omega, fun z hz => six_key z (hup.six z hz), hup.up⟩, ⟨xs, hra6, hxs.sb s6 mb5⟩, ⟨by omega, hsw, hsu⟩, ⟨ws, hwr, hws⟩, ⟨by have := hwu.few; omega, fun z hz => six_key z (hwu.six z hz), hwu.up⟩⟩
                have eT : mkTr c1 snap asked spans wrote = mkTr c2 snap asked spans wrote := by unfold mkTr; rw [R.last]
                have hrr := R.ring hin2 (mkTr c2 snap asked spans wrote)
                have hkn := R.knLen
                have hb1 := R.b1 (by omega)
                have hb2 := R.b2 (by omega)
                clear W3 W4 W5 W hka hra hq hwr hws hxs hka6 hra6
                cases hring : ckRing c2 e2' (mkTr c2 snap asked spans wrote) with
                | none =>
                  rw [hring] at hrr
                  have hrr1 : ckRing c1 (nmGet nm e2') (mkTr c2 snap asked spans wrote) = none := hrr
                  generalize hTT : mkTr c2 snap asked spans wrote = tt at eT hring hrr1
                  refine ⟨fun σ' H' => ∃ (t1 kd1' ta : Addr) (kn1' : KnL), σ' = [some (.ref a), some (.ref p.hd), some (.ref p.l), some (.ref p.nd), some (.ref p.ol), x5, some (.ref t1), x7, some (.int (nmGet nm e2')), some (.ref p.md), some (.ref p.a1), some (.ref p.a2), some (.ref ra), some (.ref ka), some (.ref wr)] ∧
                    LW C T Tb p zs H' kd1' kd2 ⟨tt.count.getD c1.last, c1.next, dropO c1.opn (nmGet nm e2'), kn1'⟩ c2 nm (nm.map swp) (c1.opn.map (·.1)) ∧ ArgsAt H' ka ra wr asked spans wrote ∧
                    KeptOf (c1.kn ++ [(nmGet nm e2', ta, tt)]) ((dropO c1.opn (nmGet nm e2')).map (·.2)) kn1' ∧ H' t1 = some (.tup [.str "told", cV tt.count]), ⟨W6.tabs, fun H7 e7 hT7 H8 s8 => ?_⟩, ?_⟩
                  · have W8 := (W6.ofEx (Ex.ofN e7) hT7).same s8
                    have e68 : Ex [] H6 H8 := (Ex.ofN e7).trans (Sb.of s8).ex
                    have hA8 := hA.ex e68 (by simp)
                    obtain ⟨dx1, g1⟩ := W8.k1.ob
                    refine ⟨_, rfl, p.a1, dx1, _, rfl, g1, rfl, _, rfl, _, rfl, _, rfl, _, rfl, p.a1, p.od1, kd1, c1, nmGet nm e2', snap, ka, ra, wr, asked, spans, wrote, rfl, W8.k1, hb1, hin1, hA8, by omega, by omega, fun hrn ta kd1' H9 kn1' s9 hkd9 ck9 kept t1 ht1 => ?_, fun row hrow => absurd hrow (by rw [eT, hrr1]; intro z; cases z)⟩
                    have m9 : ∀ b ∈ [p.a1, p.od1, kd1], Mb H8 b := fun b hb => by
                      simp only [List.mem_cons, List.not_mem_nil, or_false] at hb
                      rcases hb with z | z | z <;> rw [z]
                      · exact W8.k1.mb.1
                      · exact W8.k1.mb.2.1
                      · exact W8.k1.mb.2.2
                    have hA9 := hA8.sb s9 m9
                    rw [eT] at ck9 kept
                    have W9 := W8.ofOne s9 ck9 (.inr hkd9)
                    have st := snew (o := .tup [.str "told", cV tt.count]) ht1
                    rw [eT]
                    exact ⟨t1, kd1', ta, kn1', rfl, W9.same st, hA9.same st, kept, upd_same⟩
                  · rintro σ' H7 ⟨t1, kd1', ta, kn1', rfl, W7, hA7, kept1, ht1⟩
                    refine ⟨fun σ' H' => ∃ (t2 kd2' tb : Addr) (kn2' : KnL), σ' = [some (.ref a), some (.ref p.hd), some (.ref p.l), some (.ref p.nd), some (.ref p.ol), x5, some (.ref t1), some (.ref t2), some (.int (nmGet nm e2')), some (.ref p.md), some (.ref p.a1), some (.ref p.a2), some (.ref ra), some (.ref ka), some (.ref wr)] ∧
                      LW C T Tb p zs H' kd1' kd2' ⟨tt.count.getD c1.last, c1.next, dropO c1.opn (nmGet nm e2'), kn1'⟩ ⟨tt.count.getD c2.last, c2.next, dropO c2.opn e2', kn2'⟩ nm (nm.map swp) (c1.opn.map (·.1)) ∧
                      KeptOf (c2.kn ++ [(e2', tb, tt)]) ((dropO c2.opn e2').map (·.2)) kn2' ∧ H' t1 = some (.tup [.str "told", cV tt.count]) ∧ H' t2 = some (.tup [.str "told", cV tt.count]), ⟨W7.tabs, fun H8 e8 hT8 H9 s9 => ?_⟩, ?_⟩
                    · have W9 := (W7.ofEx (Ex.ofN e8) hT8).same s9
                      have e79 : Ex [] H7 H9 := (Ex.ofN e8).trans (Sb.of s9).ex
                      have hA9 := hA7.ex e79 (by simp)
                      have ht19 := e79 _ _ (by simp) (fun ps z => by cases z) ht1
                      obtain ⟨dx2, g2⟩ := W9.k2.ob
                      refine ⟨_, rfl, p.a2, dx2, _, rfl, g2, rfl, _, rfl, _, rfl, p.md, _, rfl, opn_get W9.mine hmnd hmin, _, rfl, _, rfl, _, rfl, p.a2, p.od2, kd2, c2, e2', snap, ka, ra, wr, asked, spans, wrote, rfl, W9.k2, hb2, hin2, hA9, by omega, by omega, fun hrn tb kd2' H10 kn2' s10 hkd10 ck10 kept t2 ht2 => ?_, fun row hrow => absurd hrow (by rw [hTT, hring]; intro z; cases z)⟩
                      have m10 : ∀ b ∈ [p.a2, p.od2, kd2], Mb H9 b := fun b hb => by
                        simp only [List.mem_cons, List.not_mem_nil, or_false] at hb
                        rcases hb with z | z | z <;> rw [z]
                        · exact W9.k2.mb.1
                        · exact W9.k2.mb.2.1
                        · exact W9.k2.mb.2.2
                      have ht110 := s10 _ _ (fun z => (m10 _ z).noTup ht19) ht19
                      rw [hTT] at ck10 kept
                      have W10 := W9.ofTwoS s10 ck10 (.inr hkd10)
                      have st := snew (o := .tup [.str "told", cV tt.count]) ht2
                      rw [hTT]
                      exact ⟨t2, kd2', tb, kn2', rfl, W10.same st, kept, st _ _ ht110, upd_same⟩
                    · rintro σ' H8 ⟨t2, kd2', tb, kn2', rfl, W8, kept2, ht1', ht2'⟩
                      have R8 := R.commit (a1 := 0) (a2 := 0) (ad1 := ta) (ad2 := tb) (t := tt) (kn1' := kn1') (kn2' := kn2') (last' := tt.count.getD c2.last) hin2 (by
                        rw [← hTT]
                        show c2.last ≤ Option.getD (if wrote = [] then none else some (c2.last + 1)) c2.last
                        by_cases hw : wrote = []
                        · rw [if_pos hw]; exact Int.le_refl _
                        · rw [if_neg hw]; show c2.last ≤ c2.last + 1; omega) kept1 kept2
                      rw [R.last] at W8
                      refine ⟨_, rfl, _, rfl, p.nd, t2, nm, rfl, W8.names, nm_nd R.nmUp, .inl ⟨"told", _, ht2', by decide, ?_⟩⟩
                      refine ⟨_, rfl, _, _, told_dp ht2', told_dp ht1', told_shaped _, told_shaped _, ?_⟩
                      rw [self_ne (told_shaped _)]
                      refine ⟨_, rfl, iteF ?_⟩
                      refine ⟨_, rfl, t1, _, 0, _, rfl, rfl, SqT.of ht1', rfl, rfl, _, rfl, ?_⟩
                      show if decide (V.str "told" = V.str "told") = true then _ else _
                      rw [decide_eq_true (rfl : V.str "told" = V.str "told")]
                      refine iteT ?_
                      have nd1 : (c1.opn.map (·.1)).Nodup := nd_of_up R.opnUp1
                      refine ⟨_, rfl, .inl ⟨rfl, _, SqL.of W8.opened⟩, _, rfl, p.ol, c1.opn.map (·.1), nmGet nm e2', j, rfl, rfl, W8.opened, hj1, fun m hm z => ?_, ?_⟩
                      · obtain ⟨hmL, hme⟩ := List.getElem?_eq_some_iff.mp z
                        obtain ⟨hjL, hje⟩ := List.getElem?_eq_some_iff.mp hj1
                        have := List.pairwise_iff_getElem.mp R.opnUp1 m j hmL hjL hm
                        omega
                      · rw [erase_flt nd1 hj1]
                        have ed : (c1.opn.map (·.1)).filter (fun x => decide (x ≠ nmGet nm e2')) = (dropO c1.opn (nmGet nm e2')).map (·.1) := by
                          rw [List.filter_map]; rfl
                        rw [ed]
                        have W9 := W8.ofOpened ((dropO c1.opn (nmGet nm e2')).map (·.1))
                        exact ⟨kd1', kd2', _, _, nm, _, _, _, _, _, _, _, W9, R8.weak (by omega) (by omega), rfl⟩
                | some row =>
                  rw [hring] at hrr
                  have hrr1 : ckRing c1 (nmGet nm e2') (mkTr c2 snap asked spans wrote) = some (row.map (nmGet nm)) := hrr
                  have hrk := R.ringK hin2 hring (by omega)
                  refine ⟨fun σ' H' => ∃ (t1 pp : Addr), σ' = [some (.ref a), some (.ref p.hd), some (.ref p.l), some (.ref p.nd), some (.ref p.ol), x5, some (.ref t1), x7, some (.int (nmGet nm e2')), some (.ref p.md), some (.ref p.a1), some (.ref p.a2), some (.ref ra), some (.ref ka), some (.ref wr)] ∧
                    LW C T Tb p zs H' kd1 kd2 c1 c2 nm (nm.map swp) (c1.opn.map (·.1)) ∧ ArgsAt H' ka ra wr asked spans wrote ∧ H' t1 = some (.tup [.str "ring", .ref pp]) ∧ H' pp = some (.tup ((row.map (nmGet nm)).map V.int)), ⟨W6.tabs, fun H7 e7 hT7 H8 s8 => ?_⟩, ?_⟩
                  · have W8 := (W6.ofEx (Ex.ofN e7) hT7).same s8
                    have e68 : Ex [] H6 H8 := (Ex.ofN e7).trans (Sb.of s8).ex
                    have hA8 := hA.ex e68 (by simp)
                    obtain ⟨dx1, g1⟩ := W8.k1.ob
                    refine ⟨_, rfl, p.a1, dx1, _, rfl, g1, rfl, _, rfl, _, rfl, _, rfl, _, rfl, p.a1, p.od1, kd1, c1, nmGet nm e2', snap, ka, ra, wr, asked, spans, wrote, rfl, W8.k1, hb1, hin1, hA8, by omega, by omega, fun hrn => absurd hrn (by rw [eT, hrr1]; intro z; cases z), fun row1 hrow1 d p' H9 s9 hd9 hp9 => ⟨rfl, d, .ref p', rfl, hd9, fun H10 t1 s10 ht1 => ?_⟩⟩
                    have er : row1 = row.map (nmGet nm) := by
                      rw [eT, hrr1] at hrow1
                      exact (Option.some.inj hrow1).symm
                    subst er
                    have s810 := s9.trans s10
                    exact ⟨t1, p', rfl, W8.same s810, hA8.same s810, ht1, s10 _ _ hp9⟩
                  · rintro σ' H7 ⟨t1, pp, rfl, W7, hA7, ht1, hpp⟩
                    refine ⟨fun σ' H' => ∃ (t2 p2 : Addr), σ' = [some (.ref a), some (.ref p.hd), some (.ref p.l), some (.ref p.nd), some (.ref p.ol), x5, some (.ref t1), some (.ref t2), some (.int (nmGet nm e2')), some (.ref p.md), some (.ref p.a1), some (.ref p.a2), some (.ref ra), some (.ref ka), some (.ref wr)] ∧
                      LW C T Tb p zs H' kd1 kd2 c1 c2 nm (nm.map swp) (c1.opn.map (·.1)) ∧ H' t1 = some (.tup [.str "ring", .ref pp]) ∧ H' pp = some (.tup ((row.map (nmGet nm)).map V.int)) ∧ H' t2 = some (.tup [.str "ring", .ref p2]) ∧ H' p2 = some (.tup (row.map V.int)), ⟨W7.tabs, fun H8 e8 hT8 H9 s9 => ?_⟩, ?_⟩
                    · have W9 := (W7.ofEx (Ex.ofN e8) hT8).same s9
                      have e79 : Ex [] H7 H9 := (Ex.ofN e8).trans (Sb.of s9).ex
                      have hA9 := hA7.ex e79 (by simp)
                      have ht19 := e79 _ _ (by simp) (fun ps z => by cases z) ht1
                      have hpp9 := e79 _ _ (by simp) (fun ps z => by cases z) hpp
                      obtain ⟨dx2, g2⟩ := W9.k2.ob
                      refine ⟨_, rfl, p.a2, dx2, _, rfl, g2, rfl, _, rfl, _, rfl, p.md, _, rfl, opn_get W9.mine hmnd hmin, _, rfl, _, rfl, _, rfl, p.a2, p.od2, kd2, c2, e2', snap, ka, ra, wr, asked, spans, wrote, rfl, W9.k2, hb2, hin2, hA9, by omega, by omega, fun hrn => absurd hrn (by rw [hring]; intro z; cases z), fun row1 hrow1 d p' H10 s10 hd10 hp10 => ⟨rfl, d, .ref p', rfl, hd10, fun H11 t2 s11 ht2 => ?_⟩⟩
                      have er : row1 = row := by
                        rw [hring] at hrow1
                        exact (Option.some.inj hrow1).symm
                      subst er
                      have s911 := s10.trans s11
                      exact ⟨t2, p', rfl, W9.same s911, s911 _ _ ht19, s911 _ _ hpp9, ht2, s11 _ _ hp10⟩
                    · rintro σ' H8 ⟨t2, p2, rfl, W8, ht1', hpp', ht2', hp2'⟩
                      refine ⟨_, rfl, _, rfl, p.nd, t2, nm, rfl, W8.names, nm_nd R.nmUp, .inr ⟨p2, row, ht2', hp2', hrk.2, hrk.1, fun q p3 H9 s9 hq9 hp9 => ?_⟩⟩
                      have ht19 := s9 _ _ ht1'
                      have hpp9 := s9 _ _ hpp'
                      refine ⟨_, rfl, _, _, ring_dp hq9 hp9, ring_dp ht19 hpp9, ring_shaped _, ring_shaped _, ?_⟩
                      rw [self_ne (ring_shaped _)]
                      refine ⟨_, rfl, iteF ?_⟩
                      refine ⟨_, rfl, t1, _, 0, _, rfl, rfl, SqT.of ht19, rfl, rfl, _, rfl, ?_⟩
                      show if decide (V.str "ring" = V.str "told") = true then _ else _
                      rw [decide_eq_false (fun z => by injection z with z; exact absurd z (by decide))]
                      refine iteF ?_
                      exact ⟨kd1, kd2, c1, c2, nm, _, _, _, _, _, _, _, W8.same s9, R.weak (by omega) (by omega), rfl⟩
          case g =>
            clear W
            intro H3 W
            obtain ⟨dx1, g1⟩ := W.k1.ob
            have hn1 : c1.next ∉ c1.opn.map (·.1) := fun z => by
              rw [R.opn1] at z
              obtain ⟨q, hq, e⟩ := List.mem_map.mp z
              obtain ⟨q', hq', e'⟩ := List.mem_map.mp hq
              have := R.val (R.opnK q' hq')
              rw [e', e] at this
              omega
            have hn2 : c2.next ∉ c2.opn.map (·.1) := fun z => by
              obtain ⟨q, hq, e⟩ := List.mem_map.mp z
              have := R.keyB (R.opnK q hq)
              omega
            refine ⟨_, rfl, p.a1, dx1, _, rfl, g1, rfl, _, rfl, p.a1, dx1, _, rfl, g1, rfl, p.a1, p.od1, kd1, c1, rfl, W.k1, p.a1, p.od1, kd1, c1, rfl, W.k1, hn1, by omega, fun H4 s4 ck4 => ?_⟩
            have W4 := W.ofOne (s4.mono (by simp)) ck4 (.inl rfl)
            obtain ⟨dx2, g2⟩ := W4.k2.ob
            refine ⟨_, rfl, _, rfl, _, rfl, p.a2, dx2, _, rfl, g2, rfl, _, rfl, p.a2, dx2, _, rfl, g2, rfl, p.a2, p.od2, kd2, c2, rfl, W4.k2, p.a2, p.od2, kd2, c2, rfl, W4.k2, hn2, by omega, fun H5 s5 ck5 => ?_⟩
            have W5 := W4.ofTwoS (s5.mono (by simp)) ck5 (.inl rfl)
            have hk : c2.next ∉ keysN nm := not_key fun q hq => (R.nmB q hq).1.2
            refine ⟨p.nd, _, rfl, DPut.k (k := Sum.inl c2.next) W5.names (by rw [List.length_map]; omega), ?_⟩
            have en : putK (nm.map rowO) (Sum.inl c2.next) (V.int c1.next) = (nm ++ [(c2.next, c1.next)]).map rowO := by
              rw [putK_new _ (opn_out (opn := nm) hk), List.map_append]; rfl
            rw [en]
            have W6 := W5.ofNames (nm ++ [(c2.next, c1.next)])
            generalize upd H5 p.nd (.dK ((nm ++ [(c2.next, c1.next)]).map rowO)) = H6 at W6
            refine ⟨_, rfl, p.nd, _, (nm ++ [(c2.next, c1.next)]).map (·.1), rfl, W6.names, by rw [List.map_map, List.map_map]; rfl, by simp, fun m hm hmax => ?_⟩
            have em : m = c2.next := by
              have h1 := hmax c2.next (by simp)
              rw [List.map_append, List.mem_append] at hm
              rcases hm with z | z
              · obtain ⟨q, hq, e⟩ := List.mem_map.mp z
                have := (R.nmB q hq).1.2
                omega
              · exact List.mem_singleton.mp z
            subst em
            have hk1 : c1.next ∉ (nm.map swp).map (·.1) := fun z => by
              obtain ⟨q, hq, e⟩ := List.mem_map.mp z
              obtain ⟨q', hq', e'⟩ := List.mem_map.mp hq
              have := (R.nmB q' hq').2.2
              rw [← e'] at e
              have e2 : q'.2 = c1.next := e
              omega
            refine ⟨_, rfl, _, rfl, p.md, _, rfl, DPut.k (k := Sum.inl c1.next) W6.mine (by rw [List.length_map, List.length_map]; omega), ?_⟩
            have en2 : putK ((nm.map swp).map rowO) (Sum.inl c1.next) (V.int c2.next) = ((nm ++ [(c2.next, c1.next)]).map swp).map rowO := by
              rw [putK_new _ (opn_out (opn := nm.map swp) hk1), List.map_append, List.map_append]; rfl
            rw [en2]
            have W7 := W6.ofMine ((nm ++ [(c2.next, c1.next)]).map swp)
            generalize upd H6 p.md (.dK (((nm ++ [(c2.next, c1.next)]).map swp).map rowO)) = H7 at W7
            refine ⟨_, rfl, .inl ⟨rfl, _, SqL.of W7.opened⟩, _, rfl, p.ol, _, _, rfl, rfl, W7.opened, (by rw [List.length_map, List.length_map]; omega), ?_⟩
            have W8 := W7.ofOpened ((c1.opn ++ [(c1.next, c1.last)]).map (·.1))
            have en3 : (c1.opn.map (·.1)).map V.int ++ [V.int c1.next] = ((c1.opn ++ [(c1.next, c1.last)]).map (·.1)).map V.int := by rw [List.map_append, List.map_append]; rfl
            rw [en3]
            exact ⟨kd1, kd2, _, _, _, _, _, _, _, _, _, _, W8, R.open_.weak (by omega) (by omega), rfl⟩
        · rintro σ' H3 ⟨kd1, kd2, c1, c2, nm, x5, x6, x7, x8, x12, x13, x14, W, R, rfl⟩
          clear hnk hop
          have hop := R.opnLen
          have hkn := R.knLen
          refine ⟨fun σ' H' => LInv C T Tb p zs a ((i + 1 : Nat) : Int) (2 * ((i + 1 : Nat) : Int)) σ' H', ?_, ?_⟩
          · obtain ⟨dx1, g1⟩ := W.k1.ob
            obtain ⟨dx2, g2⟩ := W.k2.ob
            refine ⟨_, rfl, p.a1, dx1, _, rfl, g1, rfl, p.a1, p.od1, kd1, c1, rfl, W.k1, _, rfl, p.a2, dx2, _, rfl, g2, rfl, p.a2, p.od2, kd2, c2, rfl, W.k2, rfl, _, rfl, ?_⟩
            show if (!decide (V.int c1.last = V.int c2.last)) = true then _ else _
            rw [decide_eq_true (by rw [R.last] : V.int c1.last = V.int c2.last)]
            refine iteF ?_
            refine ⟨_, rfl, p.a1, dx1, _, rfl, g1, rfl, p.a1, p.od1, kd1, c1, rfl, W.k1, R.knUp1, fun q1 H4 s4 hq1 => ?_⟩
            have W4 := W.same s4
            refine ⟨_, rfl, p.a2, dx2, _, rfl, s4 _ _ g2, rfl, p.a2, p.od2, kd2, c2, rfl, W4.k2, R.knUp, fun q2 H5 s5 hq2 => ⟨q2, rfl, ⟨_, SqT.of hq2⟩, fun D hD => ?_⟩⟩
            have W5 := W4.same s5
            have hq15 := s5 _ _ hq1
            refine lc_map (walk_tup (xs := (c2.kn.map (·.1)).map V.int)) (fun i => .int (nmGet nm ((c2.kn.map (·.1)).getD i 0))) (by rw [List.length_map, List.length_map]; omega) hD (fun H3 h => SqT.of (h _ _ hq2)) (fun i x H6 H7 hi s6 y kk => ?_) fun H6 s6 hlD => ?_
            · obtain ⟨rfl, hx⟩ := y
              obtain ⟨rfl, hm⟩ := at_map (0 : Int) V.int hx
              have hk : (c2.kn.map (·.1)).getD i 0 ∈ nm.map (·.1) := by
                obtain ⟨q, hq, e⟩ := List.mem_map.mp hm
                rw [← e]
                exact R.knK q hq
              exact ⟨rfl, tyes ⟨_, rfl, p.nd, rfl, .inl ⟨_, .inl (s6 _ _ W5.names)⟩, _, rfl, _, nm_get (s6 _ _ W5.names) (nm_nd R.nmUp) hk, kk _ (Same.refl _)⟩⟩
            · rw [List.length_map, rng_map (0 : Int) (fun z => V.int (nmGet nm z)) (c2.kn.map (·.1))] at hlD
              have eD : (c2.kn.map (·.1)).map (fun z => V.int (nmGet nm z)) = (c1.kn.map (·.1)).map V.int := by simp only [R.kn1, List.map_map]; rfl
              rw [eD] at hlD
              refine ⟨D, _, rfl, .inl ⟨SqL.of hlD, fun p2 hp2 => ?_⟩⟩
              have s7 := snew (o := .tup ((c1.kn.map (·.1)).map V.int)) hp2
              refine ⟨_, _, ints_dp (s7 _ _ (s6 _ _ hq15)), ints_dp upd_same, ints_shaped _, ints_shaped _, ?_⟩
              rw [self_ne (ints_shaped _)]
              refine ⟨_, rfl, iteF ?_⟩
              exact ⟨kd1, kd2, c1, c2, nm, _, _, _, _, _, _, _, W5.same (s6.trans s7), R, rfl⟩
          · clear W R hop hkn
            rintro σ' H3 ⟨kd1, kd2, c1, c2, nm, x5, x6, x7, x8, x12, x13, x14, W, R, rfl⟩
            have hop := R.opnLen
            obtain ⟨dx1, g1⟩ := W.k1.ob
            obtain ⟨dx2, g2⟩ := W.k2.ob
            refine ⟨_, rfl, p.a1, dx1, _, rfl, g1, rfl, p.a1, p.od1, kd1, c1, rfl, W.k1, by omega, fun ys q1 H4 pm1 up1 s4 hq1 => ?_⟩
            have e1 : ys = c1.opn.map (·.1) := perm_same pm1 up1 R.opnUp1 fun x _ y _ h1 h2 => by omega
            subst e1
            have W4 := W.same s4
            refine ⟨_, rfl, p.a2, dx2, _, rfl, s4 _ _ g2, rfl, p.a2, p.od2, kd2, c2, rfl, W4.k2, by omega, fun ys q2 H5 pm2 up2 s5 hq2 => ⟨q2, rfl, ⟨_, SqT.of hq2⟩, fun D hD => ?_⟩⟩
            have e2 : ys = c2.opn.map (·.1) := perm_same pm2 up2 R.opnUp fun x _ y _ h1 h2 => by omega
            subst e2
            have W5 := W4.same s5
            have hq15 := s5 _ _ hq1
            refine lc_map (walk_tup (xs := (c2.opn.map (·.1)).map V.int)) (fun i => .int (nmGet nm ((c2.opn.map (·.1)).getD i 0))) (by rw [List.length_map, List.length_map]; omega) hD (fun H3 h => SqT.of (h _ _ hq2)) (fun i x H6 H7 hi s6 y kk => ?_) fun H6 s6 hlD => ?_
            · obtain ⟨rfl, hx⟩ := y
              obtain ⟨rfl, hm⟩ := at_map (0 : Int) V.int hx
              have hk : (c2.opn.map (·.1)).getD i 0 ∈ nm.map (·.1) := by
                obtain ⟨q, hq, e⟩ := List.mem_map.mp hm
                rw [← e]
                exact R.opnK q hq
              exact ⟨rfl, tyes ⟨_, rfl, p.nd, rfl, .inl ⟨_, .inl (s6 _ _ W5.names)⟩, _, rfl, _, nm_get (s6 _ _ W5.names) (nm_nd R.nmUp) hk, kk _ (Same.refl _)⟩⟩
            · rw [List.length_map, rng_map (0 : Int) (fun z => V.int (nmGet nm z)) (c2.opn.map (·.1))] at hlD
              have eD : (c2.opn.map (·.1)).map (fun z => V.int (nmGet nm z)) = (c1.opn.map (·.1)).map V.int := by simp only [R.opn1, List.map_map]; rfl
              rw [eD] at hlD
              refine ⟨D, _, rfl, .inl ⟨SqL.of hlD, fun p2 hp2 => ?_⟩⟩
              have s7 := snew (o := .tup ((c1.opn.map (·.1)).map V.int)) hp2
              refine ⟨_, _, ints_dp (s7 _ _ (s6 _ _ hq15)), ints_dp upd_same, ints_shaped _, ints_shaped _, ?_⟩
              rw [self_ne (ints_shaped _)]
              refine ⟨_, rfl, iteF ?_⟩
              exact ⟨kd1, kd2, c1, c2, nm, _, _, _, _, _, _, _, W5.same (s6.trans s7), R, rfl⟩
    · rintro σ' H2 ⟨kd1, kd2, c1, c2, nm, x5, x6, x7, x8, x12, x13, x14, W, R, rfl⟩
      exact k _
end
end K58

namespace K58
open PySem L2 PyProof.Rows
/-- an error of the class at S is what the clause names -/
theorem own_named {K : PySem.W.Frag} {S : Addr} (h1 : PySem.W.subIn K (.ref S) (.type "BaseException") = some true) (h2 : PySem.W.isClsIn K S = true) (h3 : PySem.W.typeIn K (.ref S) = some (.type "type")) (h4 : PySem.W.subIn K (.ref S) (.ref S) = some true) : PySem.W.exmOne K (.ref S) (.ref S) = some true := by
  unfold PySem.W.exmOne PySem.W.kitCls
  have h2' : (PySem.W.clsIn K S).isSome = true := h2
  have e1 : (PySem.W.subIn K (.ref S) (.type "BaseException") == some true) = true := by rw [h1]; rfl
  have e2 : ((PySem.W.clsIn K S).isSome && PySem.W.typeIn K (.ref S) == some (.type "type")) = true := by rw [h2', h3]; rfl
  simp only [e1, e2, if_true, h4]
/-- a def of the top -/
structure GF (K : PySem.W.Frag) (x : Str) (st : Stmt) (f : Addr) (fd : FuncData) : Prop where
  a : PySem.W.nsIn K mainGlobals x = some (some (.ref f))
  F : Fun K x x st f fd
/-- a method -/
structure MF (K : PySem.W.Frag) (C : Addr) (x q : Str) (st : Stmt) (f : Addr) (fd : FuncData) : Prop where
  a : PySem.W.findIn K (.ref C) x = some (some (.ref f))
  i : PySem.W.isFn K (.ref f) = true
  F : Fun K x q st f fd
/-- a def whose code object is known -/
structure CF (K : PySem.W.Frag) (x : Str) (st : Stmt) (f c : Addr) (kV : Value) (doc pm : Value) (an : Option Addr) (ct oc : Value) (od : Option Addr) (osl : Array (Option Value)) : Prop where
  a : PySem.W.nsIn K mainGlobals x = some (some (.ref f))
  lk : K.lookup f = some ⟨oc, od, .func (PySem.W.fnOf x x (defArgs st) (defBody st) (defScope st) .none kV doc pm an (.ref c) ct), osl⟩
  cd : PySem.W.codeIn K (.ref c) x = true
  kp : PySem.W.keepIn K (.ref f) = true
theorem CF.F {K : PySem.W.Frag} {x : Str} {st : Stmt} {f c : Addr} {kV doc pm ct oc : Value} {an od : Option Addr} {osl : Array (Option Value)} (h : CF K x st f c kV doc pm an ct oc od osl) : Fun K x x st f (PySem.W.fnOf x x (defArgs st) (defBody st) (defScope st) .none kV doc pm an (.ref c) ct) := fun_mk h.lk h.cd h.kp
/-- a class of the text -/
structure ClF (K : PySem.W.Frag) (x : Str) (C : Addr) : Prop where
  a : PySem.W.nsIn K mainGlobals x = some (some (.ref C))
  cl : Cls K C
  mks : PySem.W.makesIn K C = true
  kp : PySem.W.keepIn K (.ref C) = true
/-- the error's class -/
structure ErF (K : PySem.W.Frag) (R : Addr) : Prop where
  a : PySem.W.nsIn K mainGlobals "Refused" = some (some (.ref R))
  ox : OexC K R
  xf : XfC K R
  nR : PySem.W.findIn K (.ref R) "ring" = some none
  ic : PySem.W.isClsIn K R = true
  ss : PySem.W.subIn K (.ref R) (.ref R) = some true
theorem erf_of {K : PySem.W.Frag} {R N : Addr} {nm q : Str} {bs bm : List Value} {sn : List Str} {sub : List Value} {ab : Bool} {col : Option Bool} {dd : Option Addr} {k0 k1 k2 k3 k5 : Option Value} (a : PySem.W.nsIn K mainGlobals "Refused" = some (some (.ref R)))
    (l : K.lookup R = some (excClassObj nm q R N bs bm true sn sub ab col dd k0 k1 k2 k3 k5 "ValueError.__new__")) (r : PySem.HandSPX.refsVE bm = true)
    (b : PySem.W.findIn K (.ref R) "__setattr__" = some (some (.builtin "object.__setattr__"))) (c : PySem.W.subIn K (.ref R) (.type "BaseException") = some true) (d : PySem.W.typeIn K (.ref R) = some (.type "type")) (e : PySem.W.keepIn K (.ref R) = true) (xf : XfC K R)
    (nR : PySem.W.findIn K (.ref R) "ring" = some none) (ic : PySem.W.isClsIn K R = true) (ss : PySem.W.subIn K (.ref R) (.ref R) = some true) : ErF K R :=
  ⟨a, ⟨⟨nm, q, N, bs, bm, sn, sub, ab, col, dd, k0, k1, k2, k3, k5, l, r⟩, b, c, d, e⟩, xf, nR, ic, ss⟩
theorem trtx_of {K : PySem.W.Frag} {T : Addr} (c : Cls K T) (n1 : PySem.W.findIn K (.ref T) "kept_since" = some none) (n2 : PySem.W.findIn K (.ref T) "kept_count" = some none) (n3 : PySem.W.findIn K (.ref T) "kept_asked" = some none)
    (n4 : PySem.W.findIn K (.ref T) "kept_spans" = some none) (n5 : PySem.W.findIn K (.ref T) "kept_wrote" = some none) : TrTx K T := ⟨c, n1, n2, n3, n4, n5⟩
theorem cktx_of {K : PySem.W.Frag} {C : Addr} (c : Cls K C) (n1 : PySem.W.findIn K (.ref C) "kept_last" = some none) (n2 : PySem.W.findIn K (.ref C) "kept_next" = some none) (n3 : PySem.W.findIn K (.ref C) "kept_open" = some none)
    (n4 : PySem.W.findIn K (.ref C) "kept_known" = some none) : CkTx K C := ⟨c, n1, n2, n3, n4⟩
theorem joined {l : PySem.W.OpenLaw} {w : World} {K : PySem.W.Frag} {h : Heap} {mg : Str → Option Value} {fa : Addr} (X : K.In h) (Gn : h.Ns mainGlobals mg) (hfa : mg "law" = some (.ref fa)) (hT : ∀ P ∈ [403, 410], h.get? P = some (PySem.W.tabObj #[]))
    {T C R fF fL cF cL f_is_integer f_is_within f_is_pair f_is_key f_is_worth f_is_rising f_are_keys f_is_range f_are_ranges f_is_write f_are_writes f_saw f_is_tied f_begins_of f_ways_from f_kept_of f_shortest_ring f__law_hand f__law_draw f__law_some f__law_keys f__law_range f__law_seen f__law_writes f__law_told f__law_common f_T_init f_T_has_seen f_T_seen_of f_C_init f_C_opens f_C_check_open f_C_trace_of f_C_would_commit f_C_commits f_C_gives_up f_C_close f_C_last f_C_open_entries f_C_remembered f_R_init : Addr} {d_is_integer d_is_within d_is_pair d_is_key d_is_worth d_is_rising d_are_keys d_is_range d_are_ranges d_is_write d_are_writes d_saw d_is_tied d_begins_of d_ways_from d_kept_of d_shortest_ring d__law_hand d__law_draw d__law_some d__law_keys d__law_range d__law_seen d__law_writes d__law_told d__law_common d_T_init d_T_has_seen d_T_seen_of d_C_init d_C_opens d_C_check_open d_C_trace_of d_C_would_commit d_C_commits d_C_gives_up d_C_close d_C_last d_C_open_entries d_C_remembered d_R_init : FuncData}
    {kV1 dc1 pm1 ct1 oc1 kV2 dc2 pm2 ct2 oc2 : Value} {an1 od1 an2 od2 : Option Addr} {sl1 sl2 : Array (Option Value)} {tk1 tk2 tk3 : Tok}
    (cT : ClF K "Trace" T)
    (cC : ClF K "Check" C)
    (cR : ErF K R)
    (g_is_integer : GF K "is_integer" sInteger f_is_integer d_is_integer)
    (g_is_within : GF K "is_within" sWithin f_is_within d_is_within)
    (g_is_pair : GF K "is_pair" sPair f_is_pair d_is_pair)
    (g_is_key : GF K "is_key" sKey f_is_key d_is_key)
    (g_is_worth : GF K "is_worth" sWorth f_is_worth d_is_worth)
    (g_is_rising : GF K "is_rising" sRising f_is_rising d_is_rising)
    (g_are_keys : GF K "are_keys" sKeys f_are_keys d_are_keys)
    (g_is_range : GF K "is_range" sRange f_is_range d_is_range)
    (g_are_ranges : GF K "are_ranges" sRanges f_are_ranges d_are_ranges)
    (g_is_write : GF K "is_write" sWrite f_is_write d_is_write)
    (g_are_writes : GF K "are_writes" sWrites f_are_writes d_are_writes)
    (g_saw : GF K "saw" sSaw f_saw d_saw)
    (g_is_tied : GF K "is_tied" sTied f_is_tied d_is_tied)
    (g_begins_of : GF K "begins_of" sBegins f_begins_of d_begins_of)
    (g_ways_from : GF K "ways_from" sWays f_ways_from d_ways_from)
    (g_kept_of : GF K "kept_of" sKept f_kept_of d_kept_of)
    (g_shortest_ring : GF K "shortest_ring" sRing f_shortest_ring d_shortest_ring)
    (g__law_hand : GF K "_law_hand" sHand f__law_hand d__law_hand)
    (g__law_draw : GF K "_law_draw" sDraw f__law_draw d__law_draw)
    (g__law_some : GF K "_law_some" sSome f__law_some d__law_some)
    (g__law_keys : GF K "_law_keys" sLKeys f__law_keys d__law_keys)
    (g__law_range : GF K "_law_range" sLRange f__law_range d__law_range)
    (g__law_seen : GF K "_law_seen" sLSeen f__law_seen d__law_seen)
    (g__law_writes : GF K "_law_writes" sLWrites f__law_writes d__law_writes)
    (g__law_told : GF K "_law_told" sTold f__law_told d__law_told)
    (g__law_common : GF K "_law_common" sCommon f__law_common d__law_common)
    (m_T_init : MF K T "__init__" "Trace.__init__" sTrInit f_T_init d_T_init)
    (m_T_has_seen : MF K T "has_seen" "Trace.has_seen" sTrSeen f_T_has_seen d_T_has_seen)
    (m_T_seen_of : MF K T "seen_of" "Trace.seen_of" sTrOf f_T_seen_of d_T_seen_of)
    (m_C_init : MF K C "__init__" "Check.__init__" sCkInit f_C_init d_C_init)
    (m_C_opens : MF K C "opens" "Check.opens" sCkOpens f_C_opens d_C_opens)
    (m_C_check_open : MF K C "check_open" "Check.check_open" sCkOpen f_C_check_open d_C_check_open)
    (m_C_trace_of : MF K C "trace_of" "Check.trace_of" sCkTrace f_C_trace_of d_C_trace_of)
    (m_C_would_commit : MF K C "would_commit" "Check.would_commit" sCkWould f_C_would_commit d_C_would_commit)
    (m_C_commits : MF K C "commits" "Check.commits" sCkCommits f_C_commits d_C_commits)
    (m_C_gives_up : MF K C "gives_up" "Check.gives_up" sCkGives f_C_gives_up d_C_gives_up)
    (m_C_close : MF K C "close" "Check.close" sCkClose f_C_close d_C_close)
    (m_C_last : MF K C "last" "Check.last" sCkLast f_C_last d_C_last)
    (m_C_open_entries : MF K C "open_entries" "Check.open_entries" sCkOes f_C_open_entries d_C_open_entries)
    (m_C_remembered : MF K C "remembered" "Check.remembered" sCkRem f_C_remembered d_C_remembered)
    (m_R_init : MF K R "__init__" "Refused.__init__" sRefInit f_R_init d_R_init)
    (tT : TrTx K T)
    (tC : CkTx K C)
    (tI : PySem.W.typeIn K (.ref f_R_init) = some (.type "function"))
    (xF : CF K "_law_further" sFurther fF cF kV1 dc1 pm1 an1 ct1 oc1 od1 sl1)
    (xL : CF K "law" sLaw fL cL kV2 dc2 pm2 an2 ct2 oc2 od2 sl2)
    (z_isinstance : PySem.W.nsIn K mainGlobals "isinstance" = some none)
    (z_int : PySem.W.nsIn K mainGlobals "int" = some none)
    (z_bool : PySem.W.nsIn K mainGlobals "bool" = some none)
    (z_str : PySem.W.nsIn K mainGlobals "str" = some none)
    (z_tuple : PySem.W.nsIn K mainGlobals "tuple" = some none)
    (z_list : PySem.W.nsIn K mainGlobals "list" = some none)
    (z_set : PySem.W.nsIn K mainGlobals "set" = some none)
    (z_len : PySem.W.nsIn K mainGlobals "len" = some none)
    (z_all : PySem.W.nsIn K mainGlobals "all" = some none)
    (z_any : PySem.W.nsIn K mainGlobals "any" = some none)
    (z_zip : PySem.W.nsIn K mainGlobals "zip" = some none)
    (z_min : PySem.W.nsIn K mainGlobals "min" = some none)
    (z_max : PySem.W.nsIn K mainGlobals "max" = some none)
    (z_sorted : PySem.W.nsIn K mainGlobals "sorted" = some none)
    (z_range : PySem.W.nsIn K mainGlobals "range" = some none)
    (z_abs : PySem.W.nsIn K mainGlobals "abs" = some none)
    (w1 : PySem.W.nsIn K mainGlobals "LETTERS" = some (some (.str "abcdefghijklmnopqrstuvwxyz" tk1)))
    (w2 : PySem.W.nsIn K mainGlobals "MOST_LETTERS" = some (some (.int 12 tk2)))
    (w3 : PySem.W.nsIn K mainGlobals "MOST_WORTH" = some (some (.int 1000000000000000000 tk3)))
    (hcF : PySem.W.codeHdIn K cF 403 = true)
    (hcL : PySem.W.codeHdIn K cL 410 = true)
    (nt1 : K.lookup 403 = none)
    (nt2 : K.lookup 410 = none)
    : LamX.LawAtS l w K CX0 12 63 "_law_script" mg fa h := by
  have e := hfa.symm.trans (PySem.W.mg_of X Gn xL.a)
  cases e
  have B : Bi mg := ⟨PySem.W.mg_none_of X Gn z_isinstance, PySem.W.mg_none_of X Gn z_int, PySem.W.mg_none_of X Gn z_bool, PySem.W.mg_none_of X Gn z_str, PySem.W.mg_none_of X Gn z_tuple, PySem.W.mg_none_of X Gn z_list, PySem.W.mg_none_of X Gn z_set, PySem.W.mg_none_of X Gn z_len, PySem.W.mg_none_of X Gn z_all, PySem.W.mg_none_of X Gn z_any, PySem.W.mg_none_of X Gn z_zip, PySem.W.mg_none_of X Gn z_min, PySem.W.mg_none_of X Gn z_max, PySem.W.mg_none_of X Gn z_sorted, PySem.W.mg_none_of X Gn z_range, PySem.W.mg_none_of X Gn z_abs⟩
  have mL := PySem.W.mg_of X Gn w1
  have mM := PySem.W.mg_of X Gn w2
  have mW := PySem.W.mg_of X Gn w3
  have b_is_integer := g_is_integer.F.binds (ps := ["thing"]) (fun _ _ _ _ _ _ us hl => match us, hl with | [_], _ => rfl)
  have l_is_integer := PySem.W.mg_of X Gn g_is_integer.a
  have b_is_within := g_is_within.F.binds (ps := ["thing", "least", "most"]) (fun _ _ _ _ _ _ us hl => match us, hl with | [_, _, _], _ => rfl)
  have l_is_within := PySem.W.mg_of X Gn g_is_within.a
  have b_is_pair := g_is_pair.F.binds (ps := ["thing"]) (fun _ _ _ _ _ _ us hl => match us, hl with | [_], _ => rfl)
  have l_is_pair := PySem.W.mg_of X Gn g_is_pair.a
  have b_is_key := g_is_key.F.binds (ps := ["thing"]) (fun _ _ _ _ _ _ us hl => match us, hl with | [_], _ => rfl)
  have l_is_key := PySem.W.mg_of X Gn g_is_key.a
  have b_is_worth := g_is_worth.F.binds (ps := ["thing"]) (fun _ _ _ _ _ _ us hl => match us, hl with | [_], _ => rfl)
  have l_is_worth := PySem.W.mg_of X Gn g_is_worth.a
  have b_is_rising := g_is_rising.F.binds (ps := ["things"]) (fun _ _ _ _ _ _ us hl => match us, hl with | [_], _ => rfl)
  have l_is_rising := PySem.W.mg_of X Gn g_is_rising.a
  have b_are_keys := g_are_keys.F.binds (ps := ["thing"]) (fun _ _ _ _ _ _ us hl => match us, hl with | [_], _ => rfl)
  have l_are_keys := PySem.W.mg_of X Gn g_are_keys.a
  have b_is_range := g_is_range.F.binds (ps := ["thing"]) (fun _ _ _ _ _ _ us hl => match us, hl with | [_], _ => rfl)
  have l_is_range := PySem.W.mg_of X Gn g_is_range.a
  have b_are_ranges := g_are_ranges.F.binds (ps := ["thing"]) (fun _ _ _ _ _ _ us hl => match us, hl with | [_], _ => rfl)
  have l_are_ranges := PySem.W.mg_of X Gn g_are_ranges.a
  have b_is_write := g_is_write.F.binds (ps := ["thing"]) (fun _ _ _ _ _ _ us hl => match us, hl with | [_], _ => rfl)
  have l_is_write := PySem.W.mg_of X Gn g_is_write.a
  have b_are_writes := g_are_writes.F.binds (ps := ["thing"]) (fun _ _ _ _ _ _ us hl => match us, hl with | [_], _ => rfl)
  have l_are_writes := PySem.W.mg_of X Gn g_are_writes.a
  have b_saw := g_saw.F.binds (ps := ["keys", "ranges", "key"]) (fun _ _ _ _ _ _ us hl => match us, hl with | [_, _, _], _ => rfl)
  have l_saw := PySem.W.mg_of X Gn g_saw.a
  have b_is_tied := g_is_tied.F.binds (ps := ["one", "other"]) (fun _ _ _ _ _ _ us hl => match us, hl with | [_, _], _ => rfl)
  have l_is_tied := PySem.W.mg_of X Gn g_is_tied.a
  have b_begins_of := g_begins_of.F.binds (ps := ["traces", "snapshots"]) (fun _ _ _ _ _ _ us hl => match us, hl with | [_, _], _ => rfl)
  have l_begins_of := PySem.W.mg_of X Gn g_begins_of.a
  have b_ways_from := g_ways_from.F.binds (ps := ["traces", "begins"]) (fun _ _ _ _ _ _ us hl => match us, hl with | [_, _], _ => rfl)
  have l_ways_from := PySem.W.mg_of X Gn g_ways_from.a
  have b_kept_of := g_kept_of.F.binds (ps := ["traces", "snapshots"]) (fun _ _ _ _ _ _ us hl => match us, hl with | [_, _], _ => rfl)
  have l_kept_of := PySem.W.mg_of X Gn g_kept_of.a
  have b_shortest_ring := g_shortest_ring.F.binds (ps := ["traces", "entry", "trace"]) (fun _ _ _ _ _ _ us hl => match us, hl with | [_, _, _], _ => rfl)
  have l_shortest_ring := PySem.W.mg_of X Gn g_shortest_ring.a
  have b__law_hand := g__law_hand.F.binds (ps := ["_law_script"]) (fun _ _ _ _ _ _ us hl => match us, hl with | [_], _ => rfl)
  have l__law_hand := PySem.W.mg_of X Gn g__law_hand.a
  have b__law_draw := g__law_draw.F.binds (ps := ["_law_hand_here", "_law_many"]) (fun _ _ _ _ _ _ us hl => match us, hl with | [_, _], _ => rfl)
  have l__law_draw := PySem.W.mg_of X Gn g__law_draw.a
  have b__law_some := g__law_some.F.binds (ps := ["_law_hand_here", "_law_things", "_law_most"]) (fun _ _ _ _ _ _ us hl => match us, hl with | [_, _, _], _ => rfl)
  have l__law_some := PySem.W.mg_of X Gn g__law_some.a
  have b__law_keys := g__law_keys.F.binds (ps := ([] : List Str)) (fun _ _ _ _ _ _ us hl => match us, hl with | [], _ => rfl)
  have l__law_keys := PySem.W.mg_of X Gn g__law_keys.a
  have b__law_range := g__law_range.F.binds (ps := ["_law_hand_here", "_law_keys_here"]) (fun _ _ _ _ _ _ us hl => match us, hl with | [_, _], _ => rfl)
  have l__law_range := PySem.W.mg_of X Gn g__law_range.a
  have b__law_seen := g__law_seen.F.binds (ps := ["_law_hand_here", "_law_keys_here"]) (fun _ _ _ _ _ _ us hl => match us, hl with | [_, _], _ => rfl)
  have l__law_seen := PySem.W.mg_of X Gn g__law_seen.a
  have b__law_writes := g__law_writes.F.binds (ps := ["_law_hand_here", "_law_keys_here", "_law_most"]) (fun _ _ _ _ _ _ us hl => match us, hl with | [_, _, _], _ => rfl)
  have l__law_writes := PySem.W.mg_of X Gn g__law_writes.a
  have b__law_told := g__law_told.F.binds (ps := ["_law_call"]) (fun _ _ _ _ _ _ us hl => match us, hl with | [_], _ => rfl)
  have l__law_told := PySem.W.mg_of X Gn g__law_told.a
  have b__law_common := g__law_common.F.binds (ps := ["_law_names", "_law_told_here"]) (fun _ _ _ _ _ _ us hl => match us, hl with | [_, _], _ => rfl)
  have l__law_common := PySem.W.mg_of X Gn g__law_common.a
  have b_T_init := m_T_init.F.binds (ps := ["self", "snapshot", "number", "keys", "ranges", "writes"]) (fun _ _ _ _ _ _ us hl => match us, hl with | [_, _, _, _, _, _], _ => rfl)
  have b_T_has_seen := m_T_has_seen.F.binds (ps := ["self", "key"]) (fun _ _ _ _ _ _ us hl => match us, hl with | [_, _], _ => rfl)
  have b_T_seen_of := m_T_seen_of.F.binds (ps := ["self", "other"]) (fun _ _ _ _ _ _ us hl => match us, hl with | [_, _], _ => rfl)
  have b_C_init := m_C_init.F.binds (ps := ["self", "last"]) (fun _ _ _ _ _ _ us hl => match us, hl with | [_, _], _ => rfl)
  have b_C_opens := m_C_opens.F.binds (ps := ["self", "snapshot"]) (fun _ _ _ _ _ _ us hl => match us, hl with | [_, _], _ => rfl)
  have b_C_check_open := m_C_check_open.F.binds (ps := ["self", "entry"]) (fun _ _ _ _ _ _ us hl => match us, hl with | [_, _], _ => rfl)
  have b_C_trace_of := m_C_trace_of.F.binds (ps := ["self", "entry", "keys", "ranges", "writes"]) (fun _ _ _ _ _ _ us hl => match us, hl with | [_, _, _, _, _], _ => rfl)
  have b_C_would_commit := m_C_would_commit.F.binds (ps := ["self", "entry", "keys", "ranges", "writes"]) (fun _ _ _ _ _ _ us hl => match us, hl with | [_, _, _, _, _], _ => rfl)
  have b_C_commits := m_C_commits.F.binds (ps := ["self", "entry", "keys", "ranges", "writes"]) (fun _ _ _ _ _ _ us hl => match us, hl with | [_, _, _, _, _], _ => rfl)
  have b_C_gives_up := m_C_gives_up.F.binds (ps := ["self", "entry"]) (fun _ _ _ _ _ _ us hl => match us, hl with | [_, _], _ => rfl)
  have b_C_close := m_C_close.F.binds (ps := ["self", "entry"]) (fun _ _ _ _ _ _ us hl => match us, hl with | [_, _], _ => rfl)
  have b_C_last := m_C_last.F.binds (ps := ["self"]) (fun _ _ _ _ _ _ us hl => match us, hl with | [_], _ => rfl)
  have b_C_open_entries := m_C_open_entries.F.binds (ps := ["self"]) (fun _ _ _ _ _ _ us hl => match us, hl with | [_], _ => rfl)
  have b_C_remembered := m_C_remembered.F.binds (ps := ["self"]) (fun _ _ _ _ _ _ us hl => match us, hl with | [_], _ => rfl)
  have b_R_init := m_R_init.F.binds (ps := ["self", "ring"]) (fun _ _ _ _ _ _ us hl => match us, hl with | [_, _], _ => rfl)
  have bF := xF.F.binds (ps := ["_law_hand_here", "_law_check", "_law_keys_here", "_law_last"]) (fun _ _ _ _ _ _ us hl => match us, hl with | [_, _, _, _], _ => rfl)
  have lF := PySem.W.mg_of X Gn xF.a
  have eR : PySem.W.exmOne K (.ref R) (.ref R) = some true := own_named cR.xf.exC cR.ic cR.ox.tyC cR.ss
  have gR := PySem.W.mg_of X Gn cR.a
  have gTr := PySem.W.mg_of X Gn cT.a
  have gCk := PySem.W.mg_of X Gn cC.a
  have RT : RefTx K mg R f_R_init := ⟨cR.ox, cR.nR, m_R_init.a, tI, gR⟩
  have CR : CatchR K mg R := ⟨gR, cR.xf, cR.nR, eR⟩
  have MT : Mk K T f_T_init := ⟨cT.mks, m_T_init.a, m_T_init.i, cT.kp⟩
  have MC : Mk K C f_C_init := ⟨cC.mks, m_C_init.a, m_C_init.i, cC.kp⟩
  refine ⟨PySem.W.fnOf "law" "law" (defArgs sLaw) (defBody sLaw) (defScope sLaw) .none kV2 dc2 pm2 an2 (.ref cL) ct2, [(cF, 403), (cL, 410)], spLaw K [(403, qF), (410, qL)], ?_, ?_, ?_, fun s u => ?_, ?_, ?_⟩
  · intro p hp
    rcases List.mem_cons.mp hp with z | z
    · rw [z]; exact hT 403 (by simp)
    · rw [List.mem_singleton.mp z]; exact hT 410 (by simp)
  · intro p hp
    rcases List.mem_cons.mp hp with z | z
    · rw [z]; exact nt1
    · rw [List.mem_singleton.mp z]; exact nt2
  · intro p hp
    rcases List.mem_cons.mp hp with z | z
    · rw [z]; exact PySem.W.codeHd_of_K X hcF
    · rw [List.mem_singleton.mp z]; exact PySem.W.codeHd_of_K X hcL
  · exact .of_eq rfl
  · intro H a ns _ _ hH hS
    refine ⟨a, ns, rfl, hS, fun p hp => ?_, fun _ => rfl⟩
    rcases List.mem_cons.mp hp with z | z
    · rw [z]; exact LamX.TabS.nil (hH (cF, 403) (by simp))
    · rw [List.mem_singleton.mp z]; exact LamX.TabS.nil (hH (cL, 410) (by simp))
  · intro base X2 G2 hTB
    have TBF : LamX.TabB base mg cF 403 := hTB (cF, 403) (by simp)
    have TBL : LamX.TabB base mg cL 410 := hTB (cL, 410) (by simp)
    have D_is_integer : Def l.prog w K mg base CX0 1 "is_integer" f_is_integer d_is_integer ["thing"] spInteger := ⟨ok_integer g_is_integer.F B, l_is_integer, g_is_integer.F.kp, b_is_integer⟩
    have D_is_within : Def l.prog w K mg base CX0 2 "is_within" f_is_within d_is_within ["thing", "least", "most"] spWithin := ⟨ok_within g_is_within.F D_is_integer, l_is_within, g_is_within.F.kp, b_is_within⟩
    have D_is_pair : Def l.prog w K mg base CX0 1 "is_pair" f_is_pair d_is_pair ["thing"] spPair := ⟨ok_pair g_is_pair.F B, l_is_pair, g_is_pair.F.kp, b_is_pair⟩
    have D_is_key : Def l.prog w K mg base CX0 1 "is_key" f_is_key d_is_key ["thing"] spKey := ⟨ok_key g_is_key.F B mL mM, l_is_key, g_is_key.F.kp, b_is_key⟩
    have D_is_worth : Def l.prog w K mg base CX0 3 "is_worth" f_is_worth d_is_worth ["thing"] spWorth := ⟨ok_worth g_is_worth.F mW D_is_within, l_is_worth, g_is_worth.F.kp, b_is_worth⟩
    have D_is_rising : Def l.prog w K mg base CX0 1 "is_rising" f_is_rising d_is_rising ["things"] spRising := ⟨ok_rising g_is_rising.F B, l_is_rising, g_is_rising.F.kp, b_is_rising⟩
    have D_are_keys : Def l.prog w K mg base CX0 2 "are_keys" f_are_keys d_are_keys ["thing"] spKeys := ⟨ok_keys g_are_keys.F B D_is_key D_is_rising, l_are_keys, g_are_keys.F.kp, b_are_keys⟩
    have D_is_range : Def l.prog w K mg base CX0 3 "is_range" f_is_range d_is_range ["thing"] spRange := ⟨ok_range g_is_range.F B D_is_key D_are_keys, l_is_range, g_is_range.F.kp, b_is_range⟩
    have D_are_ranges : Def l.prog w K mg base CX0 4 "are_ranges" f_are_ranges d_are_ranges ["thing"] spRanges := ⟨ok_ranges g_are_ranges.F B D_is_range D_is_rising, l_are_ranges, g_are_ranges.F.kp, b_are_ranges⟩
    have D_is_write : Def l.prog w K mg base CX0 4 "is_write" f_is_write d_is_write ["thing"] spWrite := ⟨ok_write g_is_write.F D_is_pair D_is_key D_is_worth, l_is_write, g_is_write.F.kp, b_is_write⟩
    have D_are_writes : Def l.prog w K mg base CX0 5 "are_writes" f_are_writes d_are_writes ["thing"] spWrites := ⟨ok_writes g_are_writes.F B D_is_write D_is_rising, l_are_writes, g_are_writes.F.kp, b_are_writes⟩
    have D_saw : Def l.prog w K mg base CX0 1 "saw" f_saw d_saw ["keys", "ranges", "key"] spSaw := ⟨ok_saw g_saw.F B, l_saw, g_saw.F.kp, b_saw⟩
    have O_trInit : FnOk l.prog w K mg base CX0 1 f_T_init d_T_init ["self", "snapshot", "number", "keys", "ranges", "writes"] (spTrInit T) := ok_trInit m_T_init.F B tT
    have D_T_has_seen : MDef l.prog w K mg base CX0 2 T "has_seen" f_T_has_seen d_T_has_seen ["self", "key"] (spHas T) := ⟨ok_trSeen m_T_has_seen.F tT D_saw, ⟨m_T_has_seen.a, m_T_has_seen.i, m_T_has_seen.F.kp⟩, b_T_has_seen⟩
    have D_T_seen_of : MDef l.prog w K mg base CX0 3 T "seen_of" f_T_seen_of d_T_seen_of ["self", "other"] (spSeenOf T) := ⟨ok_trOf m_T_seen_of.F tT D_T_has_seen, ⟨m_T_seen_of.a, m_T_seen_of.i, m_T_seen_of.F.kp⟩, b_T_seen_of⟩
    have D_is_tied : Def l.prog w K mg base CX0 4 "is_tied" f_is_tied d_is_tied ["one", "other"] (spTied T) := ⟨ok_tied g_is_tied.F B tT D_T_seen_of, l_is_tied, g_is_tied.F.kp, b_is_tied⟩
    have D_begins_of : Def l.prog w K mg base CX0 1 "begins_of" f_begins_of d_begins_of ["traces", "snapshots"] (spBegins T) := ⟨ok_begins g_begins_of.F B tT, l_begins_of, g_begins_of.F.kp, b_begins_of⟩
    have D_ways_from : Def l.prog w K mg base CX0 5 "ways_from" f_ways_from d_ways_from ["traces", "begins"] (spWays T) := ⟨ok_ways g_ways_from.F B D_is_tied, l_ways_from, g_ways_from.F.kp, b_ways_from⟩
    have D_kept_of : Def l.prog w K mg base CX0 6 "kept_of" f_kept_of d_kept_of ["traces", "snapshots"] (spKept T) := ⟨ok_kept g_kept_of.F B D_ways_from D_begins_of, l_kept_of, g_kept_of.F.kp, b_kept_of⟩
    have D_shortest_ring : Def l.prog w K mg base CX0 5 "shortest_ring" f_shortest_ring d_shortest_ring ["traces", "entry", "trace"] (spRing T) := ⟨ok_ring g_shortest_ring.F B D_is_tied, l_shortest_ring, g_shortest_ring.F.kp, b_shortest_ring⟩
    have O_ref : FnOk l.prog w K mg base CX0 1 f_R_init d_R_init ["self", "ring"] (spRef R) := ok_ref m_R_init.F cR.ox cR.nR
    have D_C_check_open : MDef l.prog w K mg base CX0 2 C "check_open" f_C_check_open d_C_check_open ["self", "entry"] (spCkOpen C T) := ⟨ok_ckOpen m_C_check_open.F tC D_is_integer, ⟨m_C_check_open.a, m_C_check_open.i, m_C_check_open.F.kp⟩, b_C_check_open⟩
    have D_C_close : MDef l.prog w K mg base CX0 7 C "close" f_C_close d_C_close ["self", "entry"] (spClose C T) := ⟨ok_close m_C_close.F B tC D_kept_of, ⟨m_C_close.a, m_C_close.i, m_C_close.F.kp⟩, b_C_close⟩
    have O_ckInit : FnOk l.prog w K mg base CX0 2 f_C_init d_C_init ["self", "last"] (spCkInit C T) := ok_ckInit m_C_init.F tC D_is_integer
    have D_C_opens : MDef l.prog w K mg base CX0 3 C "opens" f_C_opens d_C_opens ["self", "snapshot"] (spOpens C T) := ⟨ok_opens m_C_opens.F B tC D_is_within, ⟨m_C_opens.a, m_C_opens.i, m_C_opens.F.kp⟩, b_C_opens⟩
    have D_C_gives_up : MDef l.prog w K mg base CX0 8 C "gives_up" f_C_gives_up d_C_gives_up ["self", "entry"] (spClose C T) := ⟨ok_gives m_C_gives_up.F tC D_C_check_open D_C_close, ⟨m_C_gives_up.a, m_C_gives_up.i, m_C_gives_up.F.kp⟩, b_C_gives_up⟩
    have D_C_last : MDef l.prog w K mg base CX0 1 C "last" f_C_last d_C_last ["self"] (spLast C T) := ⟨ok_last m_C_last.F tC, ⟨m_C_last.a, m_C_last.i, m_C_last.F.kp⟩, b_C_last⟩
    have D_C_open_entries : MDef l.prog w K mg base CX0 1 C "open_entries" f_C_open_entries d_C_open_entries ["self"] (spOes C T) := ⟨ok_oes m_C_open_entries.F B tC, ⟨m_C_open_entries.a, m_C_open_entries.i, m_C_open_entries.F.kp⟩, b_C_open_entries⟩
    have D_C_remembered : MDef l.prog w K mg base CX0 1 C "remembered" f_C_remembered d_C_remembered ["self"] (spRem C T) := ⟨ok_rem m_C_remembered.F B tC, ⟨m_C_remembered.a, m_C_remembered.i, m_C_remembered.F.kp⟩, b_C_remembered⟩
    have D_C_trace_of : MDef l.prog w K mg base (L2.CX l.prog w) 6 C "trace_of" f_C_trace_of d_C_trace_of ["self", "entry", "keys", "ranges", "writes"] (spTrace C T R) := ⟨ok_trace m_C_trace_of.F B tC RT gTr MT D_C_check_open D_are_keys D_are_ranges D_are_writes O_trInit b_T_init D_shortest_ring O_ref b_R_init, ⟨m_C_trace_of.a, m_C_trace_of.i, m_C_trace_of.F.kp⟩, b_C_trace_of⟩
    have D_C_would_commit : MDef l.prog w K mg base (L2.CX l.prog w) 7 C "would_commit" f_C_would_commit d_C_would_commit ["self", "entry", "keys", "ranges", "writes"] (spWould C T R) := ⟨ok_would m_C_would_commit.F tC tT D_C_trace_of, ⟨m_C_would_commit.a, m_C_would_commit.i, m_C_would_commit.F.kp⟩, b_C_would_commit⟩
    have D_C_commits : MDef l.prog w K mg base (L2.CX l.prog w) 8 C "commits" f_C_commits d_C_commits ["self", "entry", "keys", "ranges", "writes"] (spCommits C T R) := ⟨ok_commits m_C_commits.F tC tT D_C_trace_of D_C_close, ⟨m_C_commits.a, m_C_commits.i, m_C_commits.F.kp⟩, b_C_commits⟩
    have D__law_hand : Def l.prog w K mg base CX0 1 "_law_hand" f__law_hand d__law_hand ["_law_script"] (spHand K) := ⟨ok_hand g__law_hand.F B, l__law_hand, g__law_hand.F.kp, b__law_hand⟩
    have D__law_draw : Def l.prog w K mg base CX0 1 "_law_draw" f__law_draw d__law_draw ["_law_hand_here", "_law_many"] spDraw := ⟨ok_draw g__law_draw.F B, l__law_draw, g__law_draw.F.kp, b__law_draw⟩
    have D__law_some : Def l.prog w K mg base CX0 2 "_law_some" f__law_some d__law_some ["_law_hand_here", "_law_things", "_law_most"] spSome := ⟨ok_some g__law_some.F B D__law_draw, l__law_some, g__law_some.F.kp, b__law_some⟩
    have D__law_keys : Def l.prog w K mg base CX0 1 "_law_keys" f__law_keys d__law_keys [] spLKeys := ⟨ok_lkeys g__law_keys.F , l__law_keys, g__law_keys.F.kp, b__law_keys⟩
    have D__law_range : Def l.prog w K mg base CX0 3 "_law_range" f__law_range d__law_range ["_law_hand_here", "_law_keys_here"] spLRange := ⟨ok_lrange g__law_range.F B D__law_draw D__law_some, l__law_range, g__law_range.F.kp, b__law_range⟩
    have D__law_seen : Def l.prog w K mg base CX0 4 "_law_seen" f__law_seen d__law_seen ["_law_hand_here", "_law_keys_here"] spLSeen := ⟨ok_lseen g__law_seen.F B D__law_draw D__law_some D__law_range, l__law_seen, g__law_seen.F.kp, b__law_seen⟩
    have D__law_writes : Def l.prog w K mg base CX0 3 "_law_writes" f__law_writes d__law_writes ["_law_hand_here", "_law_keys_here", "_law_most"] spLWrites := ⟨ok_lwrites g__law_writes.F B D__law_draw D__law_some, l__law_writes, g__law_writes.F.kp, b__law_writes⟩
    have D__law_common : Def l.prog w K mg base CX0 1 "_law_common" f__law_common d__law_common ["_law_names", "_law_told_here"] spCommon := ⟨ok_common g__law_common.F B, l__law_common, g__law_common.F.kp, b__law_common⟩
    have uF : ∀ p ∈ ([(403, qF), (410, qL)] : Tbs), p.1 = 403 → p.2 = qF := fun p hp e => by
      rcases List.mem_cons.mp hp with z | z
      · rw [z]
      · rw [List.mem_singleton.mp z] at e; cases e
    have uL : ∀ p ∈ ([(403, qF), (410, qL)] : Tbs), p.1 = 410 → p.2 = qL := fun p hp e => by
      rcases List.mem_cons.mp hp with z | z
      · rw [z] at e; cases e
      · rw [List.mem_singleton.mp z]
    have D_further : Def l.prog w K mg base CX0 10 "_law_further" fF _ ["_law_hand_here", "_law_check", "_law_keys_here", "_law_last"] (spFurther C T [(403, qF), (410, qL)]) := ⟨ok_further xF.lk xF.cd tC CR TBF (by simp) uF D_C_opens D_C_gives_up D_C_would_commit D__law_seen D__law_writes g__law_told.F l__law_told b__law_told, lF, xF.kp, bF⟩
    exact ok_law xL.lk xL.cd B tC CR TBL (by simp) uL D__law_hand D__law_keys D__law_draw gCk MC O_ckInit b_C_init D_further D__law_seen D__law_writes g__law_told.F l__law_told b__law_told D__law_common D_C_opens D_C_last D_C_remembered D_C_open_entries D_C_commits
end K58

open PySem PySem.W PyProof.Rows
set_option maxRecDepth 100000 in
set_option maxHeartbeats 0 in
theorem PySem.Challenge.cw_wholecommits_k58_whole_given_up_as_if_ne_holds : PySem.Challenge.rw_wholecommits_k58_whole_given_up_as_if_ne.Holds := by
  w_on; o_law; k_head; (case hw => w_witness2)
  k_fill
  refine LamX.walk_ofTs (l := PySem.Challenge.rw_wholecommits_k58_whole_given_up_as_if_ne) (n := 63) (k := 12) (CX := fun _ => L2.CX0) (x := "_law_script") rfl (by decide) rfl ⟨rfl, by decide, by decide⟩ (fun w h Y => PySem.W.km_in_of Y) ?F (fun _ _ _ _ _ z => z)
  case F =>
    intro w mg fa h Y KX G hmg
    refine' K58.joined KX G hmg (PySem.W.km_tabs_of Y) ?cT ?cC ?cR ?g_is_integer ?g_is_within ?g_is_pair ?g_is_key ?g_is_worth ?g_is_rising ?g_are_keys ?g_is_range ?g_are_ranges ?g_is_write ?g_are_writes ?g_saw ?g_is_tied ?g_begins_of ?g_ways_from ?g_kept_of ?g_shortest_ring ?g__law_hand ?g__law_draw ?g__law_some ?g__law_keys ?g__law_range ?g__law_seen ?g__law_writes ?g__law_told ?g__law_common ?m_T_init ?m_T_has_seen ?m_T_seen_of ?m_C_init ?m_C_opens ?m_C_check_open ?m_C_trace_of ?m_C_would_commit ?m_C_commits ?m_C_gives_up ?m_C_close ?m_C_last ?m_C_open_entries ?m_C_remembered ?m_R_init ?tT ?tC ?tI ?xF ?xL ?z_isinstance ?z_int ?z_bool ?z_str ?z_tuple ?z_list ?z_set ?z_len ?z_all ?z_any ?z_zip ?z_min ?z_max ?z_sorted ?z_range ?z_abs ?w1 ?w2 ?w3 ?hcF ?hcL ?nt1 ?nt2
    (case cT => refine' ⟨?a, ⟨?b, ?c, ?d, ?e⟩, ?f, ?g⟩; (case a => k_is); (case b => k_is); (case c => k_is); (case d => k_is); (case e => k_is); (case f => k_is); (case g => k_is))
    (case cC => refine' ⟨?a, ⟨?b, ?c, ?d, ?e⟩, ?f, ?g⟩; (case a => k_is); (case b => k_is); (case c => k_is); (case d => k_is); (case e => k_is); (case f => k_is); (case g => k_is))
    (case cR => refine' K58.erf_of ?a ?l ?r ?b ?c ?d ?e ⟨?f, ?g, ?h, ?i⟩ ?j ?m ?n; (case a => k_is); (case l => k_is); (case r => decide +kernel); (case b => k_is); (case c => k_is); (case d => k_is); (case e => k_is); (case f => k_is); (case g => k_is); (case h => k_is); (case i => k_is); (case j => k_is); (case m => k_is); (case n => k_is))
    (case g_is_integer => refine' ⟨?a, L2.fun_mk ?l ?c ?k⟩; (case a => k_is); (case l => k_is); (case c => k_is); (case k => k_is))
    (case g_is_within => refine' ⟨?a, L2.fun_mk ?l ?c ?k⟩; (case a => k_is); (case l => k_is); (case c => k_is); (case k => k_is))
    (case g_is_pair => refine' ⟨?a, L2.fun_mk ?l ?c ?k⟩; (case a => k_is); (case l => k_is); (case c => k_is); (case k => k_is))
    (case g_is_key => refine' ⟨?a, L2.fun_mk ?l ?c ?k⟩; (case a => k_is); (case l => k_is); (case c => k_is); (case k => k_is))
    (case g_is_worth => refine' ⟨?a, L2.fun_mk ?l ?c ?k⟩; (case a => k_is); (case l => k_is); (case c => k_is); (case k => k_is))
    (case g_is_rising => refine' ⟨?a, L2.fun_mk ?l ?c ?k⟩; (case a => k_is); (case l => k_is); (case c => k_is); (case k => k_is))
    (case g_are_keys => refine' ⟨?a, L2.fun_mk ?l ?c ?k⟩; (case a => k_is); (case l => k_is); (case c => k_is); (case k => k_is))
    (case g_is_range => refine' ⟨?a, L2.fun_mk ?l ?c ?k⟩; (case a => k_is); (case l => k_is); (case c => k_is); (case k => k_is))
    (case g_are_ranges => refine' ⟨?a, L2.fun_mk ?l ?c ?k⟩; (case a => k_is); (case l => k_is); (case c => k_is); (case k => k_is))
    (case g_is_write => refine' ⟨?a, L2.fun_mk ?l ?c ?k⟩; (case a => k_is); (case l => k_is); (case c => k_is); (case k => k_is))
    (case g_are_writes => refine' ⟨?a, L2.fun_mk ?l ?c ?k⟩; (case a => k_is); (case l => k_is); (case c => k_is); (case k => k_is))
    (case g_saw => refine' ⟨?a, L2.fun_mk ?l ?c ?k⟩; (case a => k_is); (case l => k_is); (case c => k_is); (case k => k_is))
    (case g_is_tied => refine' ⟨?a, L2.fun_mk ?l ?c ?k⟩; (case a => k_is); (case l => k_is); (case c => k_is); (case k => k_is))
    (case g_begins_of => refine' ⟨?a, L2.fun_mk ?l ?c ?k⟩; (case a => k_is); (case l => k_is); (case c => k_is); (case k => k_is))
    (case g_ways_from => refine' ⟨?a, L2.fun_mk ?l ?c ?k⟩; (case a => k_is); (case l => k_is); (case c => k_is); (case k => k_is))
    (case g_kept_of => refine' ⟨?a, L2.fun_mk ?l ?c ?k⟩; (case a => k_is); (case l => k_is); (case c => k_is); (case k => k_is))
    (case g_shortest_ring => refine' ⟨?a, L2.fun_mk ?l ?c ?k⟩; (case a => k_is); (case l => k_is); (case c => k_is); (case k => k_is))
    (case g__law_hand => refine' ⟨?a, L2.fun_mk ?l ?c ?k⟩; (case a => k_is); (case l => k_is); (case c => k_is); (case k => k_is))
    (case g__law_draw => refine' ⟨?a, L2.fun_mk ?l ?c ?k⟩; (case a => k_is); (case l => k_is); (case c => k_is); (case k => k_is))
    (case g__law_some => refine' ⟨?a, L2.fun_mk ?l ?c ?k⟩; (case a => k_is); (case l => k_is); (case c => k_is); (case k => k_is))
    (case g__law_keys => refine' ⟨?a, L2.fun_mk ?l ?c ?k⟩; (case a => k_is); (case l => k_is); (case c => k_is); (case k => k_is))
    (case g__law_range => refine' ⟨?a, L2.fun_mk ?l ?c ?k⟩; (case a => k_is); (case l => k_is); (case c => k_is); (case k => k_is))
    (case g__law_seen => refine' ⟨?a, L2.fun_mk ?l ?c ?k⟩; (case a => k_is); (case l => k_is); (case c => k_is); (case k => k_is))
    (case g__law_writes => refine' ⟨?a, L2.fun_mk ?l ?c ?k⟩; (case a => k_is); (case l => k_is); (case c => k_is); (case k => k_is))
    (case g__law_told => refine' ⟨?a, L2.fun_mk ?l ?c ?k⟩; (case a => k_is); (case l => k_is); (case c => k_is); (case k => k_is))
    (case g__law_common => refine' ⟨?a, L2.fun_mk ?l ?c ?k⟩; (case a => k_is); (case l => k_is); (case c => k_is); (case k => k_is))
    (case m_T_init => refine' ⟨?a, ?i, L2.fun_mk ?l ?c ?k⟩; (case a => k_is); (case i => k_is); (case l => k_is); (case c => k_is); (case k => k_is))
    (case m_T_has_seen => refine' ⟨?a, ?i, L2.fun_mk ?l ?c ?k⟩; (case a => k_is); (case i => k_is); (case l => k_is); (case c => k_is); (case k => k_is))
    (case m_T_seen_of => refine' ⟨?a, ?i, L2.fun_mk ?l ?c ?k⟩; (case a => k_is); (case i => k_is); (case l => k_is); (case c => k_is); (case k => k_is))
    (case m_C_init => refine' ⟨?a, ?i, L2.fun_mk ?l ?c ?k⟩; (case a => k_is); (case i => k_is); (case l => k_is); (case c => k_is); (case k => k_is))
    (case m_C_opens => refine' ⟨?a, ?i, L2.fun_mk ?l ?c ?k⟩; (case a => k_is); (case i => k_is); (case l => k_is); (case c => k_is); (case k => k_is))
    (case m_C_check_open => refine' ⟨?a, ?i, L2.fun_mk ?l ?c ?k⟩; (case a => k_is); (case i => k_is); (case l => k_is); (case c => k_is); (case k => k_is))
    (case m_C_trace_of => refine' ⟨?a, ?i, L2.fun_mk ?l ?c ?k⟩; (case a => k_is); (case i => k_is); (case l => k_is); (case c => k_is); (case k => k_is))
    (case m_C_would_commit => refine' ⟨?a, ?i, L2.fun_mk ?l ?c ?k⟩; (case a => k_is); (case i => k_is); (case l => k_is); (case c => k_is); (case k => k_is))
    (case m_C_commits => refine' ⟨?a, ?i, L2.fun_mk ?l ?c ?k⟩; (case a => k_is); (case i => k_is); (case l => k_is); (case c => k_is); (case k => k_is))
    (case m_C_gives_up => refine' ⟨?a, ?i, L2.fun_mk ?l ?c ?k⟩; (case a => k_is); (case i => k_is); (case l => k_is); (case c => k_is); (case k => k_is))
    (case m_C_close => refine' ⟨?a, ?i, L2.fun_mk ?l ?c ?k⟩; (case a => k_is); (case i => k_is); (case l => k_is); (case c => k_is); (case k => k_is))
    (case m_C_last => refine' ⟨?a, ?i, L2.fun_mk ?l ?c ?k⟩; (case a => k_is); (case i => k_is); (case l => k_is); (case c => k_is); (case k => k_is))
    (case m_C_open_entries => refine' ⟨?a, ?i, L2.fun_mk ?l ?c ?k⟩; (case a => k_is); (case i => k_is); (case l => k_is); (case c => k_is); (case k => k_is))
    (case m_C_remembered => refine' ⟨?a, ?i, L2.fun_mk ?l ?c ?k⟩; (case a => k_is); (case i => k_is); (case l => k_is); (case c => k_is); (case k => k_is))
    (case m_R_init => refine' ⟨?a, ?i, L2.fun_mk ?l ?c ?k⟩; (case a => k_is); (case i => k_is); (case l => k_is); (case c => k_is); (case k => k_is))
    (case tT => refine' K58.trtx_of ⟨?b, ?c, ?d, ?e⟩ ?n1 ?n2 ?n3 ?n4 ?n5; (case b => k_is); (case c => k_is); (case d => k_is); (case e => k_is); (case n1 => k_is); (case n2 => k_is); (case n3 => k_is); (case n4 => k_is); (case n5 => k_is))
    (case tC => refine' K58.cktx_of ⟨?b, ?c, ?d, ?e⟩ ?n1 ?n2 ?n3 ?n4; (case b => k_is); (case c => k_is); (case d => k_is); (case e => k_is); (case n1 => k_is); (case n2 => k_is); (case n3 => k_is); (case n4 => k_is))
    (case tI => k_is)
    (case xF => refine' ⟨?a, ?l, ?c, ?k⟩; (case a => k_is); (case l => k_is); (case c => k_is); (case k => k_is))
    (case xL => refine' ⟨?a, ?l, ?c, ?k⟩; (case a => k_is); (case l => k_is); (case c => k_is); (case k => k_is))
    (case z_isinstance => k_is)
    (case z_int => k_is)
    (case z_bool => k_is)
    (case z_str => k_is)
    (case z_tuple => k_is)
    (case z_list => k_is)
    (case z_set => k_is)
    (case z_len => k_is)
    (case z_all => k_is)
    (case z_any => k_is)
    (case z_zip => k_is)
    (case z_min => k_is)
    (case z_max => k_is)
    (case z_sorted => k_is)
    (case z_range => k_is)
    (case z_abs => k_is)
    (case w1 => k_is)
    (case w2 => k_is)
    (case w3 => k_is)
    (case hcF => kernel_rfl)
    (case hcL => kernel_rfl)
    (case nt1 => kernel_rfl)
    (case nt2 => kernel_rfl)

