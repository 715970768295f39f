import PyProof.Rows.All
import Wide.All
import OpenK.AllK
import Wide.FinOn
import HandS.ForMost
import HandS.IsInst
import HandS.TupAny
import HandS.Style
import HandS.Star
import HandS.Walk
import HandS.NoneIn
import HandS.Conv
import HandS.Zip
import HandS.DictTup
import HandS.SortOrd
import HandS.SortRule
import HandS.TupLe
import PySem.Challenge.RW_wakefree_k92_least_joined_and_common_zon
import HandS.Evl
import KE.KDictZip
import HandS.Strs
import KE.KDictKeyed
import KE.KDictWalk
import KE.SortData
import HandS.Text
import HandS.DictComp
import HandS.ExcInit
import HandS.ExcField
import HandS.ClsMeth
import HandS.Property
import HandS.TryOnly
import HandS.WordsExc
import HandS.CallSlots
import PyProof.EqKinds
import KE.GoesMore
import HandS.SortInts
import PyProof.ReprRoads
import PyProof.ReprLen
import PyProof.Rows.ReprShort
import HandS.ExcOwn
import HandS.ExcIs
import HandS.Lambda
import HandS.RaiseMore
import KE.KExcIs
import HandS.Defaults
set_option Elab.async false
set_option linter.all false
set_option maxRecDepth 100000
set_option maxHeartbeats 8000000
namespace K92
open PySem PySem.Spec PyProof.Rows L2

def topS (i : Nat) : Stmt := PySem.Challenge.pw_wakefree_k92_least_joined_and_common_zon.main.body.getD i (.Pass ⟨0, 0, 0, 0⟩)

/-! ### an own def as it is called -/
structure Cal (P : Program) (w : World) (K : PySem.W.Frag) (mg : Str → Option Value) (base : Heap) (nm : Str) (ps : List Str) (k : Nat) (sp : Sp) : Prop where
  ex : ∃ (f : Addr) (fd : FuncData), FnOk P w K mg base CX0 k f fd ps sp ∧ mg nm = some (.ref f) ∧ PySem.W.keepIn K (.ref f) = true ∧ Binds K fd ps []
theorem Cal.mono {P : Program} {w : World} {K : PySem.W.Frag} {mg : Str → Option Value} {base : Heap} {nm : Str} {ps : List Str} {j k : Nat} {sp : Sp} (C : Cal P w K mg base nm ps j sp) (h : j ≤ k) : Cal P w K mg base nm ps k sp := by
  obtain ⟨f, fd, a, b, c, d⟩ := C.ex
  exact ⟨f, fd, a.mono h, b, c, d⟩
theorem pe_own {X : Cx} {k : Nat} {nm : Str} {ps : List Str} {sp : Sp} {p pos : Pos} {e : Expr} {es : List Expr} {t : TA} (C : Cal X.prog X.w X.K X.mg X.base nm ps k sp) (hr : Room k X.A) (ha : PA X (e :: es) t) (hg : Gl X nm := by rfl)
    (hdb : (nm == ("__debug__" : Str)) = false := by decide) (he : starEach (e :: es) X.env = (false, eval e X.env) :: starEach es X.env := by rfl) (hpl : (backTo pos (starEach es X.env)).any (·.1) = false := by rfl) :
    PE X (.Call (.Name nm p) (e :: es) [] pos) (tCall sp [] E0 t) := by
  obtain ⟨f, fd, a, b, c, d⟩ := C.ex
  exact pe_call a hr hg b c d .nil pass0 ha hdb he hpl

/-! ### the built-in names -/
structure Bn (mg : Str → Option Value) : Prop where
  isinstance : mg "isinstance" = none
  int : mg "int" = none
  bool : mg "bool" = none
  tuple : mg "tuple" = none
  list : mg "list" = none
  dict : mg "dict" = none
  str : mg "str" = none
  len : mg "len" = none
  all : mg "all" = none
  min : mg "min" = none
  max : mg "max" = none
  abs : mg "abs" = none
  sorted : mg "sorted" = none
  zip : mg "zip" = none
  range : mg "range" = none
  repr : mg "repr" = none
  enumerate : mg "enumerate" = none

/-! ### heaps: what stays -/
/-- all that was tracked is as it was, but for what stands at D -/
def Sm (D : List Addr) (H H' : Hp) : Prop := ∀ b o, H b = some o → b ∉ D → H' b = some o
theorem Sm.refl {D : List Addr} {H : Hp} : Sm D H H := fun _ _ h _ => h
theorem Sm.trans {D : List Addr} {H H1 H2 : Hp} (a : Sm D H H1) (b : Sm D H1 H2) : Sm D H H2 := fun c o h n => b c o (a c o h n) n
theorem Sm.new {D : List Addr} {H H1 : Hp} {p : Addr} {o : HO} (a : Sm D H H1) (hp : H1 p = none) : Sm D H (upd H1 p o) := fun b u h n => by
  have q := a b u h n
  rw [upd_ne (ne_of_none q hp)]
  exact q
theorem Sm.put {D : List Addr} {H H1 : Hp} {p : Addr} {o : HO} (a : Sm D H H1) (hp : p ∈ D) : Sm D H (upd H1 p o) := fun b u h n => by
  have q := a b u h n
  rw [upd_ne (fun e => n (by rw [e]; exact hp))]
  exact q
/-- written: an object that was not there at first -/
theorem Sm.own {D : List Addr} {H H1 : Hp} {p : Addr} {o : HO} (a : Sm D H H1) (hp : H p = none) : Sm D H (upd H1 p o) := fun b u h n => by
  have q := a b u h n
  rw [upd_ne (ne_of_none h hp)]
  exact q
theorem Sm.more {D D' : List Addr} {H H' : Hp} (a : Sm D H H') (h : ∀ b ∈ D, b ∈ D') : Sm D' H H' := fun b o e n => a b o e fun z => n (h b z)
theorem Sm.nil {D : List Addr} {H H' : Hp} (a : Sm [] H H') : Sm D H H' := a.more fun b z => absurd z (by simp)
theorem Sm.at {D : List Addr} {H H' : Hp} {b : Addr} {o : HO} (a : Sm D H H') (h : H b = some o) (n : b ∉ D) : H' b = some o := a b o h n
theorem Sm.keep {H H' : Hp} {b : Addr} {o : HO} (a : Sm [] H H') (h : H b = some o) : H' b = some o := a b o h (by simp)
theorem Sm.free {D : List Addr} {H H' : Hp} {b : Addr} (a : Sm D H H') (h : H' b = none) (n : b ∉ D) : H b = none := by
  cases q : H b with
  | none => rfl
  | some o =>
    rw [a b o q n] at h
    cases h
/-- tuples stay -/
def Kp (H H' : Hp) : Prop := ∀ b xs, H b = some (.tup xs) → H' b = some (.tup xs)
theorem Kp.refl {H : Hp} : Kp H H := fun _ _ h => h
theorem Kp.trans {H H1 H2 : Hp} (a : Kp H H1) (b : Kp H1 H2) : Kp H H2 := fun c o h => b c o (a c o h)
theorem Sm.kp {H H' : Hp} (a : Sm [] H H') : Kp H H' := fun b xs h => a.keep h
theorem Kp.new {H H1 : Hp} {p : Addr} {o : HO} (a : Kp H H1) (hp : H1 p = none) : Kp H (upd H1 p o) := fun b u h => by
  have q := a b u h
  rw [upd_ne (ne_of_none q hp)]
  exact q
/-- no tuple stands at D -/
def NT (D : List Addr) (H : Hp) : Prop := ∀ b ∈ D, ∀ xs, H b ≠ some (.tup xs)
theorem Sm.kpD {D : List Addr} {H H' : Hp} (a : Sm D H H') (h : NT D H) : Kp H H' := fun b xs e => a b _ e fun z => h b z xs e

/-! ### isinstance -/
section
variable {X : Cx}
/-- isinstance(x, C), C a built-in class -/
def rIs (K : PySem.W.Frag) : List V → Hp → VK → Prop := fun xs H Q => ∃ (x : V) (C T : String) (b : Bool), xs = [x, .ty C] ∧ TyX K H x (.type T) ∧ kitB T C = some b ∧ Q (.bl b) H
theorem call_is : CallR X (.builtin "isinstance") (rIs X.K) := by
  intro pins s σ H xs us Q I r h
  obtain ⟨x, C, T, b, rfl, ty, e, q⟩ := h
  exact call_isi pins s σ H _ us Q I r ⟨x, .ty C, .type T, .type C, b, rfl, .ty C, ty, kit_ty e, q⟩
theorem TyX.non {K : PySem.W.Frag} {H : Hp} : TyX K H .non (.type "NoneType") := .base .non
theorem TyX.bl {K : PySem.W.Frag} {H : Hp} (b : Bool) : TyX K H (.bl b) (.type "bool") := .base (.bl b)
theorem TyX.int {K : PySem.W.Frag} {H : Hp} (i : Int) : TyX K H (.int i) (.type "int") := .base (.int i)
theorem TyX.str {K : PySem.W.Frag} {H : Hp} (z : Str) : TyX K H (.str z) (.type "str") := .base (.str z)
theorem TyX.lst {K : PySem.W.Frag} {H : Hp} {a : Addr} {xs : List V} (e : H a = some (.lst xs)) : TyX K H (.ref a) (.type "list") := .base (.lst e)
theorem TyX.tup {K : PySem.W.Frag} {H : Hp} {a : Addr} {xs : List V} (e : H a = some (.tup xs)) : TyX K H (.ref a) (.type "tuple") := .base (.tup e)
theorem TyX.dK {K : PySem.W.Frag} {H : Hp} {a : Addr} {kvs : List (Key × V)} (e : H a = some (.dK kvs)) : TyX K H (.ref a) (.type "dict") := .base (.dK e)
/-- the term: isinstance(x, C) -/
theorem pe_is {C : String} {x : Expr} {tx : TE} {nc : Str} {p1 p2 pos : Pos} (B : Bn X.mg) (hm : X.mg nc = none) (hv : bootBuiltins nc = some (.type C)) (hx : PE X x tx) (hg : Gl X "isinstance" := by rfl) (hgc : Gl X nc := by rfl)
    (he : starEach [x, Expr.Name nc p2] X.env = (false, eval x X.env) :: starEach [Expr.Name nc p2] X.env := by rfl) (hpl : (backTo pos (starEach [Expr.Name nc p2] X.env)).any (·.1) = false := by rfl) (hn : nc ≠ "__name__" := by decide) (hd : (nc == ("__debug__" : Str)) = false := by decide) :
    PE X (.Call (.Name "isinstance" p1) [x, .Name nc p2] [] pos) (tCB (rIs X.K) (tCons tx (tCons (tC (.ty C)) tNil))) :=
  pe_callB call_is hg B.isinstance boot_isinstance (pa_cons hx (pa_cons (pe_bltn (v := .ty C) hgc hm hv rfl hn hd) pa_nil) (hs := he)) (by decide) (by decide) he hpl
end

/-! ### is_integer -/
abbrev sInt : Stmt := topS 14
theorem scInt : FnScope ["thing"] ["thing"] (defScope sInt) := ⟨rfl, rfl, rfl, by decide +kernel, rfl, by decide +kernel, by decide +kernel⟩
section
variable {P : Program} {w : World} {K : PySem.W.Frag} {mg : Str → Option Value} {base : Heap}
/-- the classes that are asked here, by whether they are int, bool -/
def isI (T : String) : Bool := T == "int"
def spInt (K : PySem.W.Frag) : Sp := fun vs H Q _ => ∃ (x : V) (T : String) (b c : Bool), vs = [x] ∧ TyX K H x (.type T) ∧ kitB T "int" = some b ∧ kitB T "bool" = some c ∧ Q (.bl (b && !c)) H
theorem ok_int {f : Addr} {fd : FuncData} (F : Fun K "is_integer" "is_integer" sInt f fd) (B : Bn mg) : FnOk P w K mg base CX0 1 f fd ["thing"] (spInt K) := by
  refine F.ok scInt (fun vs H Q E h => ?_) (fun cdv A outer s H vs Q E hr h => ?_)
  · obtain ⟨x, T, b, c, rfl, _⟩ := h
    rfl
  · obtain ⟨x, T, b, c, rfl, ty, e1, e2, q⟩ := h
    refine ⟨_, pss_one (ps_ret (pe_and (pe_is B B.int boot_int (pv 0)) (pe_one (pe_not (pe_is B B.bool boot_bool (pv 0)))))), ?_⟩
    refine ⟨x, rfl, x, "int", T, b, rfl, ty, e1, b, rfl, ?_⟩
    cases b with
    | true => exact ⟨x, rfl, x, "bool", T, c, rfl, ty, e2, c, rfl, q⟩
    | false => exact q
end
end K92

namespace K92
open PySem PySem.Spec PyProof.Rows L2

/-! ### the deck -/
def dkv (c : Addr) (b n : Int) : List (Key × V) := [(Sum.inr "cells", .ref c), (Sum.inr "blend", .int b), (Sum.inr "drawn", .int n)]
theorem dkv_cells (c : Addr) (b n : Int) : valV (dkv c b n) (Sum.inr "cells") = some (.ref c) := rfl
theorem dkv_blend (c : Addr) (b n : Int) : valV (dkv c b n) (Sum.inr "blend") = some (.int b) := rfl
theorem dkv_drawn (c : Addr) (b n : Int) : valV (dkv c b n) (Sum.inr "drawn") = some (.int n) := rfl
theorem dkv_put (c : Addr) (b n m : Int) : putK (dkv c b n) (Sum.inr "drawn") (.int m) = dkv c b m := rfl
/-- the deck at d, its cells at c, n draws made -/
structure Deck (H : Hp) (d c : Addr) (n : Nat) : Prop where
  ex : ∃ (cs : List Int) (b : Int), H d = some (.dK (dkv c b n)) ∧ H c = some (.lst (cs.map V.int)) ∧ cs.length ≤ 63 ∧ 0 ≤ b ∧ b < 2147483587
theorem Deck.nt {H : Hp} {d c : Addr} {n : Nat} (D : Deck H d c n) : NT [d, c] H := by
  obtain ⟨cs, b, h1, h2, _⟩ := D.ex
  intro a ha xs e
  rcases List.mem_cons.mp ha with rfl | ha
  · rw [h1] at e; cases e
  · rcases List.mem_cons.mp ha with rfl | ha
    · rw [h2] at e; cases e
    · cases ha
theorem Deck.ne {H : Hp} {d c : Addr} {n : Nat} (D : Deck H d c n) : d ≠ c := by
  obtain ⟨cs, b, h1, h2, _⟩ := D.ex
  exact ne_of h1 h2 (by intro z; cases z)
theorem Deck.mono {H H' : Hp} {d c : Addr} {n : Nat} {D' : List Addr} (D : Deck H d c n) (s : Sm D' H H') (h1 : d ∉ D') (h2 : c ∉ D') : Deck H' d c n := by
  obtain ⟨cs, b, e1, e2, r⟩ := D.ex
  exact ⟨cs, b, s _ _ e1 h1, s _ _ e2 h2, r⟩
theorem Deck.keep {H H' : Hp} {d c : Addr} {n : Nat} (D : Deck H d c n) (s : Sm [] H H') : Deck H' d c n := D.mono s (by simp) (by simp)

theorem ints_dp {K : PySem.W.Frag} {H : Hp} : ∀ (ns : List Int), DpAll K H (ns.map V.int) (ns.map PyData.int)
  | [] => .nil
  | n :: ns => .cons (.int n) (ints_dp ns)
theorem ints_lay : ∀ ns : List Int, PyData.canLayAll0 (ns.map PyData.int) = true
  | [] => by simp [PyData.canLayAll0]
  | n :: ns => by simp [PyData.canLayAll0, PyData.canLay0, ints_lay ns]
theorem ints_depth : ∀ ns : List Int, PyData.depthAll (ns.map PyData.int) = 0
  | [] => by simp [PyData.depthAll]
  | n :: ns => by simp [PyData.depthAll, PyData.depth, ints_depth ns]
theorem ints_shaped (ns : List Int) : SeqAt.shaped (.list (ns.map PyData.int)) = true := by
  simp [SeqAt.shaped, PyData.canLay0, ints_lay ns, PyData.depth, ints_depth ns]
theorem ints_eqv_nil (ns : List Int) : PyData.eqv (.list (ns.map PyData.int)) (.list []) = decide (ns = []) := by
  cases ns with
  | nil => simp [PyData.eqv, PyData.eqvAll]
  | cons n ns => simp [PyData.eqv, PyData.eqvAll]

abbrev sDraw : Stmt := topS 67
theorem scDraw : FnScope ["deck", "ways", "drawn", "number", "cell"] ["deck", "ways"] (defScope sDraw) := ⟨rfl, rfl, rfl, by decide +kernel, rfl, by decide +kernel, by decide +kernel⟩
section
variable {P : Program} {w : World} {K : PySem.W.Frag} {mg : Str → Option Value} {base : Heap}
/-- what a draw does to the deck -/
def spDraw : Sp := fun vs H Q _ => ∃ (d c : Addr) (n : Nat) (ways : Int), vs = [.ref d, .int ways] ∧ Deck H d c n ∧ n < 2 ^ 40 ∧ 1 ≤ ways ∧ ways < 1073741824 ∧
  ∀ (r : Int) H', 0 ≤ r → r < ways → Sm [d, c] H H' → Deck H' d c (n + 1) → Q (.int r) H'
theorem ok_draw {f : Addr} {fd : FuncData} (F : Fun K "_law_draw" "_law_draw" sDraw f fd) (B : Bn mg) : FnOk P w K mg base CX0 1 f fd ["deck", "ways"] spDraw := by
  refine F.ok scDraw (fun vs H Q E h => ?_) (fun cdv A outer s H vs Q E hr h => ?_)
  · obtain ⟨d, c, n, ways, rfl, _⟩ := h
    rfl
  · obtain ⟨d, c, n, ways, rfl, hD, hn, w1, w2, q⟩ := h
    have hu := hu_of hr
    have nd := scDraw.nd
    refine ⟨_, pss_cons (ps_par rfl nd rfl rfl (by decide) rfl rfl (i := 2) (j := 3) (pa_cons (pe_op op_add (pe_dget hu (pv 0) pe_str (fun _ _ => rfl)) pe_int) (pa_cons (pe_dget hu (pv 0) pe_str (fun _ _ => rfl)) pa_nil)) (by rfl))
      (pss_cons (ps_dput hu (pv 0) pe_str (pv 2) rfl)
      (Evl.pss_cut (ps_if (pt_cmpR (op_neD hr.units) (pe_dget hu (pv 0) pe_str (fun _ _ => rfl)) (pe_lst pa_nil) (nomark _))
          (pss_cons (ps_set (i := 4) nd rfl (.inl rfl) (pe_bm0 PySem.F.plainAttrs_list PySem.F.slot_list_pop PySem.F.type_list_pop mt_pop (pe_dget hu (pv 0) pe_str (fun _ _ => rfl))))
          (pss_cons (ps_if (pt_cmpR op_ge (pv 4) (pe_op op_pow pe_int pe_int) (nomark _))
              (pss_cons (ps_expr (pe_bm PySem.F.plainAttrs_list PySem.F.slot_list_append PySem.F.type_list_append mt_append (pe_dget hu (pv 0) pe_str (fun _ _ => rfl))
                  (pa_cons (pe_op op_fdiv (pv 4) (pe_callB (call_max2 rfl) (by rfl) B.max boot_max (pa_cons pe_int (pa_cons (pv 1) pa_nil)))) pa_nil)))
                (pss_one (ps_ret (pe_op op_mod (pv 4) (pv 1))))) pss_nil)
            (pss_one (ps_set (i := 3) nd rfl (.inl rfl) (pe_op op_add (pv 3) (pv 4)))))) pss_nil)
      (pss_cons (ps_set (i := 3) nd rfl (.inl rfl) (pe_op op_mod (pe_op op_mul (pe_op op_add (pe_op op_add (pe_op op_mod (pv 3) pe_int) (pe_op op_mul (pe_op op_mul pe_int (pv 2)) (pv 2))) pe_int) pe_int) pe_int))
      (pss_cons (ps_set (i := 3) nd rfl (.inl rfl) (pe_op op_mod (pe_op op_add (pe_op op_add (pe_op op_mul (pv 3) (pv 3)) (pe_op op_mul pe_int (pv 2))) pe_int) pe_int))
      (pss_one (ps_ret (pe_op op_mod (pe_op op_fdiv (pe_op op_mod (pe_op op_mul (pv 3) pe_int) pe_int) pe_int) (pv 1)))))))), ?_⟩
    obtain ⟨cs, b, e1, e2, hl, b0, b1⟩ := hD.ex
    have ndc := hD.ne
    -- drawn, number
    refine ⟨.ref d, rfl, d, .int n, rfl, .inl ⟨_, Sum.inr "drawn", .inl e1, rfl, rfl⟩, n, 1, rfl, rfl, .ref d, rfl, d, .int b, rfl, .inl ⟨_, Sum.inr "blend", .inl e1, rfl, rfl⟩, _, _, rfl, ?_⟩
    refine ⟨.int (n + 1), rfl, .ref d, rfl, d, _, rfl, DPut.k (k := Sum.inr "drawn") e1 (by show 3 < sizeLine; decide), ?_⟩
    rw [dkv_put]
    have s1 : Sm [d, c] H (upd H d (.dK (dkv c b (n + 1)))) := Sm.refl.put (by simp)
    have e1' : (upd H d (.dK (dkv c b (n + 1)))) d = some (.dK (dkv c b (n + 1))) := upd_same
    have e2' : (upd H d (.dK (dkv c b (n + 1)))) c = some (.lst (cs.map V.int)) := by
      rw [upd_ne ndc.symm]
      exact e2
    generalize upd H d (.dK (dkv c b (n + 1))) = H1 at s1 e1' e2'
    refine ⟨fun σ' H' => ∃ (x : Int) (y : Option V), σ' = [some (.ref d), some (.int ways), some (.int (n + 1)), some (.int x), y] ∧ Sm [d, c] H H' ∧ Deck H' d c (n + 1), ?_, fun σ' H' hM => ?_⟩
    · -- if deck['cells'] != []
      refine ⟨.ref d, rfl, d, .ref c, rfl, .inl ⟨_, Sum.inr "cells", .inl e1', rfl, rfl⟩, Nat.zero_le _, fun p hp => ?_⟩
      have s2 : Sm [d, c] H (upd H1 p (.lst [])) := s1.new hp
      have e1'' : (upd H1 p (.lst [])) d = some (.dK (dkv c b (n + 1))) := by
        rw [upd_ne (ne_of_none e1' hp)]
        exact e1'
      have e2'' : (upd H1 p (.lst [])) c = some (.lst (cs.map V.int)) := by
        rw [upd_ne (ne_of_none e2' hp)]
        exact e2'
      have ep : (upd H1 p (.lst [])) p = some (.lst []) := upd_same
      generalize upd H1 p (.lst []) = H2 at s2 e1'' e2'' ep
      refine ⟨_, _, Dp.lst (SqL.of e2'') (ints_dp cs), Dp.lst (SqL.of ep) .nil, ints_shaped cs, by decide, _, rfl, ?_⟩
      rw [ints_eqv_nil]
      refine ite2 (fun hc => ?_) (fun hc => ?_)
      · have hne : cs ≠ [] := by simpa using hc
        obtain ⟨cs', x, rfl⟩ : ∃ cs' x, cs = cs' ++ [x] := ⟨cs.dropLast, cs.getLast hne, (List.dropLast_concat_getLast hne).symm⟩
        refine ⟨.ref d, rfl, d, .ref c, rfl, .inl ⟨_, Sum.inr "cells", .inl e1'', rfl, rfl⟩, .inl ⟨rfl, _, SqL.of e2''⟩, c, _, .int x, rfl, rfl, e2'', by simp, ?_⟩
        have e1c : (upd H2 c (.lst (((cs' ++ [x]).map V.int).dropLast))) d = some (.dK (dkv c b (n + 1))) := by
          rw [upd_ne ndc]
          exact e1''
        have e2c : (upd H2 c (.lst (((cs' ++ [x]).map V.int).dropLast))) c = some (.lst (cs'.map V.int)) := by
          rw [upd_same]
          simp
        have s3 : Sm [d, c] H (upd H2 c (.lst (((cs' ++ [x]).map V.int).dropLast))) := s2.put (by simp)
        generalize upd H2 c (.lst (((cs' ++ [x]).map V.int).dropLast)) = H3 at s3 e1c e2c
        have hl' : cs'.length + 1 ≤ 63 := by simpa using hl
        -- if cell >= 10 ** 18
        refine ⟨.int x, rfl, 10, 18, rfl, rfl, ⟨by decide, by decide, by decide⟩, x, 10 ^ 18, rfl, rfl, _, rfl, ite2 (fun hx => ?_) (fun hx => ?_)⟩
        · have hw : (if ways > 2 then ways else 2) = max 2 ways := by
            by_cases h : ways > 2
            · rw [if_pos h]; omega
            · rw [if_neg h]; omega
          refine ⟨.ref d, rfl, d, .ref c, rfl, .inl ⟨_, Sum.inr "cells", .inl e1c, rfl, rfl⟩, .inl ⟨rfl, _, SqL.of e2c⟩, .int x, rfl, .int ways, rfl, 2, ways, rfl, x, _, rfl, rfl, ?_, c, _, _, rfl, rfl, e2c, ?_, ?_⟩
          · rw [hw]
            exact ⟨by omega, by omega⟩
          · rw [List.length_map]
            exact small1000 (by omega)
          refine ⟨.int x, rfl, .int ways, rfl, x, ways, rfl, rfl, by show (0 : Int) < ways; omega, ?_⟩
          refine q _ _ (Int.emod_nonneg _ (by omega)) (Int.emod_lt_of_pos _ (by omega)) (s3.put (by simp)) ⟨cs' ++ [x / max 2 ways], b, ?_, ?_, ?_, b0, b1⟩
          · rw [upd_ne ndc]
            exact e1c
          · rw [upd_same, hw]
            simp
          · simpa using hl'
        · refine ⟨.int b, rfl, .int x, rfl, b, x, rfl, rfl, b + x, _, rfl, s3, cs', b, e1c, e2c, by omega, b0, b1⟩
      · exact ⟨b, none, rfl, s2, cs, b, e1'', e2'', hl, b0, b1⟩
    · obtain ⟨x, y, rfl, s2, hD2⟩ := hM
      have hm : ∀ z m : Int, 0 < m → 0 ≤ z % m ∧ z % m < m := fun z m h => ⟨Int.emod_nonneg _ (by omega), Int.emod_lt_of_pos _ h⟩
      have n1 : CMul 92821 ((n : Int) + 1) := .inl ⟨by decide, by decide⟩
      have n2 : CMul (92821 * ((n : Int) + 1)) ((n : Int) + 1) := .inr ⟨by omega, by omega⟩
      have n3 : CMul 69621 ((n : Int) + 1) := .inl ⟨by decide, by decide⟩
      have cz : ∀ z : Int, 0 ≤ z → z < 2147483647 → -(2 ^ 64) < z ∧ z < 2 ^ 64 := fun z h0 h1 => ⟨by omega, by omega⟩
      refine ⟨_, rfl, x, 2147483629, rfl, rfl, (show (0 : Int) < 2147483629 by decide), _, rfl, 92821, _, rfl, rfl, n1, _, rfl, _, _, rfl, rfl, n2, _, _, rfl, rfl, _, 29, rfl, rfl, _, 39373, rfl, rfl, .inr ⟨by decide, by decide⟩, _, 2147483647, rfl, rfl, (show (0 : Int) < 2147483647 by decide), ?_⟩
      obtain ⟨a0, a1⟩ := hm ((x % 2147483629 + 92821 * ((n : Int) + 1) * ((n : Int) + 1) + 29) * 39373) 2147483647 (by decide)
      refine ⟨_, rfl, _, rfl, _, _, rfl, rfl, .inl (cz _ a0 a1), _, rfl, 69621, _, rfl, rfl, n3, _, _, rfl, rfl, _, 7, rfl, rfl, _, 2147483563, rfl, rfl, (show (0 : Int) < 2147483563 by decide), ?_⟩
      refine ⟨_, rfl, _, 40692, rfl, rfl, .inr ⟨by decide, by decide⟩, _, 2147483587, rfl, rfl, (show (0 : Int) < 2147483587 by decide), _, 64, rfl, rfl, ⟨by decide, by decide⟩, _, rfl, _, ways, rfl, rfl, (by show (0 : Int) < ways; omega), ?_⟩
      exact q _ _ (hm _ _ (by omega)).1 (hm _ _ (by omega)).2 s2 hD2
end
end K92

namespace K92
open PySem PySem.Spec PyProof.Rows L2

theorem erase_perm {α : Type} : ∀ (l : List α) (j : Nat) (h : j < l.length), (l[j] :: l.eraseIdx j).Perm l
  | [], j, h => absurd h (Nat.not_lt_zero j)
  | x :: r, 0, h => List.Perm.refl _
  | x :: r, j + 1, h => by
    have hj : j < r.length := Nat.lt_of_succ_lt_succ h
    have ih := erase_perm r j hj
    show (r[j] :: x :: r.eraseIdx j).Perm (x :: r)
    exact (List.Perm.swap x r[j] _).trans (ih.cons x)
/-- a list that is no deck's, a tuple, a text, by its items -/
def SeqV (D : List Addr) (H : Hp) (v : V) (xs : List V) : Prop :=
  (∃ a, v = .ref a ∧ H a = some (.lst xs) ∧ a ∉ D) ∨ (∃ a, v = .ref a ∧ H a = some (.tup xs)) ∨ ∃ z : Str, v = .str z ∧ z.length ≤ sizeLine ∧ xs = z.cps.toList.map fun c => V.str ⟨#[c]⟩

abbrev sPick : Stmt := topS 68
theorem scPick : FnScope ["deck", "some"] ["deck", "some"] (defScope sPick) := ⟨rfl, rfl, rfl, by decide +kernel, rfl, by decide +kernel, by decide +kernel⟩
theorem SeqV.len {K : PySem.W.Frag} {D : List Addr} {H : Hp} {v : V} {xs : List V} (h : SeqV D H v xs) : LenV K v H xs.length := by
  rcases h with ⟨a, rfl, h, _⟩ | ⟨a, rfl, h⟩ | ⟨z, rfl, h1, h2⟩
  · exact .inl ⟨_, SqL.of h, rfl⟩
  · exact .inr ⟨_, SqT.of h, rfl⟩
  · refine ⟨h1, ?_⟩
    rw [h2, List.length_map]
    rfl
theorem SeqV.mono {D : List Addr} {H H' : Hp} {v : V} {xs : List V} (h : SeqV D H v xs) (s : Sm D H H') (n : NT D H) : SeqV D H' v xs := by
  rcases h with ⟨a, rfl, h, m⟩ | ⟨a, rfl, h⟩ | h
  · exact .inl ⟨a, rfl, s _ _ h m, m⟩
  · exact .inr (.inl ⟨a, rfl, s.kpD n _ _ h⟩)
  · exact .inr (.inr h)
theorem SeqV.ix {K : PySem.W.Frag} {D : List Addr} {H : Hp} {v x : V} {xs : List V} {Q : VK} {i : Nat} (h : SeqV D H v xs) (e : xs[i]? = some x) (q : Q x H) : rIx K v (.int i) H Q := by
  rcases h with ⟨a, rfl, h, _⟩ | ⟨a, rfl, h⟩ | ⟨z, rfl, h1, h2⟩
  · exact .inl ⟨a, xs, i, x, rfl, rfl, SqL.of h, atI_nat e, q⟩
  · exact .inr (.inl ⟨a, xs, i, x, rfl, rfl, SqT.of h, atI_nat e, q⟩)
  · subst h2
    rw [List.getElem?_map] at e
    cases hc : z.cps.toList[i]? with
    | none => rw [hc] at e; cases e
    | some ch =>
      rw [hc] at e
      cases e
      exact .inr (.inr ⟨z, i, ch, rfl, rfl, h1, atI_nat hc, q⟩)
section
variable {P : Program} {w : World} {K : PySem.W.Frag} {mg : Str → Option Value} {base : Heap}
def spPick : Sp := fun vs H Q _ => ∃ (d c : Addr) (n : Nat) (v : V) (xs : List V), vs = [.ref d, v] ∧ Deck H d c n ∧ n < 2 ^ 40 ∧ SeqV [d, c] H v xs ∧ 1 ≤ xs.length ∧ xs.length < 1073741824 ∧
  ∀ (i : Nat) (x : V) H', xs[i]? = some x → Sm [d, c] H H' → Deck H' d c (n + 1) → Q x H'
theorem ok_pick {f : Addr} {fd : FuncData} (F : Fun K "_law_pick" "_law_pick" sPick f fd) (B : Bn mg) (cDraw : Cal P w K mg base "_law_draw" ["deck", "ways"] 1 spDraw) : FnOk P w K mg base CX0 2 f fd ["deck", "some"] spPick := by
  refine F.ok scPick (fun vs H Q E h => ?_) (fun cdv A outer s H vs Q E hr h => ?_)
  · obtain ⟨d, c, n, v, xs, rfl, _⟩ := h
    rfl
  · obtain ⟨d, c, n, v, xs, rfl, hD, hn, hS, l1, l2, q⟩ := h
    refine ⟨_, pss_one (ps_ret (pe_ix ix_seq (pv 1) (pe_own cDraw hr (pa_cons (pv 0) (pa_cons (pe_callB call_len (by rfl) B.len boot_len (pa_cons (pv 1) pa_nil)) pa_nil))) (fun _ _ => rfl))), ?_⟩
    refine ⟨v, rfl, .ref d, rfl, v, rfl, v, xs.length, rfl, hS.len, d, c, n, xs.length, rfl, hD, hn, by omega, by omega, fun r H' r0 r1 s1 hD1 => ?_⟩
    obtain ⟨i, rfl⟩ : ∃ i : Nat, r = i := ⟨r.toNat, by omega⟩
    have hi : i < xs.length := by omega
    have e : xs[i]? = some xs[i] := List.getElem?_eq_getElem hi
    exact (hS.mono s1 hD.nt).ix e (q i _ H' e s1 hD1)
end
end K92

namespace K92
open PySem PySem.Spec PyProof.Rows L2

abbrev sDeck : Stmt := topS 66
theorem scDeck : FnScope ["script", "salt", "cells", "blend", "cell"] ["script", "salt"] (defScope sDeck) := ⟨rfl, rfl, rfl, by decide +kernel, rfl, by decide +kernel, by decide +kernel⟩
section
variable {P : Program} {w : World} {K : PySem.W.Frag} {mg : Str → Option Value} {base : Heap}
def spDeck (K : PySem.W.Frag) : Sp := fun vs H Q _ => ∃ (a : Addr) (ns : List Int) (salt : Int), vs = [.ref a, .int salt] ∧ SqL K H a (ns.map V.int) ∧ ns.length ≤ 63 ∧ 0 ≤ salt ∧ salt < 1000000 ∧
  ∀ (d c : Addr) H', Sm [] H H' → Deck H' d c 0 → Q (.ref d) H'
theorem ok_deck {f : Addr} {fd : FuncData} (F : Fun K "_law_deck" "_law_deck" sDeck f fd) (B : Bn mg) : FnOk P w K mg base CX0 1 f fd ["script", "salt"] (spDeck K) := by
  refine F.ok scDeck (fun vs H Q E h => ?_) (fun cdv A outer s H vs Q E hr h => ?_)
  · obtain ⟨a, ns, salt, rfl, _⟩ := h
    rfl
  · obtain ⟨a, ns, salt, rfl, hS, hl, t0, t1, q⟩ := h
    have nd := scDeck.nd
    refine ⟨_, pss_cons (ps_par (i := 2) (j := 3) rfl nd rfl rfl (by decide) rfl rfl (pa_cons (pe_callTy call_list_of (by rfl) B.list boot_list (pa_cons (pe_slice sl_list (pv 0) po_none (po_some pe_int)) pa_nil)) (pa_cons (pe_op op_add pe_int (pv 1)) pa_nil)) (by rfl))
      (pss_cons (ps_for PassesOwn.never rfl (pi_list (pv 2)) (pg_name (i := 4) nd rfl (.inl rfl)) (pss_one (ps_set (i := 3) nd rfl (.inl rfl)
          (pe_op op_mod (pe_op op_add (pe_op op_add (pe_op op_mul (pv 3) pe_int) (pe_op op_mod (pv 4) pe_int)) pe_int) pe_int))))
      (pss_one (ps_ret (pe_disp (pps_cons pe_str (pe_revL (pv 2)) (pps_cons pe_str (pv 3) (pps_cons pe_str pe_int pps_nil))) (by rfl) (by rfl) (fun z => by cases z) (by decide))))), ?_⟩
    refine ⟨.ref a, rfl, 63, rfl, a, ns.map V.int, rfl, hS, fun p hp => ?_⟩
    have s1 : Sm [] H (upd H p (.lst (cutV (ns.map V.int) none (some 63)))) := Sm.refl.new hp
    have hc : cutV (ns.map V.int) none (some 63) = ns.map V.int := by
      unfold cutV
      rw [HT.sIx_none, show HT.sIx (ns.map V.int).length (ns.map V.int).length (some 63) = min 63 (ns.map V.int).length from HT.sIx_nat _ _ 63, List.drop_zero, Nat.sub_zero, List.length_map, List.take_of_length_le]
      rw [List.length_map]; omega
    rw [hc] at s1 ⊢
    have ep : (upd H p (.lst (ns.map V.int))) p = some (.lst (ns.map V.int)) := upd_same
    generalize upd H p (.lst (ns.map V.int)) = H1 at s1 ep
    refine ⟨p, _, rfl, .inl (SqL.of ep), fun l hl1 => ?_⟩
    have s2 : Sm [] H (upd H1 l (.lst (ns.map V.int))) := s1.new hl1
    have el : (upd H1 l (.lst (ns.map V.int))) l = some (.lst (ns.map V.int)) := upd_same
    generalize upd H1 l (.lst (ns.map V.int)) = H2 at s2 el
    refine ⟨.int salt, rfl, 19437000, salt, rfl, rfl, _, _, rfl, ?_⟩
    -- the loop
    refine ⟨.ref l, rfl, l, rfl, ⟨_, SqL.of el⟩, for_list (xs := ns.map V.int) (fun i σ H' => H' = H2 ∧ ∃ (b : Int) (y4 : Option V), σ = [some (.ref a), some (.int salt), some (.ref l), some (.int b), y4] ∧ 0 ≤ b ∧ b < 2147483587) ?_ ?_ ?_ ?_⟩
    · exact ⟨rfl, _, _, rfl, by omega, by omega⟩
    · rintro i σ H' _ ⟨rfl, _⟩
      exact SqL.of el
    · rintro i x σ H' hx ⟨rfl, b, y4, rfl, b0, b1⟩
      obtain ⟨z, hz, rfl⟩ : ∃ z, ns[i]? = some z ∧ V.int z = x := by
        rw [List.getElem?_map] at hx
        cases e : ns[i]? with
        | none => rw [e] at hx; cases hx
        | some z => rw [e] at hx; exact ⟨z, rfl, Option.some.inj hx⟩
      refine ⟨_, rfl, b, 48271, rfl, rfl, .inr ⟨by decide, by decide⟩, _, rfl, z, 2147483629, rfl, rfl, (show (0 : Int) < 2147483629 by decide), _, _, rfl, rfl, _, 17, rfl, rfl, _, 2147483587, rfl, rfl, (show (0 : Int) < 2147483587 by decide), ?_⟩
      exact ⟨rfl, _, _, rfl, Int.emod_nonneg _ (by decide), Int.emod_lt_of_pos _ (by decide)⟩
    · rintro σ H' ⟨rfl, b, y4, rfl, b0, b1⟩
      refine fun d hd => ?_
      have ed : (upd H' d (.dK [])) d = some (.dK []) := upd_same
      have nld : l ≠ d := ne_of_none el hd
      have el' : (upd H' d (.dK [])) l = some (.lst (ns.map V.int)) := by
        rw [upd_ne nld]; exact el
      refine ⟨.ref l, rfl, l, _, rfl, SqL.of el', fun c hc1 => ⟨_, rfl, ?_, [(Sum.inr "cells", .ref c), (Sum.inr "blend", .int b), (Sum.inr "drawn", .int 0)], rfl, (by show 3 ≤ 15; decide), ?_⟩⟩
      · rw [upd_ne (ne_of_none ed hc1)]
        exact ed
      · refine q d c _ (((s2.new hd).new hc1).own (s2.free hd (by simp))) ⟨ns.reverse, b, upd_same, ?_, by simpa using hl, b0, b1⟩
        rw [upd_ne (ne_of_none ed hc1).symm, upd_same, List.map_reverse]
end
end K92

/-! dict(zip(t, u)), t and u tuples -/
namespace ZT
open PySem
/-- a zip's two iterators stand at place k of their tuples -/
structure Mid (h : Heap) (TI i1 i2 l1 l2 : Addr) (xs ys : Array Value) (k : Nat) : Prop where
  ti : IsPair h TI (.ref i1) (.ref i2)
  a : h.IsTupleIter i1 l1 k
  b : h.IsTupleIter i2 l2 k
  xs : h.IsTuple l1 xs
  ys : h.IsTuple l2 ys
theorem Mid.to {h h' : Heap} {TI i1 i2 l1 l2 : Addr} {xs ys : Array Value} {k : Nat} (m : Mid h TI i1 i2 l1 l2 xs ys k) (keep : ∀ c ∈ [TI, i1, i2, l1, l2], ∀ o, h.get? c = some o → h'.get? c = some o) : Mid h' TI i1 i2 l1 l2 xs ys k :=
  ⟨keep TI (by simp) _ m.ti, m.a.at fun o e => keep i1 (by simp) o e, m.b.at fun o e => keep i2 (by simp) o e, m.xs.at fun o e => keep l1 (by simp) o e, m.ys.at fun o e => keep l2 (by simp) o e⟩
/-- but for these three all is as it was -/
def But3 (z i1 i2 : Addr) (h h' : Heap) : Prop := ∀ c o, c ≠ z → c ≠ i1 → c ≠ i2 → h.get? c = some o → h'.get? c = some o
section
variable {prog : Program} {w : World} {A : Around} {E : Value → Shared → Prop} {s : Shared} {z TI TO T i1 i2 l1 l2 : Addr} {xs ys : Array Value} {k : Nat}
/-- the builtin's own step while the tuple that it gave before is still there -/
theorem stepHeld {f : Bool} {oT : Obj} {R : PySem.Fin → Shared → Prop} (calm : A.handled = none) (D : ZipApart z TI TO i1 i2 l1 l2) (hz : IsZipHeld s.heap z TI TO T f) (hT : s.heap.get? T = some oT) (m : Mid s.heap TI i1 i2 l1 l2 xs ys k)
    (go : ∀ x y h', xs[k]? = some x → ys[k]? = some y → IsZipHeld h' z TI TO T true → h'.IsTupleIter i1 l1 (k + 1) → h'.IsTupleIter i2 l2 (k + 1) → IsPair h' s.heap.objs.size x y → But3 z i1 i2 s.heap h' → R (.done (.ret (.ref s.heap.objs.size))) { s with heap := h' })
    (stop : xs[k]? = none ∨ ys[k]? = none → ∀ h' e, But3 z i1 i2 s.heap h' → (∃ o, h'.get? e = some o ∧ o.cls = .type "StopIteration") → E (.ref e) { s with heap := h' }) :
    wpAny (model prog w) A (Builtin.«zip.__next__» ⟨[.ref z], []⟩) R E s := by
  have fd : ∀ {i : Nat} {v : Value} {Q : Value → Shared → Prop} (_ : (#[rawInt T, Value.bool f, .bool false, .ref TI, .ref TO] : Array Value)[i]? = some v), Q v s → wpAny (model prog w) A (field (.ref z) i) Q E s := fun e q => wpAny_field hz rfl e q
  unfold Builtin.«zip.__next__»
  refine wpAny_bind (wpAny_pure ?_)
  refine wpAny_bind (fd (i := 2) rfl (wpAny_bind (fd (i := 3) rfl (wpAny_bind (wpAny_seqItems m.ti rfl (wpAny_bind (wpAny_tupleHeld_zip hz hT fun g1 z1 b1 => ?_)))))))
  rw [if_neg Bool.false_ne_true]
  refine wpAny_bind ?_
  simp only [← Array.forIn_toList, List.forIn_cons, List.forIn_nil]
  have s1 := b1.extBut
  refine wpAny_bind (wpAny_bind (wpAny_holding (wpAny_bind (m := Builtin.SmallTypes.nextOf (.ref i1)) ?_)))
  have m1 := m.to fun c hc o e => s1 c o (by
    simp only [List.mem_cons, List.not_mem_nil, or_false] at hc
    rcases hc with rfl | rfl | rfl | rfl | rfl
    · exact D.TIz
    · exact D.i1z
    · exact D.i2z
    · exact D.l1z
    · exact D.l2z) e
  cases hx : xs[k]? with
  | none =>
    refine RZ.nextOf_tuple_end (s := { s with heap := g1 }) calm m1.a m1.xs hx fun g2 e s2 he => ?_
    exact stop (.inl hx) g2 e (fun c o nz n1 _ q => s2 c o n1 (s1 c o nz q)) he
  | some x =>
    refine RZ.nextOf_tuple_item (s := { s with heap := g1 }) m1.a m1.xs hx fun g2 a2 b2 => ?_
    have s2 := b2.extBut
    refine wpAny_pure (wpAny_pure (wpAny_bind (wpAny_bind (wpAny_holding (wpAny_bind (m := Builtin.SmallTypes.nextOf (.ref i2)) ?_)))))
    have bI : g2.IsTupleIter i2 l2 k := m1.b.at fun o e => s2 i2 o D.i12.symm e
    have yI : g2.IsTuple l2 ys := m1.ys.at fun o e => s2 l2 o D.l2i1 e
    cases hy : ys[k]? with
    | none =>
      refine RZ.nextOf_tuple_end (s := { s with heap := g2 }) calm bI yI hy fun g3 e s3 he => ?_
      exact stop (.inr hy) g3 e (fun c o nz n1 n2 q => s3 c o n2 (s2 c o n1 (s1 c o nz q))) he
    | some y =>
      refine RZ.nextOf_tuple_item (s := { s with heap := g2 }) bI yI hy fun g3 a3 b3 => ?_
      have s3 := b3.extBut
      refine wpAny_pure (wpAny_pure (wpAny_pure (wpAny_bind (m := newTuple [x, y]) (wpAny_newTuple (wpAny_pure ?_)))))
      have sz : s.heap.objs.size = g3.objs.size := b1.1.symm.trans (b2.1.symm.trans b3.1.symm)
      rw [show ({ s with heap := g3 } : Shared).heap.objs.size = g3.objs.size from rfl, ← sz]
      have up : ∀ {c o}, g3.get? c = some o → (g3.push { cls := .type "tuple", data := .seq #[x, y] }).get? c = some o := fun q => Heap.get?_push_of_some _ q
      refine go x y _ hx hy (up (s3 z _ D.i2z.symm (s2 z _ D.i1z.symm z1))) ((a2.at fun o e => s3 i1 o D.i12 e).at fun o e => up e) (a3.at fun o e => up e) ?_ fun c o nz n1 n2 q => up (s3 c o n2 (s2 c o n1 (s1 c o nz q)))
      rw [sz]
      exact Heap.get?_push_size _ rfl
/-- next(z) while the tuple that it gave before is still there -/
theorem pyNextHeld {f : Bool} {oT : Obj} {Q : Option Value → Shared → Prop} (calm : A.handled = none) (D : ZipApart z TI TO i1 i2 l1 l2) (hz : IsZipHeld s.heap z TI TO T f) (hT : s.heap.get? T = some oT) (m : Mid s.heap TI i1 i2 l1 l2 xs ys k)
    (go : ∀ x y h', xs[k]? = some x → ys[k]? = some y → IsZipHeld h' z TI TO T true → h'.IsTupleIter i1 l1 (k + 1) → h'.IsTupleIter i2 l2 (k + 1) → IsPair h' s.heap.objs.size x y → But3 z i1 i2 s.heap h' → Q (some (.ref s.heap.objs.size)) { s with heap := h' })
    (stop : xs[k]? = none ∨ ys[k]? = none → ∀ h', But3 z i1 i2 s.heap h' → Q none { s with heap := h' }) : wpAny (model prog w) A (pyNext (.ref z)) Q E s := by
  have ty : s.TypeIs (.ref z) "zip" := ⟨_, hz, rfl⟩
  unfold pyNext
  refine wpAny_bind (wpAny_attempt (wpAny_callSpecial?_slot (name := Str.ofString "__next__") ty F.slot_zip_next (wpAny_call_entry F.slot_zip_next ty F.entry_zip_next (stepHeld calm D hz hT m (fun x y h' ex ey a b c d e => ?_) fun no h' e b he => ?_) (F.args_zip_next_1 _))))
  · exact ⟨_, rfl, wpAny_pure (go x y h' ex ey a b c d e)⟩
  · obtain ⟨o, ho, hc⟩ := he
    exact wpAny_bind (wpAny_isInstance (T := "StopIteration") (b := true) ⟨o, ho, hc⟩ isSubtype_stop (wpAny_pure (stop no h' b)))
/-- the zip as it stands: it holds no tuple yet, or one that is not the dict's -/
def Out (h : Heap) (z TI TO i1 i2 d : Addr) : Prop :=
  (IsZip h z TI TO .none ∧ ∃ a b, IsPair h TO a b) ∨ ∃ T f oT, IsZipHeld h z TI TO T f ∧ h.get? T = some oT ∧ ∀ c ∈ [z, i1, i2, d], T ≠ c
theorem Out.to {h h' : Heap} {z TI TO i1 i2 d : Addr} (o : Out h z TI TO i1 i2 d) (nz : z ≠ d) (nT : TO ≠ d) (hk : ∀ c o, c ≠ d → h.get? c = some o → h'.get? c = some o) : Out h' z TI TO i1 i2 d := by
  rcases o with ⟨q, a, b, t⟩ | ⟨T, f, oT, q, t, no⟩
  · exact .inl ⟨hk z _ nz q, a, b, hk TO _ nT t⟩
  · exact .inr ⟨T, f, oT, hk z _ nz q, hk T _ (no d (by simp)) t, no⟩
/-- next(z), however the zip stands -/
theorem pyNextOut {d : Addr} {Q : Option Value → Shared → Prop} (calm : A.handled = none) (D : ZipApart z TI TO i1 i2 l1 l2) (o : Out s.heap z TI TO i1 i2 d) (low : xs[k]? = none ∨ d < s.heap.objs.size) (m : Mid s.heap TI i1 i2 l1 l2 xs ys k)
    (go : ∀ x y h', xs[k]? = some x → ys[k]? = some y → Out h' z TI TO i1 i2 d → Mid h' TI i1 i2 l1 l2 xs ys (k + 1) → IsPair h' s.heap.objs.size x y → (∀ c o, c ∉ [z, TO, i1, i2] → s.heap.get? c = some o → h'.get? c = some o) → Q (some (.ref s.heap.objs.size)) { s with heap := h' })
    (stop : xs[k]? = none ∨ ys[k]? = none → ∀ h', (∀ c o, c ∉ [z, TO, i1, i2] → s.heap.get? c = some o → h'.get? c = some o) → Q none { s with heap := h' }) : wpAny (model prog w) A (pyNext (.ref z)) Q E s := by
  have new : ∀ {c q}, s.heap.get? c = some q → s.heap.objs.size ≠ c := fun e => (Nat.ne_of_lt (Heap.lt_size e)).symm
  have f3 : ∀ {h'}, But3 z i1 i2 s.heap h' → ∀ c o, c ∉ [z, TO, i1, i2] → s.heap.get? c = some o → h'.get? c = some o := fun b c o no e => b c o (fun x => no (by simp [x])) (fun x => no (by simp [x])) (fun x => no (by simp [x])) e
  have f4 : ∀ {h' : Heap}, (∀ c o, c ≠ z → c ≠ TO → c ≠ i1 → c ≠ i2 → s.heap.get? c = some o → h'.get? c = some o) → ∀ c o, c ∉ [z, TO, i1, i2] → s.heap.get? c = some o → h'.get? c = some o := fun b c o no e => b c o (fun x => no (by simp [x])) (fun x => no (by simp [x])) (fun x => no (by simp [x])) (fun x => no (by simp [x])) e
  obtain ⟨p1, q1, r1⟩ := m.a
  obtain ⟨p2, q2, r2⟩ := m.b
  rcases o with ⟨hz, a, b, t⟩ | ⟨T, f, oT, hz, hT, no⟩
  · by_cases hx : k < xs.size ∧ k < ys.size
    · refine RZ.pyNext_zipT_item D hz m.ti t m.a m.b m.xs m.ys (Array.getElem?_eq_getElem hx.1) (Array.getElem?_eq_getElem hx.2) fun h' a1 a2 a3 a4 a5 a6 hk => ?_
      refine go _ _ h' (Array.getElem?_eq_getElem hx.1) (Array.getElem?_eq_getElem hx.2) (.inr ⟨s.heap.objs.size, false, _, a1, a5, fun c hc => ?_⟩) ⟨hk _ _ D.TIz D.TITO D.TIi1 D.TIi2 m.ti, a3, a4, m.xs.at fun o e => hk _ o D.l1z D.l1TO D.l1i1 D.l1i2 e, m.ys.at fun o e => hk _ o D.l2z D.l2TO D.l2i1 D.l2i2 e⟩ a5 (f4 hk)
      simp only [List.mem_cons, List.not_mem_nil, or_false] at hc
      rcases hc with rfl | rfl | rfl | rfl
      · exact new hz
      · exact new q1
      · exact new q2
      · exact (Nat.ne_of_lt (low.resolve_left fun e => nomatch (Array.getElem?_eq_getElem hx.1).symm.trans e)).symm
    · have no : xs[k]? = none ∨ ys[k]? = none := by
        by_cases h1 : k < xs.size
        · exact .inr (Array.getElem?_eq_none (Nat.le_of_not_lt fun h2 => hx ⟨h1, h2⟩))
        · exact .inl (Array.getElem?_eq_none (Nat.le_of_not_lt h1))
      exact RZ.pyNext_zipT_end calm D hz m.ti t m.a m.b m.xs m.ys no fun h' hk => stop no h' (f4 hk)
  · refine pyNextHeld calm D hz hT m (fun x y h' ex ey a b cc pr hk => ?_) fun no h' hk => stop no h' (f3 hk)
    exact go x y h' ex ey (.inr ⟨T, true, oT, a, hk T oT (no z (by simp)) (no i1 (by simp)) (no i2 (by simp)) hT, no⟩) ⟨hk _ _ D.TIz D.TIi1 D.TIi2 m.ti, b, cc, m.xs.at fun o e => hk _ o D.l1z D.l1i1 D.l1i2 e, m.ys.at fun o e => hk _ o D.l2z D.l2i1 D.l2i2 e⟩ pr (f3 hk)
end
section
variable {prog : Program} {w : World}
/-- a zip that has given nothing yet -/
def First (z TI TO i1 i2 l1 l2 : Addr) (xs ys : Array Value) (h : Heap) : Prop := IsZip h z TI TO .none ∧ (∃ a b, IsPair h TO a b) ∧ Mid h TI i1 i2 l1 l2 xs ys 0
theorem There_of {h : Heap} {z TI TO i1 i2 l1 l2 : Addr} {xs ys : Array Value} (g : First z TI TO i1 i2 l1 l2 xs ys h) {c : Addr} (hc : c ∈ [z, TI, TO, i1, i2, l1, l2]) : ∃ o, h.get? c = some o := by
  obtain ⟨hz, ⟨a, b, t⟩, m⟩ := g
  have q1 := m.a
  have q2 := m.b
  have q3 := m.xs
  have q4 := m.ys
  simp only [List.mem_cons, List.not_mem_nil, or_false] at hc
  rcases hc with rfl | rfl | rfl | rfl | rfl | rfl | rfl
  · exact ⟨_, hz⟩
  · exact ⟨_, m.ti⟩
  · exact ⟨_, t⟩
  · exact ⟨_, q1.choose_spec.1⟩
  · exact ⟨_, q2.choose_spec.1⟩
  · exact ⟨_, q3.choose_spec.1⟩
  · exact ⟨_, q4.choose_spec.1⟩
/-- the two tuples' zip, as dict() asks it -/
theorem asPairs (z TI TO i1 i2 l1 l2 : Addr) (D : ZipApart z TI TO i1 i2 l1 l2) (xs ys : Array Value) (n : Nat) (hn : xs.size = n) (hm : ys.size = n) :
    PairArg prog w "zip" z [z, TI, TO, i1, i2, l1, l2] [z, TO, i1, i2] n (fun i k v => xs[i]? = some k ∧ ys[i]? = some v) (First z TI TO i1 i2 l1 l2 xs ys) := by
  refine { type := fun s ok => ⟨_, ok.1, rfl⟩, notDict := by decide, keep := ?_, there := fun h ok b hb => There_of ok hb, sub := ?_, noKeys := fun A s Q E hA ok h => getAttrOr_miss_zip ok.1 rfl rfl rfl zip_no_keys (by decide +kernel) hA h, iter := ?_ }
  · rintro h h' ⟨hz, ⟨a, b, t⟩, m⟩ keep
    exact ⟨keep z _ hz, ⟨a, b, keep TO _ t⟩, m.to fun c _ o e => keep c o e⟩
  · intro b hb
    simp at hb ⊢
    rcases hb with rfl | rfl | rfl | rfl <;> simp
  · intro A s d Q E calm ok low far fin
    have ne : ∀ {c : Addr}, c ∈ [z, TI, TO, i1, i2, l1, l2] → c ≠ d := fun hc e => far (e ▸ hc)
    obtain ⟨hz, t, m0⟩ := ok
    refine wpAny_pyIter_zip hz (fin z [z, TO, i1, i2] (fun i h => Out h z TI TO i1 i2 d ∧ Mid h TI i1 i2 l1 l2 xs ys i) s.heap s.toks ?_ ⟨.inl ⟨hz, t⟩, m0⟩ (fun _ _ e => e) fun b hb => .inl hb)
    constructor
    · intro hc
      simp only [List.mem_cons, List.not_mem_nil, or_false] at hc
      rcases hc with e | e | e | e
      all_goals exact ne (by simp) e.symm
    · rintro i h1 h2 ⟨o, m⟩ keep
      exact ⟨o.to (ne (by simp)) (ne (by simp)) keep, m.to fun c hc o e => keep c o (ne (by
        simp only [List.mem_cons, List.not_mem_nil, or_false] at hc ⊢
        rcases hc with e | e | e | e | e <;> simp [e])) e⟩
    · rintro i s1 Q1 E1 hi ⟨o, m⟩ lw giv
      refine pyNextOut calm D o (.inr lw) m (fun x y h' ex ey o' m' pr keep => giv _ _ _ h' s1.toks ⟨ex, ey⟩ (.inl ⟨_, pr, rfl, _, rfl⟩) ⟨o', m'⟩ keep) fun no => ?_
      rcases no with no | no
      · rw [Array.getElem?_eq_getElem (by rw [hn]; exact hi)] at no
        cases no
      · rw [Array.getElem?_eq_getElem (by rw [hm]; exact hi)] at no
        cases no
    · rintro s1 Q1 E1 ⟨o, m⟩ fin1
      have out : xs[n]? = none := Array.getElem?_eq_none (Nat.le_of_eq hn)
      exact pyNextOut calm D o (.inl out) m (fun x y h' ex => nomatch out.symm.trans ex) fun _ h' keep => fin1 h' s1.toks keep
end
open L2 PySem.Spec PyProof.Rows
section
variable {X : Cx}
theorem at_of : ∀ {xs : List V} {us : List Value}, Vals xs us → ∀ {i : Nat} {u : Value}, us[i]? = some u → ∃ x, xs[i]? = some x ∧ RelV x u
  | _, _, .cons r _, 0, _, e => ⟨_, rfl, by cases e; exact r⟩
  | _, _, .cons _ t, i + 1, _, e => by simpa using at_of t (by simpa using e)
/-- keys written as texts or ints, beside values: what stands at place i -/
theorem zipped {P : Program} {w : World} {ks : List Key} {vs : List V} {us ws : List Value} (a : Vals (ks.map kV) us) (b : Vals vs ws) (i : Nat) (x y : Value) (hx : us[i]? = some x) (hy : ws[i]? = some y) : ∃ k, (ks.zip ws)[i]? = some (k, y) ∧ (mixKind P w).is k x = true := by
  obtain ⟨j, e, r⟩ := at_of a hx
  rw [List.getElem?_map] at e
  cases ek : ks[i]? with
  | none =>
    rw [ek] at e
    cases e
  | some k =>
    rw [ek] at e
    cases e
    exact ⟨k, by rw [List.getElem?_zip_eq_some]; exact ⟨ek, hy⟩, kV_is r⟩
theorem zipped_kv : ∀ (ks : List Key) {vs : List V} {ws : List Value}, Vals vs ws → KV (ks.zip vs) (ks.zip ws)
  | [], _, _, _ => .nil
  | _ :: _, _, _, .nil => .nil
  | _ :: ks, _, _, .cons r t => .cons ⟨rfl, r⟩ (zipped_kv ks t)
def tDictZip (K : PySem.W.Frag) (ta : TA) : TE := fun σ H Q => ta σ H fun vs H1 => ∃ (a b : Addr) (ks : List Key) (ys : List V), vs = [.ref a, .ref b] ∧ SqT K H1 a (ks.map kV) ∧ SqT K H1 b ys ∧ ks.length = ys.length ∧
  ∀ p, H1 p = none → Q (.ref p) (upd H1 p (.dK (mergeK [] (ks.zip ys))))
theorem pe_dictZip {e e2 : Expr} {ta : TA} {p p2 pos pos2 : Pos} (hc : X.calm = true) (hgd : Gl X "dict") (hmd : X.mg "dict" = none) (hg : Gl X "zip") (hm : X.mg "zip" = none) (ha : PA X [e, e2] ta)
    (hs : starEach [e, e2] X.env = (false, eval e X.env) :: starEach [e2] X.env := by rfl) (hpl : (backTo pos2 (starEach [e2] X.env)).any (·.1) = false := by rfl)
    (hs2 : starEach [Expr.Call (.Name "zip" p2) [e, e2] [] pos2] X.env = (false, eval (Expr.Call (.Name "zip" p2) [e, e2] [] pos2) X.env) :: starEach [] X.env := by rfl) (hpl2 : (backTo pos (starEach [] X.env)).any (·.1) = false := by rfl) :
    PE X (.Call (.Name "dict" p) [.Call (.Name "zip" p2) [e, e2] [] pos2] [] pos) (tDictZip X.K ta) := by
  refine ⟨fun pins s σ H Q I h => ?_⟩
  refine wpAny_Call_Name_kw (ld_blt I hgd hmd boot_dict ?_)
  refine PyProof.Rows.callWith_type1 ?_ hs2 hpl2
  rw [hs2]
  show wpAny _ _ (spliced ((false, eval (Expr.Call (.Name "zip" p2) [e, e2] [] pos2) X.env) :: backTo pos (starEach [] X.env))) _ _ s
  refine Calls.spliced_cons ?_
  refine Call_ (ld_blt I hg hm PyProof.Rows.boot_zip (PyProof.Rows.callWith_type1 (thn (ha.run pos2 pins s σ H _ I h) fun us s1 ⟨vs, H1, I1, r1, q1⟩ => ?_) hs hpl))
  obtain ⟨a, b, ks, ys, ex, hqx, hqy, hl, q⟩ := q1
  subst ex
  obtain ⟨u1, u2, eu, ra, rb⟩ := vals2 r1
  subst eu
  cases ra
  cases rb
  obtain ⟨its, rv, p1, room⟩ := I1.tuple hqx
  obtain ⟨its2, rv2, p2', _⟩ := I1.tuple hqy
  have t1 : s1.heap.IsTuple a its.toArray := p1
  have t2 : s1.heap.IsTuple b its2.toArray := p2'
  have la : a < s1.heap.objs.size := Heap.lt_size t1.choose_spec.1
  have lb : b < s1.heap.objs.size := Heap.lt_size t2.choose_spec.1
  have e1 : its.length = ks.length := by rw [← rv.length, List.length_map]
  have e2 : its2.length = ks.length := by rw [← rv2.length, hl]
  rw [List.length_map] at room
  have ez : (ks.zip its2).length = ks.length := by rw [List.length_zip, e2, Nat.min_self]
  refine RZ.call_zipT t1 t2 fun g hz hTI hTO h1 h2 hsz hk => Calls.spliced_nil ?_
  have first : First (s1.heap.objs.size + 4) (s1.heap.objs.size + 2) (s1.heap.objs.size + 3) s1.heap.objs.size (s1.heap.objs.size + 1) a b its.toArray its2.toArray g := ⟨hz, ⟨_, _, hTO⟩, hTI, h1, h2, t1.at fun o e => hk _ o e, t2.at fun o e => hk _ o e⟩
  refine PySem.call_dict_pairs (s := { s1 with heap := g }) (knd := mixKind X.prog X.w) (kvs := ks.zip its2) (asPairs _ _ _ _ _ a b (PySem.W.ktu_apart _ a b la lb) _ _ ks.length (by simpa using e1) (by simpa using e2)) (I.ok.hd hc) first ⟨ez, fun i k v r => zipped rv rv2 i k v (by simpa using r.1) (by simpa using r.2)⟩ room fun g2 tk dct hk2 => ?_
  have kept : ∀ c o, s1.heap.get? c = some o → g2.get? c = some o := fun c o e => by
    have lt : c < s1.heap.objs.size := Heap.lt_size e
    refine hk2 c o (fun bad => ?_) (hk c o e)
    simp only [List.mem_cons, List.not_mem_nil, or_false] at bad
    have far : ∀ j, c ≠ s1.heap.objs.size + j := fun j => PySem.W.ktu_ne j lt
    rcases bad with q | q | q | q
    · exact far 4 q
    · exact far 3 q
    · exact far 0 q
    · exact far 1 q
  have up : s1.heap.objs.size ≤ g.objs.size := by rw [hsz]; exact Nat.le_add_right _ _
  refine ⟨.ref g.objs.size, upd H1 g.objs.size (.dK (mergeK [] (ks.zip ys))), I1.laid (t' := tk) kept up (show ObjOk X.prog X.w _ _ _ (.dK (mergeK [] (ks.zip ys))) from ⟨?_, beq_eq_false_iff_ne.mpr (Nat.ne_of_gt (Nat.lt_of_lt_of_le I1.big up)), merged [] (ks.zip its2), KV.merge (zipped_kv ks rv2) .nil, dct⟩), rfl, q _ (I1.hok.fresh up)⟩
  refine Nat.le_trans (length_mergeK _ []) ?_
  rw [List.length_nil, Nat.zero_add, List.length_zip, ← hl, Nat.min_self]
  exact room
end
end ZT

namespace K92
open PySem PySem.Spec PyProof.Rows L2

/-! ### dict(xs) of a list of pairs whose keys are tuples -/
def mergeT (kvs more : List (List Key × V)) : List (List Key × V) := more.foldl (fun acc kv => putK acc kv.1 kv.2) kvs
theorem mergeT_len : ∀ (more kvs : List (List Key × V)), (mergeT kvs more).length ≤ kvs.length + more.length
  | [], kvs => Nat.le_refl _
  | p :: r, kvs => by
    have h1 := mergeT_len r (putK kvs p.1 p.2)
    have h2 := length_putK kvs p.1 p.2
    have h3 : mergeT kvs (p :: r) = mergeT (putK kvs p.1 p.2) r := rfl
    rw [h3, List.length_cons]
    omega
theorem KT_merge {H : Hp} : ∀ {more : List (List Key × V)} {rs : List (List Key × Addr × Value)} {kvs : List (List Key × V)} {xs : List (List Key × Addr × Value)}, KT H more rs → KT H kvs xs → KT H (mergeT kvs more) (storedAllH xs rs)
  | [], _, kvs, xs, .nil, r => r
  | p :: more, _, kvs, xs, .cons (b := q) h t, r => by
    obtain ⟨e1, e2, e3⟩ := h
    have r2 : KT H (putK kvs p.1 p.2) (storedH xs q.1 q.2.1 q.2.2) := by
      rw [← e1]
      exact r.put p.1 e2 e3
    have z := KT_merge (kvs := putK kvs p.1 p.2) (xs := storedH xs q.1 q.2.1 q.2.2) (show KT H more _ from t) r2
    exact z
/-- a pair (key, value): its own tuple, the key's tuple, the key, the value -/
structure Pr where
  t : Addr
  k : Addr
  key : List Key
  v : V
def Pr.ok (H : Hp) (q : Pr) : Prop := H q.t = some (.tup [.ref q.k, q.v]) ∧ H q.k = some (.tup (q.key.map kV))
theorem prs_raw {P : Program} {w : World} {H : Hp} {h : Heap} (hok : HOk P w H h) : ∀ (L : List Pr), (∀ q ∈ L, q.ok H) → ∃ rs : List (List Key × Addr × Value), KT H (L.map fun q => (q.key, q.v)) rs ∧ rs.length = L.length ∧
    ∀ (i : Nat) (q : Pr), L[i]? = some q → ∃ u, rs[i]? = some (q.key, q.k, u) ∧ h.IsTuple q.t #[.ref q.k, u]
  | [], _ => ⟨[], .nil, rfl, fun i q e => by simp at e⟩
  | q :: L, hq => by
    obtain ⟨rs, r, hl, hp⟩ := prs_raw hok L fun x hx => hq x (List.mem_cons_of_mem _ hx)
    obtain ⟨e1, e2⟩ := hq q List.mem_cons_self
    obtain ⟨_, its, rv, ht⟩ := (show ObjOk P w H h q.t (.tup [.ref q.k, q.v]) from hok _ _ e1)
    obtain ⟨u1, u, rfl, ru1, ru⟩ := vals2 rv
    cases ru1
    refine ⟨(q.key, q.k, u) :: rs, .cons ⟨rfl, e2, ru⟩ r, by simp [hl], fun i x hx => ?_⟩
    cases i with
    | zero =>
      cases hx
      exact ⟨u, rfl, ht⟩
    | succ i => exact hp i x (by simpa using hx)
section
variable {X : Cx}
def rDictT (K : PySem.W.Frag) : List V → Hp → VK → Prop := fun xs H Q => ∃ (a : Addr) (L : List Pr), xs = [.ref a] ∧ SqL K H a (L.map fun q => V.ref q.t) ∧ (∀ q ∈ L, q.ok H) ∧
  ∀ p, H p = none → Q (.ref p) (upd H p (.dT (mergeT [] (L.map fun q => (q.key, q.v)))))
theorem call_dictT (hc : X.calm = true) (hu : X.A.units + 8 < cLine) : CallR X (.type "dict") (rDictT X.K) := by
  intro pins s σ H xs us Q I r h
  obtain ⟨a, L, rfl, hq, hL, q⟩ := h
  obtain ⟨u, rfl, rx⟩ := vals1 r
  cases rx
  obtain ⟨its, rv, pl, hz⟩ := I.list hq
  obtain ⟨rs, rel, hl, hp⟩ := prs_raw I.hok L hL
  have hits : ∀ (i : Nat) (x : Pr), L[i]? = some x → its[i]? = some (.ref x.t) := fun i x hx => by
    obtain ⟨u, hu, ru⟩ := rv.get (i := i) (x := V.ref x.t) (by simp [hx])
    rw [hu, (show u = Value.ref x.t from ru)]
  have hlen : its.length = L.length := by
    have := rv.length
    rw [List.length_map] at this
    exact this.symm
  have atL : ∀ (i : Nat) (r : List Key × Addr × Value), rs[i]? = some r → ∃ x, L[i]? = some x ∧ r.1 = x.key ∧ r.2.1 = x.k ∧ s.heap.IsTuple x.t #[.ref x.k, r.2.2] := fun i r hr => by
    have hi : i < L.length := by
      rw [← hl]
      exact (List.getElem?_eq_some_iff.mp hr).1
    obtain ⟨u, hu, ht⟩ := hp i L[i] (List.getElem?_eq_getElem hi)
    rw [hr] at hu
    cases hu
    exact ⟨L[i], List.getElem?_eq_getElem hi, rfl, rfl, ht⟩
  refine PySem.call_dict_pairsH (knd := tupleKind (mixKind X.prog X.w)) (ps := rs) (PairArg.list a its.toArray (fun j => (L.map (·.t)).getD j 0) (rs.map fun r => (Value.ref r.2.1, r.2.2))) (I.ok.hd hc)
    (by show X.A.units + 1 + 1 < cLine; omega) ⟨pl, by simp [hlen, hl], fun j k v hj => ?_⟩ ⟨by simp, fun i k v hr => ?_⟩ (fun h' hk x hx => ?_) (by rw [List.length_map] at hz ⊢; omega) fun h' tk hd' hk => ?_
  · rw [List.getElem?_map] at hj
    cases e : rs[j]? with
    | none => rw [e] at hj; cases hj
    | some r =>
      rw [e] at hj
      cases hj
      obtain ⟨x, hx, _, e2, ht⟩ := atL j r e
      have ed : (L.map (·.t)).getD j 0 = x.t := by simp [List.getD, hx]
      show its.toArray[j]? = some (Value.ref ((L.map (·.t)).getD j 0)) ∧ PairAt s.heap ((L.map (·.t)).getD j 0) (Value.ref r.2.1) r.2.2
      rw [ed]
      refine ⟨by simpa using hits j x hx, .inl ?_⟩
      rw [e2]
      exact ht
  · have hr' : (rs.map fun r => (Value.ref r.2.1, r.2.2))[i]? = some (k, v) := hr
    rw [List.getElem?_map] at hr'
    cases e : rs[i]? with
    | none => rw [e] at hr'; cases hr'
    | some r =>
      rw [e] at hr'
      cases hr'
      exact ⟨r.1, r.2.1, rfl, rfl⟩
  · obtain ⟨i, hi⟩ := List.mem_iff_getElem?.mp hx
    obtain ⟨y, hy, e1, e2, _⟩ := atL i x hi
    obtain ⟨o, its', n, h1, h2, h3, h4⟩ := key_of (P := X.prog) (w := X.w) I.hok (hL y (List.mem_of_getElem? hy)).2
    rw [e1, e2]
    exact ⟨o, its', n, hk _ _ (Nat.ne_of_lt (Heap.lt_size h1)) (by simp) h1, h2, h3, h4⟩
  · have hm : (s.heap.objs.size == sysModules) = false := beq_eq_false_iff_ne.mpr (Nat.ne_of_gt I.big)
    have kk : ∀ b o, s.heap.get? b = some o → h'.get? b = some o := fun b o e => hk b o (by simp) e
    have hz2 : (mergeT [] (L.map fun q => (q.key, q.v))).length ≤ sizeLine := by
      have := mergeT_len (L.map fun q => (q.key, q.v)) []
      rw [List.length_map] at this hz
      simp only [List.length_nil] at this
      omega
    have hf := I.hok.fresh (Nat.le_refl s.heap.objs.size)
    obtain ⟨o, es, ep, h1, h2, h3, h4, _, h5⟩ := hd'
    refine ⟨.ref s.heap.objs.size, upd H s.heap.objs.size (.dT (mergeT [] (L.map fun q => (q.key, q.v)))), I.laid (t' := tk) kk (Nat.le_refl _) ?_, rfl, q _ hf⟩
    refine ⟨hz2, hm, storedAllH [] rs, ?_, o, es, ep, h1, h2, h3, h4, h5⟩
    exact (KT_merge rel .nil).keeps fun b ys e => by
      rw [upd_ne (ne_of_none e hf)]
      exact e

/-! ### f(k = v, ..) -/
theorem pe_ownK {k : Nat} {nm : Str} {f : Addr} {fd : FuncData} {ps ks : List Str} {sp : Sp} {g : List Value → List Value → List Value} {gV : List V → List V → List V} {p pos : Pos} {kws : List Keyword} {tk : TA} (F : FnOk X.prog X.w X.K X.mg X.base CX0 k f fd ps sp) (hr : Room k X.A) (hm : X.mg nm = some (.ref f))
    (hkp : PySem.W.keepIn X.K (.ref f) = true) (hb : KBinds X.K fd ps ks g gV) (hkw : PK X kws tk) (hg : Gl X nm := by rfl) (hall : (backToKw pos (keywordEach kws X.env)).all (·.1.isSome) = true := by rfl)
    (hks : (backToKw pos (keywordEach kws X.env)).filterMap (·.1) = ks := by rfl) (hdb : (nm == ("__debug__" : Str)) = false := by decide)
    (hpl : ((backTo pos (starEach [] X.env)).any (·.1) || (backToKw pos (keywordEach kws X.env)).any (·.1.isNone)) = false := by rfl) :
    PE X (.Call (.Name nm p) [] kws pos) (tCallK sp gV E0 tNil tk) := by
  refine ⟨fun pins s σ H Q I h => ?_⟩
  refine wpAny_Call_Name_kw (ld_glob I hg hm ?_ hdb)
  refine PySem.W.callWith_KW0 (h₀ := X.base) I.ok.mod.kin hkp hall ?_ hpl
  refine thn (hkw.run pos pins s σ H _ I h) fun ws s2 ⟨zs, H2, I2, rz, q2⟩ => ⟨I2.kIn, ?_⟩
  rw [hks]
  exact run_fnk F hr hb pass0 I2 (us := []) (vs := []) .nil rz q2

/-! ### a tuple whose object is known -/
def rTupF (K : PySem.W.Frag) : List V → Hp → VK → Prop := fun xs H Q => ∃ (p : Addr) (ys : List V), xs = [.ref p] ∧ SqL K H p ys ∧ ∀ (l : Addr) (o : Obj), H l = none → o.dict = none → Q (.ref l) (upd H l (.frz o (.tup ys)))
theorem call_tupF : CallR X (.type "tuple") (rTupF X.K) := by
  intro pins s σ H xs us Q I r h
  obtain ⟨p, ys, rfl, hq, q⟩ := h
  obtain ⟨u, rfl, rx⟩ := vals1 r
  cases rx
  obtain ⟨its, r', pl, hz⟩ := I.list hq
  have hlen := r'.length
  refine call_tuple_list pl.isList (fun h' kp => ?_) (by simp only [List.size_toArray] <;> omega)
  have I1 : Inv X pins σ H { s with heap := h' } := I.kept (t' := s.toks) kp
  have e1 : (h'.push { cls := .type "tuple", data := .seq its.toArray }).get? h'.objs.size = some { cls := .type "tuple", data := .seq its.toArray } := Heap.get?_push_size _ rfl
  exact ⟨.ref h'.objs.size, _, I1.laid (t' := s.toks) (o := .frz { cls := .type "tuple", data := .seq its.toArray } (.tup ys)) (fun b o e => Heap.get?_push_of_some _ e) (Nat.le_refl _) ⟨e1, hz, its, r', IsTup.new _ _⟩, rfl,
    q _ _ (I1.hok.fresh (Nat.le_refl _)) rfl⟩
/-- t.index(x) of such a tuple of texts -/
def rTix (K : PySem.W.Frag) : V → List V → Hp → VK → Prop := fun x xs H Q => ∃ p, ∃ ys : List Str, ∃ z j, x = .ref p ∧ xs = [.str z] ∧ SqT K H p (ys.map V.str) ∧ ys[j]? = some z ∧ (∀ m, m < j → ys[m]? ≠ some z) ∧ Q (.int (j : Nat)) H
def tTix (K : PySem.W.Frag) (to : TE) (t : TA) : TE := fun σ H Q => to σ H fun x H1 => (∃ (a : Addr) (o : Obj) (xs : List V), x = .ref a ∧ H1 a = some (.frz o (.tup xs)) ∧ o.dict = none) ∧ t σ H1 fun ys H2 => rTix K x ys H2 Q
theorem pe_tix {o e : Expr} {to : TE} {t : TA} {apos cpos : Pos} (ho : PE X o to) (ha : PA X [e] t) (hbase : attributeBase o "index" X.env (eval o X.env) = eval o X.env := by rfl)
    (hfew : ((backTo cpos (starEach [e] X.env)).all (fun x => !x.1) && (backToKw cpos (keywordEach [] X.env)).all (fun x => x.1.isSome)
      && decide (([e] : List Expr).length + ([] : List Keyword).length + (if ([] : List Keyword).isEmpty then 0 else 1) < 30)) = true := by rfl)
    (hline : (apos.endLine == cpos.line) = true := by rfl) (hs : starEach [e] X.env = (false, eval e X.env) :: starEach [] X.env := by rfl) (hplain : (backTo cpos (starEach [] X.env)).any (·.1) = false := by rfl) :
    PE X (.Call (.Attribute o "index" apos) [e] [] cpos) (tTix X.K to t) := by
  refine ⟨fun pins s σ H Q I h => ?_⟩
  refine wpAny_Call_method_late hbase hfew hline rfl (thn (ho.run pins s σ H _ I h) fun v s1 ⟨x, H1, I1, r1, ⟨a, ob, xs, ex, ea, ed⟩, q1⟩ => ?_)
  subst ex
  cases r1
  obtain ⟨e1, _, its, rv, o2, e2, c2, _⟩ := (show ObjOk X.prog X.w H1 s1.heap a (.frz ob (.tup xs)) from I1.hok _ _ ea)
  have eo : o2 = ob := by
    rw [e1] at e2
    exact (Option.some.inj e2).symm
  subst eo
  refine ⟨"tuple", "tuple.index", PySem.F.plainAttrs_tuple, PySem.F.slot_tuple_index, PySem.F.type_tuple_index, ⟨_, e1, c2⟩, fun b hb => ?_, ?_⟩
  · cases hb
    exact ⟨_, e1, ed⟩
  · have hA := ha.run cpos pins s1 σ H1 _ I1 q1
    rw [hs] at hA ⊢
    refine Calls.callWith_builtin (by show (false || (backTo cpos (starEach [] X.env)).any (·.1)) = false; rw [hplain] <;> rfl) (Calls.evalArgs_plain ?_)
    exact thn hA fun us s2 ⟨vs, H2, I2, r2, q2⟩ => mt_tup_index pins s2 σ H2 (.ref a) vs (.ref a) us Q I2 rfl r2 q2
end
section
variable {prog : Program} {w : World} {A : Around} {E : Value → Shared → Prop} {s : Shared}
theorem filterMap_some {α β : Type} (f : α → Option β) (g : α → β) : ∀ l : List α, (∀ x ∈ l, f x = some (g x)) → l.filterMap f = l.map g
  | [], _ => rfl
  | x :: l, h => by
    rw [List.filterMap_cons, h x List.mem_cons_self, List.map_cons]
    show g x :: l.filterMap f = _
    rw [filterMap_some f g l fun y hy => h y (List.mem_cons_of_mem _ hy)]
theorem rev_applied {sl : Addr} {v : Value} {n : Nat} {Q : Int × Int × Nat → Shared → Prop} (hs : s.heap.IsSliceOf sl .none .none v) (p : IsPart v (some (-1))) (h : Q ((n : Int) - 1, -1, n) s) :
    wpAny (model prog w) A (Builtin.Slice.sliceApplied (.ref sl) (pure (n : Int))) Q E s := by
  obtain ⟨os, h1, h2, h3⟩ := id hs
  have pl : Builtin.Slice.slicePlaces ((n : Int) - 1) (-1) (-1) = n := by
    unfold Builtin.Slice.slicePlaces
    rw [if_neg (by decide)]
    by_cases h : (n : Int) - 1 > -1
    · rw [if_pos h, show - (-1 : Int) = 1 from rfl, Int.ediv_one]
      omega
    · rw [if_neg h]
      omega
  unfold Builtin.Slice.sliceApplied Builtin.Slice.sliceFields
  refine wpAny_bind (wpAny_bind (wpAny_field h1 h3 (x := .none) rfl (wpAny_bind (wpAny_field h1 h3 (x := .none) rfl (wpAny_bind (wpAny_field h1 h3 (x := v) rfl (wpAny_pure ?_)))))))
  refine wpAny_bind (HT.slicePart_ p ?_)
  show wpAny _ _ (if ((-1 : Int) == 0) = true then _ else _) _ _ s
  rw [if_neg (by decide)]
  refine wpAny_bind (slicePart_none (wpAny_bind (slicePart_none (wpAny_bind (wpAny_pure ?_)))))
  have sa : Builtin.Slice.sliceAdjust none none (-1) (n : Int) = ((n : Int) - 1, -1) := rfl
  show wpAny _ _ (match Builtin.Slice.sliceAdjust none none (-1) (n : Int) with | (a, b) => pure (a, (-1 : Int), Builtin.Slice.slicePlaces a b (-1))) _ _ s
  rw [sa]
  show wpAny _ _ (pure ((n : Int) - 1, (-1 : Int), Builtin.Slice.slicePlaces ((n : Int) - 1) (-1) (-1))) _ _ s
  rw [pl]
  exact wpAny_pure h
theorem rev_pick (xs : Array Value) : ((List.range xs.size).filterMap fun (k : Nat) => xs[((xs.size : Int) - 1 + (k : Int) * -1).toNat]?).toArray = xs.toList.reverse.toArray := by
  congr 1
  apply List.ext_getElem?
  intro i
  have e : ((List.range xs.size).filterMap fun (k : Nat) => xs[((xs.size : Int) - 1 + (k : Int) * -1).toNat]?) = (List.range xs.size).map fun k => xs.toList.getD (xs.size - 1 - k) .none := by
    refine filterMap_some _ _ _ fun k hk => ?_
    have hk' : k < xs.size := List.mem_range.mp hk
    have e1 : ((xs.size : Int) - 1 + (k : Int) * -1).toNat = xs.size - 1 - k := by omega
    have h2 : xs.size - 1 - k < xs.size := by omega
    rw [e1, Array.getElem?_eq_getElem h2]
    simp [List.getD, h2]
  rw [e]
  by_cases h : i < xs.size
  · have h2 : xs.size - 1 - i < xs.size := by omega
    rw [List.getElem?_map, List.getElem?_range h, List.getElem?_reverse (by simpa using h)]
    simp [List.getD, h2]
  · rw [List.getElem?_eq_none (by simp; omega), List.getElem?_eq_none (by simp; omega)]
theorem getItem_tuple_rev {t sl : Addr} {items : Array Value} {v : Value} {Q : Value → Shared → Prop} (ht : IsTup s.heap t items) (hs : s.heap.IsSliceOf sl .none .none v) (p : IsPart v (some (-1)))
    (h : Q (.ref s.heap.objs.size) { s with heap := s.heap.push { cls := .type "tuple", data := .seq items.toList.reverse.toArray } }) (hsz : items.size ≤ sizeLine) : wpAny (model prog w) A (getItem (.ref t) (.ref sl)) Q E s := by
  have hok : sizeOk (.seq items.toList.reverse.toArray) := by
    show items.toList.reverse.toArray.size ≤ sizeLine
    simpa using hsz
  obtain ⟨os, h1, h2, h3⟩ := id hs
  unfold getItem
  try with_reducible refine wpAny_holding ?_
  first | refine wpAny_bind (wpAny_pure ?_) | skip
  refine wpAny_bind (wpAny_sequenceKey ht.typeIs (by decide) (wpAny_bind (wpAny_callSpecial?_slot (name := Str.ofString "__getitem__") ht.typeIs PyProof.Rows.slot_tuple_getitem (wpAny_call_entry PyProof.Rows.slot_tuple_getitem ht.typeIs entry_tuple_getitem ?_ (args_tuple_getitem _ _)))))
  show wpAny _ _ (Builtin.Tuple.tupleItemsOf (.ref t) >>= _) _ _ s
  refine wpAny_bind (tupleItemsOf_ ht (wpAny_bind (wpAny_typeOf (T := "slice") ⟨os, h1, h2⟩ ?_)))
  rw [if_pos (by decide)]
  refine wpAny_bind (rev_applied (n := items.size) hs p ?_)
  show wpAny _ _ (if (((items.size : Int) - 1) == 0 && (-1 : Int) == 1 && items.size == items.size) = true then _ else _) _ _ s
  rw [if_neg (by simp), rev_pick]
  first
    | exact wpAny_bind (m := Builtin.Tuple.tupleExact _) (wpAny_newObj_type (wpAny_pure ⟨_, rfl, wpAny_pure h⟩) hok)
    | exact wpAny_bind (m := Builtin.Tuple.tupleExact _) (wpAny_newObj_type (wpAny_bind (wpAny_pure (wpAny_pure ⟨_, rfl, wpAny_pure h⟩))) hok)
    | exact wpAny_bind (wpAny_bind (m := Builtin.Tuple.tupleExact _) (wpAny_newObj_type (wpAny_pure (wpAny_pure ⟨_, rfl, wpAny_pure h⟩)) hok))
    | exact wpAny_bind (wpAny_bind (m := Builtin.Tuple.tupleExact _) (wpAny_newObj_type (wpAny_pure ⟨_, rfl, wpAny_pure h⟩) hok))
end
section
variable {X : Cx}
/-- t[::-1] of a tuple -/
def tRevT (K : PySem.W.Frag) (te : TE) : TE := fun σ H Q => te σ H fun x H1 => ∃ a xs, x = .ref a ∧ SqT K H1 a xs ∧ ∀ p, H1 p = none → Q (.ref p) (upd H1 p (.tup xs.reverse))
theorem pe_revT {e : Expr} {te : TE} {k : Nat} {p1 p2 p3 pos : Pos} (he : PE X e te) : PE X (.Subscript e (.Slice none none (some (.UnaryOp .USub (.Constant (.int 1) k p1) p2)) p3) pos) (tRevT X.K te) := by
  refine ⟨fun pins s σ H Q I h => ?_⟩
  refine Subscript_ (thn (he.run pins s σ H _ I h) fun v s1 ⟨x, H1, I1, r1, a, xs, ex, hx, q⟩ => ?_)
  subst ex
  cases r1
  have hm : PO X (some (.UnaryOp .USub (.Constant (.int 1) k p1) p2)) (tPart (tUn (rU fun i => .int (-i)) (tC (.int 1)))) := po_some (pe_un un_neg pe_int)
  refine wpAny_Slice (thn (po_none.run pins s1 σ H1 (fun o H2 => o = none ∧ H2 = H1) I1 ⟨rfl, rfl⟩) fun vl s2 ⟨l, H2, I2, pl, el, e2⟩ => ?_)
  subst el e2
  refine thn (po_none.run pins s2 σ H2 (fun o H3 => o = none ∧ H3 = H2) I2 ⟨rfl, rfl⟩) fun vu s3 ⟨u, H3, I3, pu, eu, e3⟩ => ?_
  subst eu e3
  refine thn (hm.run pins s3 σ H3 (fun o H4 => o = some (-1) ∧ H4 = H3) I3 ⟨1, rfl, -1, rfl, rfl, rfl⟩) fun vs s4 ⟨o, H4, I4, ps, eo, e4⟩ => ?_
  subst eo e4
  have nl : vl = .none := by cases pl; rfl
  have nu : vu = .none := by cases pu; rfl
  subst nl nu
  have I5 : Inv X pins σ H4 { s4 with heap := s4.heap.push { cls := .type "slice", data := .fields #[.none, .none, vs] } } := I4.kept (t' := s4.toks) fun b ob q => Heap.get?_push_of_some _ q
  obtain ⟨its, r, ht, hz⟩ := I5.tuple hx
  have hlen := r.length
  show wpAny (model X.prog X.w) X.A (subscriptTail e (.Slice none none (some (.UnaryOp .USub (.Constant (.int 1) k p1) p2)) p3) (.ref a) (.ref s4.heap.objs.size)) (EP X pins σ Q) X.xe { s4 with heap := s4.heap.push { cls := .type "slice", data := .fields #[.none, .none, vs] } }
  refine tail_any (ops := [.ref a, .ref s4.heap.objs.size]) ht.typeIs (PyProof.Rows.slot_tuple_getitem.lookup) ?_ (by with_unfolding_all rfl)
  refine getItem_tuple_rev ht (Heap.IsSliceOf.new _ .none .none vs) ps ?_ (by rw [List.size_toArray]; omega)
  refine ⟨.ref _, _, I5.laid (t' := s4.toks) (o := .tup xs.reverse) (fun b ob q => Heap.get?_push_of_some _ q) (Nat.le_refl _) ?_, rfl, q _ (I5.hok.fresh (Nat.le_refl _))⟩
  exact ⟨by rw [List.length_reverse]; exact hz, _, r.reverse, ⟨_, Heap.get?_push_size _ rfl, rfl, _, rfl⟩⟩
end
end K92

namespace K92
open PySem PySem.Spec PyProof.Rows L2

/-! ### d.items() of a dict whose keys are tuples -/
/-- the pairs, each a new tuple of the key's own tuple and the value -/
def Itp (d : Addr) (o : Obj) (kvs : List (List Key × V)) : It :=
  ⟨fun i H => H d = some (.frz o (.dT kvs)) ∧ i < kvs.length,
    fun i H x H' => ∃ (T q : Addr) (k : List Key) (v : V), kvs[i]? = some (k, v) ∧ x = .ref T ∧ H T = none ∧ H q = some (.tup (k.map kV)) ∧ H' = upd H T (.tup [.ref q, v]),
    fun i H => H d = some (.frz o (.dT kvs)) ∧ kvs.length ≤ i⟩
theorem frzTV {X : Cx} {pins : List (Addr × Obj)} {σ : L2.St} {H : Hp} {s : Shared} {d : Addr} {o : Obj} {kvs : List (List Key × V)} (I : Inv X pins σ H s) (h : H d = some (.frz o (.dT kvs))) :
    (d == sysModules) = false ∧ ∃ (es : Array DictEntry) (ep : Nat), s.heap.DictRaw d es ep ∧ o.data = .dict es ep ∧ es.size = kvs.length ∧
      ∀ (i : Nat) (k : List Key) (v : V), kvs[i]? = some (k, v) → ∃ (hi : i < es.size) (q : Addr), es[i].key = .ref q ∧ H q = some (.tup (k.map kV)) ∧ RelV v es[i].val := by
  obtain ⟨hd, z, hs, xs, pr, o', es, ep, ho, hx, hdt, he, _⟩ := (show ObjOk X.prog X.w H s.heap d (.frz o (.dT kvs)) from I.hok d _ h)
  rw [hd] at ho
  cases ho
  refine ⟨hs, es, ep, ⟨o, hd, hx, hdt⟩, hdt, ?_, fun i k v e => ?_⟩
  · have l1 : es.size = xs.length := size_of_entries he
    have l2 : kvs.length = xs.length := Paired.length pr
    omega
  · obtain ⟨b, hb, e1, e2, e3⟩ := paired_get pr e
    have q := entry_at he i
    rw [hb] at q
    obtain ⟨hi, eq⟩ := Array.getElem?_eq_some_iff.mp q
    refine ⟨hi, b.2.1, ?_, e2, ?_⟩
    · rw [eq]; rfl
    · rw [eq]; exact e3
section
variable {P : Program} {w : World} {K : PySem.W.Frag} {d : Addr} {o : Obj} {es : Array DictEntry} {ep : Nat}
theorem turn_itemsT {kvs : List (List Key × V)} {elts : List Expr} {kk : Nat} {tpos : Pos} (it : Addr) (hod : o.data = .dict es ep) :
    Turn P w K (.Tuple elts kk tpos) (Itp d o kvs) [it] it (fun i h => ∃ a b, IsItemIter h it d i kvs.length ep a b) where
  mem := by simp
  obj := fun i h st b hb => by
    have e : b = it := by simpa using hb
    obtain ⟨x, y, q⟩ := st
    rw [e]
    exact ⟨_, q, fun v z => nomatch z⟩
  keep := fun i h h' st k => let ⟨x, y, q⟩ := st; ⟨x, y, k it (by simp) _ q⟩
  item := by
    intro X hP hw hK hc i pins s σ H E I hf st hg
    subst hP hw hK
    obtain ⟨hd, hi⟩ := hg
    obtain ⟨hs, es', ep', raw, hdt, hsz, ent⟩ := frzTV I hd
    obtain ⟨rfl, rfl⟩ := dict_ep hod hdt
    have hkv : kvs[i]? = some kvs[i] := List.getElem?_eq_getElem hi
    obtain ⟨hi2, q, ek, hq, rv⟩ := ent i kvs[i].1 kvs[i].2 hkv
    obtain ⟨x, y, he⟩ := st
    rw [← hsz] at he
    have hlt : it < s.heap.objs.size := Heap.lt_size he
    refine wpAny_pyNext_items_item_raw he raw hi2 fun h' ho hT hz hk => ?_
    refine ⟨_, rfl, wpAny_letOwnedTupleGo_items (s := { s with heap := h' }) ho fun h'' he' sb => ?_⟩
    have hT2 : h''.get? s.heap.objs.size = some { cls := .type "tuple", data := .seq #[es'[i].key, es'[i].val] } := (sb.2 _ (Nat.ne_of_gt hlt)).trans hT
    have new : ObjOk X.prog X.w (upd H s.heap.objs.size (.tup [.ref q, kvs[i].2])) h'' s.heap.objs.size (.tup [.ref q, kvs[i].2]) :=
      ⟨by show 2 ≤ sizeLine; decide, [es'[i].key, es'[i].val], .cons ek (.cons rv .nil), ⟨_, hT2, rfl, _, rfl⟩⟩
    have I1 := I.turnedNew (t' := s.toks) (ch := [it]) (fun b ob hb e => (sb.2 b (by simpa using hb)).trans (hk b ob (by simpa using hb) e)) hf (Nat.le_refl _) new
    refine ⟨.ref s.heap.objs.size, _, I1, rfl, ⟨_, q, kvs[i].1, kvs[i].2, hkv, rfl, I.hok.fresh (Nat.le_refl _), hq, rfl⟩, ⟨_, _, by rw [← hsz]; exact he'⟩, fun b hb => ?_⟩
    have e : b = it := by simpa using hb
    rw [e, upd_ne (Nat.ne_of_lt hlt)]
    exact (hf it (by simp)).1
  done := by
    intro X hP hw hK hc i pins s σ H E I hf st hg
    subst hP hw hK
    obtain ⟨hd, hi⟩ := hg
    obtain ⟨f0, f1, f2, f3, f4, f5⟩ := hf it (by simp)
    obtain ⟨hs, es', ep', raw, hdt, hsz, ent⟩ := frzTV I hd
    obtain ⟨rfl, rfl⟩ := dict_ep hod hdt
    obtain ⟨x, y, he⟩ := st
    rw [← hsz] at he hi
    exact wpAny_pyNext_items_end_raw (I.ok.hd hc) he raw hi fun h' eb => ⟨rfl, I.turned (t' := s.toks) (fun b ob hb e => eb b ob hb e) f0 f1 f3 f4 f5⟩
  self := fun A i s Q E st h => let ⟨_, _, e⟩ := st; PySem.W.kcp_self e h
end
def iItp (td : TE) : TI := fun σ H R => td σ H fun x H1 => ∃ d o kvs, x = .ref d ∧ H1 d = some (.frz o (.dT kvs)) ∧ R (Itp d o kvs) H1
section
variable {X : Cx} {e : Expr} {td : TE} {apos cpos : Pos}
theorem pi_itemsT {elts : List Expr} {kk : Nat} {tpos : Pos} (he : PE X e td) (hbase : attributeBase e "items" X.env (eval e X.env) = eval e X.env := by rfl) (hline : (apos.endLine == cpos.line) = true := by rfl) :
    PI X (.Tuple elts kk tpos) (.Call (.Attribute e "items" apos) [] [] cpos) (iItp td) := by
  refine ⟨fun pins s σ H R I h => ?_⟩
  refine wpAny_Call_method (T := "dict") (id := "dict.items") hbase rfl hline F.plainAttrs_dict F.slot_dict_items F.type_dict_items (thn (he.run pins s σ H _ I h) fun u s1 ⟨x, H1, I1, rx, d, o, kvs, ex, hd, q⟩ => ?_)
  subst ex
  cases (show u = Value.ref d from rx)
  obtain ⟨hs, es, ep, raw, hdt, hsz, ent⟩ := frzTV I1 hd
  obtain ⟨ob, e1, e2, e3⟩ := id raw
  refine ⟨raw.typeIs, fun b eb => by cases eb; exact ⟨ob, e1, e2.2.1⟩, ?_⟩
  have I2 : Inv X pins σ H1 { s1 with heap := s1.heap.push { cls := .type "dict_items", data := .fields #[.ref d] } } := I1.kept (t' := s1.toks) fun b ob q => Heap.get?_push_of_some _ q
  have fin : wpAny (model X.prog X.w) X.A (pyIter (.ref s1.heap.objs.size)) (PIE X pins σ (.Tuple elts kk tpos) R) X.xe { s1 with heap := s1.heap.push { cls := .type "dict_items", data := .fields #[.ref d] } } := by
    refine wpAny_pyIter_items_raw (d := d) (es := es) (ep := ep) ⟨_, Heap.get?_push_size _ rfl, rfl, rfl⟩ (raw.at fun o q => Heap.get?_push_of_some _ q) (pi_one (tk := s1.toks) I2 _ (turn_itemsT _ hdt) ⟨.none, .none, ?_⟩ q)
    rw [← hsz]
    exact Heap.get?_push_size _ rfl
  show wpAny _ _ (callWith cpos (.builtin "dict.items") [.ref d] [] []) _ X.xe s1
  exact method_meetsIn F.slot_dict_items F.entry_dict_items rfl (PySem.evalArgs_none ⟨rfl, raw.typeIs, F.args_dict_items_1 _, _, meets_dict_items_raw d hs, ⟨⟨es, ep, raw⟩, fin⟩⟩)
end
theorem walk_itemsT {d : Addr} {o : Obj} {kvs : List (List Key × V)} : Walk (Itp d o kvs) kvs.length (fun H => H d = some (.frz o (.dT kvs)))
    (fun i H x H' => ∃ (T q : Addr) (k : List Key) (v : V), kvs[i]? = some (k, v) ∧ x = .ref T ∧ H T = none ∧ H q = some (.tup (k.map kV)) ∧ H' = upd H T (.tup [.ref q, v])) :=
  ⟨fun _ _ hi q => ⟨q, hi⟩, fun _ q => ⟨q, Nat.le_refl _⟩, fun _ _ _ _ _ _ y => y⟩
end K92

namespace K92
open PySem PySem.Spec PyProof.Rows L2

/-! ### sorted(xs) of triples (text, text, int) -/
abbrev Tr := Str × Str × Int
def trD (t : Tr) : PyData := .tuple [.str t.1, .str t.2.1, .int t.2.2]
def trV (t : Tr) : List V := [.str t.1, .str t.2.1, .int t.2.2]
def leT (a b : Tr) : Bool := PySem.W.dataLe false trD a b
def sortT (l : List Tr) : List Tr := l.mergeSort leT
theorem keyToks_trD (t : Tr) : PySem.W.keyToks (trD t) = [.inl 1, .inr t.1.cps.toList, .inl 1, .inr t.2.1.cps.toList, .inl 1, .inl t.2.2, .inl 0] := by
  simp [trD, PySem.W.keyToks, PySem.W.keyToksAll]
theorem leT_eq (a b : Tr) : leT a b = !PySem.W.dataLt (trD b) (trD a) := rfl
theorem leT_trans (a b c : Tr) (h1 : leT a b = true) (h2 : leT b c = true) : leT a c = true := by
  rw [leT_eq] at h1 h2 ⊢
  simp only [Bool.not_eq_true'] at h1 h2 ⊢
  cases e : PySem.W.dataLt (trD c) (trD a) with
  | false => rfl
  | true =>
    rcases PyProof.Rows.lex_negTrans (O := itemOrd) _ (PySem.W.keyToks (trD b)) _ (show PyProof.Rows.lexLt itemOrd (PySem.W.keyToks (trD c)) (PySem.W.keyToks (trD a)) = true from e) with h | h
    · have : PySem.W.dataLt (trD c) (trD b) = true := h
      rw [h2] at this
      cases this
    · have : PySem.W.dataLt (trD b) (trD a) = true := h
      rw [h1] at this
      cases this
theorem leT_total (a b : Tr) : (leT a b || leT b a) = true := by
  rw [leT_eq, leT_eq]
  cases e : PySem.W.dataLt (trD b) (trD a) with
  | false => rfl
  | true =>
    cases e2 : PySem.W.dataLt (trD a) (trD b) with
    | false => rfl
    | true =>
      have := PyProof.Rows.lex_trans (O := itemOrd) _ _ _ (show PyProof.Rows.lexLt itemOrd (PySem.W.keyToks (trD b)) (PySem.W.keyToks (trD a)) = true from e) (show PyProof.Rows.lexLt itemOrd (PySem.W.keyToks (trD a)) (PySem.W.keyToks (trD b)) = true from e2)
      rw [PyProof.Rows.lex_irrefl] at this
      cases this
theorem str_ext {a b : Str} (h : a.cps.toList = b.cps.toList) : a = b := by
  cases a; cases b
  simp only [Str.mk.injEq]
  exact Array.toList_inj.mp h
theorem leT_anti (a b : Tr) (h1 : leT a b = true) (h2 : leT b a = true) : a = b := by
  rw [leT_eq] at h1 h2
  simp only [Bool.not_eq_true'] at h1 h2
  have e := PyProof.Rows.lex_total (O := itemOrd) _ _ (show PyProof.Rows.lexLt itemOrd (PySem.W.keyToks (trD b)) (PySem.W.keyToks (trD a)) = false from h1) (show PyProof.Rows.lexLt itemOrd (PySem.W.keyToks (trD a)) (PySem.W.keyToks (trD b)) = false from h2)
  rw [keyToks_trD, keyToks_trD] at e
  injection e with _ e
  injection e with e1 e
  injection e with _ e
  injection e with e2 e
  injection e with _ e
  injection e with e3 e
  injection e1 with e1
  injection e2 with e2
  injection e3 with e3
  obtain ⟨a1, a2, a3⟩ := a
  obtain ⟨b1, b2, b3⟩ := b
  simp only at e1 e2 e3
  rw [str_ext e1, str_ext e2, e3]
theorem sortT_perm (l : List Tr) : (sortT l).Perm l := List.mergeSort_perm l _
theorem sortT_uniq {l m : List Tr} (h : l.Perm m) : sortT l = sortT m := by
  have a := List.pairwise_mergeSort (le := leT) leT_trans leT_total l
  have b := List.pairwise_mergeSort (le := leT) leT_trans leT_total m
  exact List.Perm.eq_of_pairwise (le := fun x y => leT x y = true) (fun x y _ _ h1 h2 => leT_anti x y h1 h2) a b (((sortT_perm l).trans h).trans (sortT_perm m).symm)
theorem alike_trD (a b : Tr) : PySem.W.alike (trD a) (trD b) = true := by
  simp [trD, PySem.W.alike, PySem.W.alikeAll]
theorem depth_trD (a : Tr) : (trD a).depth = 1 := by
  simp [trD, PyData.depth, PyData.depthAll]
def rSortT (K : PySem.W.Frag) : List V → Hp → VK → Prop := fun vs H Q => ∃ (a : Addr) (xs : List V) (k : V → Tr), vs = [V.ref a] ∧ SqL K H a xs ∧ (∀ x ∈ xs, ∃ t, x = V.ref t ∧ H t = some (.tup (trV (k x)))) ∧
  ∀ ys p, ys.Perm xs → ys.map k = sortT (xs.map k) → H p = none → Q (.ref p) (upd H p (.lst ys))
section
variable {X : Cx}
theorem each_vals : ∀ {xs : List V} {its : List Value}, Vals xs its → PySem.W.EachIs (fun v b => RelV b v) its xs
  | _, _, .nil => .nil
  | _, _, .cons h t => .cons h (each_vals t)
theorem vals_each : ∀ {its : List Value} {xs : List V}, PySem.W.EachIs (fun v b => RelV b v) its xs → Vals xs its
  | _, _, .nil => .nil
  | _, _, .cons h t => .cons h (vals_each t)
theorem each_imp {α β : Type} {R R' : α → β → Prop} : ∀ {as : List α} {bs : List β}, (∀ a, ∀ b ∈ bs, R a b → R' a b) → PySem.W.EachIs R as bs → PySem.W.EachIs R' as bs
  | _, _, _, .nil => .nil
  | _, _, hm, .cons h t => .cons (hm _ _ List.mem_cons_self h) (each_imp (fun a b hb => hm a b (List.mem_cons_of_mem _ hb)) t)
theorem cr_sortT (hu : X.A.units + 8 < cLine) : CallR X (.builtin "sorted") (rSortT X.K) := by
  intro pins s σ H vs us Q I r h
  obtain ⟨a, xs, k, rfl, hs, hx, q⟩ := h
  obtain ⟨its, rv, hl, hz⟩ := I.list hs
  obtain ⟨u, rfl, ru⟩ := vals1 r
  obtain rfl : u = Value.ref a := ru
  have ev := each_vals rv
  have er : PySem.W.EachIs (fun v b => ∃ as, Reads s.heap v (trD (k b)) as) its xs := each_imp (fun v b hb hr => by
    obtain ⟨t, rfl, ht⟩ := hx b hb
    exact Dp.reads I (trD (k (V.ref t))) (V.ref t) v (.tup (SqT.of ht) (.cons (.str _) (.cons (.str _) (.cons (.int _) .nil)))) hr) ev
  refine PySem.W.sorted_data (β := V) (enc := fun x => trD (k x)) (R := fun v b => RelV b v) hl.isList ev er (PySem.W.AllAlike.of fun b b' => alike_trD _ _) (PySem.W.Sortable.tuples fun b => ⟨_, _, rfl⟩) hz (fun b _ => by show X.A.units + 2 + (trD (k b)).depth < cLine; rw [depth_trD]; omega) fun out ho eo => ?_
  have e : ∀ a b : V, PySem.W.dataLe false (fun x => trD (k x)) a b = leT (k a) (k b) := fun a b => rfl
  have hp : (xs.mergeSort (PySem.W.dataLe false fun x => trD (k x))).Perm xs := List.mergeSort_perm _ _
  obtain ⟨n, hn⟩ := sortedAll_at s.heap its out.toArray
  have hf := I.hok.fresh (Nat.le_succ s.heap.objs.size)
  have hm : (xs.mergeSort (PySem.W.dataLe false fun x => trD (k x))).map k = sortT (xs.map k) := List.map_mergeSort fun a _ b _ => e a b
  refine ⟨.ref (s.heap.objs.size + 1), upd H (s.heap.objs.size + 1) (.lst (xs.mergeSort (PySem.W.dataLe false fun x => trD (k x)))), I.laid (t' := s.toks) (fun b o e => sortedAll_old e) (Nat.le_succ _) ⟨?_, out, n, vals_each eo, hn⟩, rfl, q _ _ hp hm hf⟩
  rw [hp.length_eq]
  exact hz
end
end K92

namespace ZM
/-! the plain law of closed zones: tables, walks, closures -/
variable {α : Type} [DecidableEq α]
abbrev Tb (α : Type) := List ((α × α) × Int)
def getT (M : Tb α) (p : α × α) : Option Int := (M.find? fun e => decide (e.1 = p)).map (·.2)
def putT (M : Tb α) (p : α × α) (v : Int) : Tb α :=
  if (M.any fun e => decide (e.1 = p)) = true then M.map (fun e => if e.1 = p then (e.1, v) else e) else M ++ [(p, v)]
theorem getT_nil (p : α × α) : getT ([] : Tb α) p = none := rfl
theorem getT_cons (e : (α × α) × Int) (M : Tb α) (p : α × α) : getT (e :: M) p = if e.1 = p then some e.2 else getT M p := by
  unfold getT
  rw [List.find?_cons]
  by_cases h : e.1 = p
  · rw [if_pos h, decide_eq_true h]; rfl
  · rw [if_neg h, decide_eq_false h]
theorem getT_any (p : α × α) : ∀ M : Tb α, (M.any fun e => decide (e.1 = p)) = (getT M p).isSome
  | [] => rfl
  | e :: M => by
    rw [List.any_cons, getT_cons, getT_any p M]
    by_cases h : e.1 = p
    · rw [if_pos h, decide_eq_true h]; rfl
    · rw [if_neg h, decide_eq_false h]; rfl
theorem getT_map (p q : α × α) (v : Int) : ∀ M : Tb α, getT (M.map fun e => if e.1 = p then (e.1, v) else e) q = if q = p then (getT M q).map (fun _ => v) else getT M q
  | [] => by
    simp [getT_nil]
  | e :: M => by
    rw [List.map_cons, getT_cons, getT_cons, getT_map p q v M]
    by_cases h : e.1 = p
    · rw [if_pos h]
      by_cases h2 : q = p
      · rw [if_pos h2, if_pos h2, if_pos (by rw [h, h2]), if_pos (by rw [h, h2])]; rfl
      · rw [if_neg h2, if_neg h2, if_neg (by rw [h]; exact fun z => h2 z.symm), if_neg (by rw [h]; exact fun z => h2 z.symm)]
    · rw [if_neg h]
      by_cases h2 : q = p
      · rw [if_pos h2, if_pos h2, if_neg (by rw [h2]; exact h), if_neg (by rw [h2]; exact h)]
      · rw [if_neg h2, if_neg h2]
theorem getT_app (q p : α × α) (v : Int) : ∀ M : Tb α, getT (M ++ [(p, v)]) q = (getT M q).or (if p = q then some v else none)
  | [] => by
    show getT [(p, v)] q = _
    rw [getT_cons, getT_nil]
    rfl
  | e :: M => by
    rw [List.cons_append, getT_cons, getT_cons, getT_app q p v M]
    by_cases h : e.1 = q
    · rw [if_pos h, if_pos h]; rfl
    · rw [if_neg h, if_neg h]
theorem getT_put (M : Tb α) (p q : α × α) (v : Int) : getT (putT M p v) q = if q = p then some v else getT M q := by
  unfold putT
  rw [getT_any]
  cases e : getT M p with
  | some u =>
    rw [if_pos (show (some u).isSome = true from rfl), getT_map]
    by_cases h : q = p
    · rw [if_pos h, if_pos h, h, e]; rfl
    · rw [if_neg h, if_neg h]
  | none =>
    rw [if_neg (by simp), getT_app]
    by_cases h : q = p
    · rw [if_pos h, h, e, if_pos rfl]; rfl
    · rw [if_neg h, if_neg (fun z => h z.symm)]
      cases getT M q <;> rfl
theorem getT_none {p : α × α} : ∀ {M : Tb α}, getT M p = none ↔ p ∉ M.map (·.1)
  | [] => by simp [getT_nil]
  | e :: M => by
    rw [getT_cons]
    by_cases h : e.1 = p
    · rw [if_pos h]; simp [h]
    · rw [if_neg h, getT_none (M := M)]
      simp [List.map_cons, List.mem_cons, Ne.symm h]
theorem keys_put (M : Tb α) (p : α × α) (v : Int) : (putT M p v).map (·.1) = if p ∈ M.map (·.1) then M.map (·.1) else M.map (·.1) ++ [p] := by
  unfold putT
  rw [getT_any]
  cases e : getT M p with
  | some u =>
    have : p ∈ M.map (·.1) := by
      refine Classical.byContradiction fun z => ?_
      rw [getT_none.mpr z] at e; cases e
    rw [if_pos (show (some u).isSome = true from rfl), if_pos this, List.map_map]
    refine List.map_congr_left fun e _ => ?_
    show (if e.1 = p then (e.1, v) else e).1 = e.1
    by_cases h : e.1 = p
    · rw [if_pos h]
    · rw [if_neg h]
  | none =>
    rw [if_neg (by simp), if_neg (getT_none.mp e), List.map_append]
    rfl
theorem nodup_put {M : Tb α} (h : (M.map (·.1)).Nodup) (p : α × α) (v : Int) : ((putT M p v).map (·.1)).Nodup := by
  rw [keys_put]
  by_cases q : p ∈ M.map (·.1)
  · rw [if_pos q]; exact h
  · rw [if_neg q, List.nodup_append]
    refine ⟨h, by simp, fun a ha b hb z => ?_⟩
    rw [List.mem_singleton] at hb
    rw [z, hb] at ha
    exact q ha
theorem mem_get {M : Tb α} (h : (M.map (·.1)).Nodup) {e : (α × α) × Int} : e ∈ M ↔ getT M e.1 = some e.2 := by
  induction M with
  | nil => simp [getT_nil]
  | cons x M ih =>
    rw [List.map_cons, List.nodup_cons] at h
    rw [List.mem_cons, getT_cons, ih h.2]
    by_cases q : x.1 = e.1
    · rw [if_pos q]
      constructor
      · rintro (rfl | z)
        · rfl
        · have : getT M e.1 = none := getT_none.mpr (by rw [← q]; exact h.1)
          rw [this] at z; cases z
      · intro z
        refine .inl ?_
        obtain ⟨a, b⟩ := e
        obtain ⟨c, d⟩ := x
        simp only at q z
        cases z
        rw [q]
    · rw [if_neg q]
      constructor
      · rintro (rfl | z)
        · exact absurd rfl q
        · exact z
      · exact .inr

/-! ### lower tables -/
def Lo (M' M : Tb α) : Prop := ∀ p v, getT M p = some v → ∃ u, getT M' p = some u ∧ u ≤ v
theorem Lo.refl (M : Tb α) : Lo M M := fun p v h => ⟨v, h, Int.le_refl _⟩
theorem Lo.trans {A B C : Tb α} (h : Lo A B) (k : Lo B C) : Lo A C := fun p v e => by
  obtain ⟨u, e1, h1⟩ := k p v e
  obtain ⟨x, e2, h2⟩ := h p u e1
  exact ⟨x, e2, Int.le_trans h2 h1⟩
/-- the entry at p goes down to v, if that is less -/
def low (M : Tb α) (p : α × α) (v : Int) : Tb α := putT M p (min v ((getT M p).getD v))
theorem low_get (M : Tb α) (p q : α × α) (v : Int) : getT (low M p v) q = if q = p then some (min v ((getT M p).getD v)) else getT M q := getT_put ..
theorem low_lo (M : Tb α) (p : α × α) (v : Int) : Lo (low M p v) M := fun q u h => by
  rw [low_get]
  by_cases e : q = p
  · rw [if_pos e]
    subst e
    rw [h]
    exact ⟨_, rfl, Int.min_le_right _ _⟩
  · rw [if_neg e]
    exact ⟨u, h, Int.le_refl _⟩
theorem low_at (M : Tb α) (p : α × α) (v : Int) : ∃ u, getT (low M p v) p = some u ∧ u ≤ v := by
  rw [low_get, if_pos rfl]
  exact ⟨_, rfl, Int.min_le_left _ _⟩
theorem low_val {M : Tb α} {p q : α × α} {v u : Int} (h : getT (low M p v) q = some u) : getT M q = some u ∨ (q = p ∧ u = v) := by
  rw [low_get] at h
  by_cases e : q = p
  · rw [if_pos e] at h
    subst e
    cases g : getT M q with
    | none =>
      rw [g] at h
      simp at h
      exact .inr ⟨rfl, h.symm⟩
    | some x =>
      rw [g] at h
      simp at h
      rcases Int.le_total v x with z | z
      · rw [Int.min_eq_left z] at h
        exact .inr ⟨rfl, h.symm⟩
      · rw [Int.min_eq_right z] at h
        exact .inl (by rw [h])
  · rw [if_neg e] at h
    exact .inl h
theorem low_nodup {M : Tb α} (h : (M.map (·.1)).Nodup) (p : α × α) (v : Int) : ((low M p v).map (·.1)).Nodup := nodup_put h ..

/-! ### the two tables -/
abbrev Br (α : Type) := List (α × α × Int)
def addB (M : Tb α) (t : α × α × Int) : Tb α := low M (t.1, t.2.1) t.2.2
def stp (d : Bool) (m i j : α) (M : Tb α) : Tb α :=
  if (d || decide (i ≠ j)) = true then
    match getT M (i, m), getT M (m, j) with
    | some a, some b => low M (i, j) (a + b)
    | _, _ => M
  else M
def rowF (d : Bool) (m i : α) (ns : List α) (M : Tb α) : Tb α := ns.foldl (fun M j => stp d m i j M) M
def midF (d : Bool) (m : α) (ns : List α) (M : Tb α) : Tb α := ns.foldl (fun M i => rowF d m i ns M) M
def fwF (d : Bool) (ms ns : List α) (M : Tb α) : Tb α := ms.foldl (fun M m => midF d m ns M) M
def diag (ns : List α) : Tb α := ns.foldl (fun M x => putT M (x, x) 0) []
def negP (M : Tb α) : Bool := M.any fun e => match getT M (e.1.2, e.1.1) with | some b => decide (e.2 + b < 0) | none => false
def negD (ns : List α) (M : Tb α) : Bool := ns.any fun x => match getT M (x, x) with | some v => decide (v < 0) | none => false
def ctab (ns : List α) (B : Br α) : Tb α := fwF false ns ns (B.foldl addB [])
def ltab (ns : List α) (B : Br α) : Tb α := fwF true ns ns (B.foldl addB (diag ns))
def trs (M : Tb α) : Br α := M.map fun e => (e.1.1, e.1.2, e.2)
def Bok (ns : List α) (B : Br α) : Prop := ∀ t ∈ B, t.1 ∈ ns ∧ t.2.1 ∈ ns ∧ t.1 ≠ t.2.1

/-! ### walks -/
inductive W (B : Br α) : α → α → Int → Prop
  | one {i j : α} {k : Int} : (i, j, k) ∈ B → W B i j k
  | cat {i m j : α} {a b : Int} : W B i m a → W B m j b → W B i j (a + b)
theorem W.mono {B B' : Br α} (h : ∀ t ∈ B, W B' t.1 t.2.1 t.2.2) {i j : α} {v : Int} (w : W B i j v) : W B' i j v := by
  induction w with
  | one q => exact h _ q
  | cat _ _ a b => exact .cat a b
def Neg (B : Br α) : Prop := ∃ i v, W B i i v ∧ v < 0

/-! ### what a step keeps -/
structure Inv (d : Bool) (ns : List α) (B : Br α) (M : Tb α) : Prop where
  snd : ∀ i j v, getT M (i, j) = some v → W B i j v ∨ (d = true ∧ i = j ∧ v = 0)
  dom : ∀ i j v, getT M (i, j) = some v → i ∈ ns ∧ j ∈ ns ∧ (d = true ∨ i ≠ j)
  nod : (M.map (·.1)).Nodup
theorem Inv.low {d : Bool} {ns : List α} {B : Br α} {M : Tb α} (I : Inv d ns B M) {i j : α} {v : Int} (h1 : W B i j v ∨ (d = true ∧ i = j ∧ v = 0)) (h2 : i ∈ ns ∧ j ∈ ns ∧ (d = true ∨ i ≠ j)) : Inv d ns B (low M (i, j) v) := by
  refine ⟨fun a b u e => ?_, fun a b u e => ?_, low_nodup I.nod _ _⟩
  · rcases low_val e with q | ⟨q, rfl⟩
    · exact I.snd _ _ _ q
    · cases q
      exact h1
  · rcases low_val e with q | ⟨q, rfl⟩
    · exact I.dom _ _ _ q
    · cases q
      exact h2
theorem Inv.stp {d : Bool} {ns : List α} {B : Br α} {M : Tb α} (I : Inv d ns B M) (m i j : α) : Inv d ns B (stp d m i j M) := by
  unfold ZM.stp
  by_cases c : (d || decide (i ≠ j)) = true
  · rw [if_pos c]
    cases e1 : getT M (i, m) with
    | none => exact I
    | some a =>
      cases e2 : getT M (m, j) with
      | none => exact I
      | some b =>
        refine I.low ?_ ⟨(I.dom _ _ _ e1).1, (I.dom _ _ _ e2).2.1, ?_⟩
        · rcases I.snd _ _ _ e1 with w1 | ⟨hd, h1, rfl⟩
          · rcases I.snd _ _ _ e2 with w2 | ⟨_, h2, rfl⟩
            · exact .inl (.cat w1 w2)
            · subst h2
              rw [Int.add_zero]
              exact .inl w1
          · subst h1
            rw [Int.zero_add]
            exact I.snd _ _ _ e2
        · rw [Bool.or_eq_true, decide_eq_true_eq] at c
          exact c
  · rw [if_neg c]
    exact I
theorem stp_lo (d : Bool) (m i j : α) (M : Tb α) : Lo (stp d m i j M) M := by
  unfold stp
  by_cases c : (d || decide (i ≠ j)) = true
  · rw [if_pos c]
    cases e1 : getT M (i, m) with
    | none => exact Lo.refl _
    | some a =>
      cases e2 : getT M (m, j) with
      | none => exact Lo.refl _
      | some b => exact low_lo _ _ _
  · rw [if_neg c]
    exact Lo.refl _
theorem fold_inv {β γ : Type} (P : γ → Prop) (f : γ → β → γ) : ∀ (l : List β) (x : γ), P x → (∀ x, ∀ b ∈ l, P x → P (f x b)) → P (l.foldl f x)
  | [], _, h, _ => h
  | b :: l, x, h, s => fold_inv P f l (f x b) (s x b List.mem_cons_self h) fun y c hc hy => s y c (List.mem_cons_of_mem _ hc) hy
theorem fold_lo {β : Type} (f : Tb α → β → Tb α) (h : ∀ M b, Lo (f M b) M) : ∀ (l : List β) (M : Tb α), Lo (l.foldl f M) M
  | [], M => Lo.refl M
  | b :: l, M => (fold_lo f h l (f M b)).trans (h M b)
theorem rowF_lo (d : Bool) (m i : α) (ns : List α) (M : Tb α) : Lo (rowF d m i ns M) M := fold_lo _ (fun M b => stp_lo d m i b M) ns M
theorem midF_lo (d : Bool) (m : α) (ns : List α) (M : Tb α) : Lo (midF d m ns M) M := fold_lo _ (fun M b => rowF_lo d m b ns M) ns M
theorem fwF_lo (d : Bool) (ms ns : List α) (M : Tb α) : Lo (fwF d ms ns M) M := fold_lo _ (fun M b => midF_lo d b ns M) ms M
theorem Inv.row {d : Bool} {ns : List α} {B : Br α} {M : Tb α} (I : Inv d ns B M) (m i : α) (l : List α) : Inv d ns B (rowF d m i l M) := fold_inv _ _ l M I fun x b _ h => h.stp ..
theorem Inv.mid {d : Bool} {ns : List α} {B : Br α} {M : Tb α} (I : Inv d ns B M) (m : α) (l : List α) : Inv d ns B (midF d m l M) := fold_inv _ _ l M I fun x b _ h => h.row ..
theorem Inv.fw {d : Bool} {ns : List α} {B : Br α} {M : Tb α} (I : Inv d ns B M) (ms l : List α) : Inv d ns B (fwF d ms l M) := fold_inv _ _ ms M I fun x b _ h => h.mid ..

/-! ### one middle -/
structure Ph (m : α) (f g : Tb α) : Prop where
  col : ∀ i, getT g (i, m) = getT f (i, m)
  row : ∀ j, getT g (m, j) = getT f (m, j)
  val : ∀ i j v, getT g (i, j) = some v → getT f (i, j) = some v ∨ ∃ a b, getT f (i, m) = some a ∧ getT f (m, j) = some b ∧ v = a + b
  lo : Lo g f
theorem Ph.refl (m : α) (f : Tb α) : Ph m f f := ⟨fun _ => rfl, fun _ => rfl, fun _ _ _ h => .inl h, Lo.refl _⟩
theorem Ph.stp {d : Bool} {m : α} {f g : Tb α} (h : Ph m f g) (hm : ∀ c, getT f (m, m) = some c → 0 ≤ c) (i j : α) : Ph m f (stp d m i j g) := by
  unfold ZM.stp
  by_cases c : (d || decide (i ≠ j)) = true
  · rw [if_pos c]
    cases e1 : getT g (i, m) with
    | none => exact h
    | some a =>
      cases e2 : getT g (m, j) with
      | none => exact h
      | some b =>
        have f1 := (h.col i).symm.trans e1
        have f2 := (h.row j).symm.trans e2
        refine ⟨fun x => ?_, fun y => ?_, fun x y v e => ?_, (low_lo _ _ _).trans h.lo⟩
        · rw [low_get]
          by_cases q : (x, m) = (i, j)
          · rw [if_pos q]
            cases q
            rw [e1, f1]
            have := hm b f2
            simp only [Option.getD_some]
            rw [Int.min_eq_right (by omega)]
          · rw [if_neg q]
            exact h.col x
        · rw [low_get]
          by_cases q : (m, y) = (i, j)
          · rw [if_pos q]
            cases q
            rw [e2, f2]
            have := hm a f1
            simp only [Option.getD_some]
            rw [Int.min_eq_right (by omega)]
          · rw [if_neg q]
            exact h.row y
        · rcases low_val e with q | ⟨q, rfl⟩
          · exact h.val x y v q
          · cases q
            exact .inr ⟨a, b, f1, f2, rfl⟩
  · rw [if_neg c]
    exact h
theorem Ph.stp_ge {d : Bool} {m : α} {f g : Tb α} (h : Ph m f g) {i j : α} {a b : Int} (hd : d = true ∨ i ≠ j) (e1 : getT f (i, m) = some a) (e2 : getT f (m, j) = some b) : ∃ v, getT (ZM.stp d m i j g) (i, j) = some v ∧ v ≤ a + b := by
  unfold ZM.stp
  rw [if_pos (by rw [Bool.or_eq_true, decide_eq_true_eq]; exact hd), h.col i, h.row j, e1, e2]
  exact low_at _ _ _
def Ge (d : Bool) (m : α) (f g : Tb α) (i j : α) : Prop := ∀ a b, (d = true ∨ i ≠ j) → getT f (i, m) = some a → getT f (m, j) = some b → ∃ v, getT g (i, j) = some v ∧ v ≤ a + b
theorem Ge.lo {d : Bool} {m : α} {f g g' : Tb α} {i j : α} (h : Ge d m f g i j) (l : Lo g' g) : Ge d m f g' i j := fun a b hd e1 e2 => by
  obtain ⟨v, e, hv⟩ := h a b hd e1 e2
  obtain ⟨u, e', hu⟩ := l _ _ e
  exact ⟨u, e', Int.le_trans hu hv⟩
theorem Ph.row_all {d : Bool} {m : α} {f : Tb α} (hm : ∀ c, getT f (m, m) = some c → 0 ≤ c) (i : α) : ∀ (l : List α) {g : Tb α}, Ph m f g → Ph m f (rowF d m i l g) ∧ ∀ j ∈ l, Ge d m f (rowF d m i l g) i j
  | [], g, h => ⟨h, fun j z => absurd z (by simp)⟩
  | j :: l, g, h => by
    have h1 := h.stp (d := d) hm i j
    obtain ⟨h2, h3⟩ := Ph.row_all (d := d) hm i l h1
    refine ⟨h2, fun x hx => ?_⟩
    rcases List.mem_cons.mp hx with rfl | hx
    · have g1 : Ge d m f (ZM.stp d m i x g) i x := fun a b hd e1 e2 => h.stp_ge hd e1 e2
      exact g1.lo (rowF_lo d m i l _)
    · exact h3 x hx
theorem Ph.mid_all {d : Bool} {m : α} {f : Tb α} (hm : ∀ c, getT f (m, m) = some c → 0 ≤ c) (ns : List α) : ∀ (l : List α) {g : Tb α}, Ph m f g → Ph m f (l.foldl (fun M i => rowF d m i ns M) g) ∧ ∀ i ∈ l, ∀ j ∈ ns, Ge d m f (l.foldl (fun M i => rowF d m i ns M) g) i j
  | [], g, h => ⟨h, fun j z => absurd z (by simp)⟩
  | i :: l, g, h => by
    obtain ⟨h1, h1'⟩ := Ph.row_all (d := d) hm i ns h
    obtain ⟨h2, h3⟩ := Ph.mid_all (d := d) hm ns l h1
    refine ⟨h2, fun x hx j hj => ?_⟩
    rcases List.mem_cons.mp hx with rfl | hx
    · exact (h1' j hj).lo (fold_lo _ (fun M b => rowF_lo d m b ns M) l _)
    · exact h3 x hx j hj

/-! ### all the middles -/
/-- the table passes: no two entries there and back below 0; on the diagonal nothing below 0 -/
def Good (d : Bool) (M : Tb α) : Prop := if d = true then ∀ i v, getT M (i, i) = some v → 0 ≤ v else ∀ i j a b, getT M (i, j) = some a → getT M (j, i) = some b → 0 ≤ a + b
theorem Good.lo {d : Bool} {M M' : Tb α} (h : Good d M') (l : Lo M' M) : Good d M := by
  unfold Good at h ⊢
  cases d with
  | true =>
    rw [if_pos rfl] at h ⊢
    intro i v e
    obtain ⟨u, e', hu⟩ := l _ _ e
    exact Int.le_trans (h i u e') hu
  | false =>
    rw [if_neg (by simp)] at h ⊢
    intro i j a b e1 e2
    obtain ⟨a', e1', h1⟩ := l _ _ e1
    obtain ⟨b', e2', h2⟩ := l _ _ e2
    have := h i j a' b' e1' e2'
    omega
/-- what goes by ms is counted -/
def Via (d : Bool) (ms : List α) (M : Tb α) : Prop := ∀ m ∈ ms, ∀ i j a b, (d = true ∨ i ≠ j) → getT M (i, m) = some a → getT M (m, j) = some b → ∃ v, getT M (i, j) = some v ∧ v ≤ a + b
theorem Via.back {d : Bool} {ms : List α} {M : Tb α} (h : Via d ms M) (g : Good d M) {x m : α} {a b : Int} (hm : m ∈ ms) (e1 : getT M (x, m) = some a) (e2 : getT M (m, x) = some b) : 0 ≤ a + b := by
  unfold Good at g
  cases d with
  | true =>
    rw [if_pos rfl] at g
    obtain ⟨v, e, hv⟩ := h m hm x x a b (.inl rfl) e1 e2
    exact Int.le_trans (g x v e) hv
  | false =>
    rw [if_neg (by simp)] at g
    exact g x m a b e1 e2
theorem Via.mid {d : Bool} {ns ms : List α} {B : Br α} {M : Tb α} {m : α} (h : Via d ms M) (I : ZM.Inv d ns B M) (g : Good d M) : Via d (ms ++ [m]) (midF d m ns M) := by
  have hm : ∀ c, getT M (m, m) = some c → 0 ≤ c := fun c e => by
    unfold Good at g
    cases d with
    | true =>
      rw [if_pos rfl] at g
      exact g m c e
    | false =>
      rcases (I.dom _ _ _ e).2.2 with z | z
      · cases z
      · exact absurd rfl z
  obtain ⟨ph, ge⟩ := Ph.mid_all (d := d) hm ns ns (Ph.refl m M)
  have ph' : Ph m M (midF d m ns M) := ph
  have ge' : ∀ i ∈ ns, ∀ j ∈ ns, Ge d m M (midF d m ns M) i j := ge
  generalize midF d m ns M = G at ph' ge'
  intro x hx i j a b hd e1 e2
  -- by m itself
  have viaM : ∀ p q, getT M (i, m) = some p → getT M (m, j) = some q → ∃ v, getT G (i, j) = some v ∧ v ≤ p + q := fun p q f1 f2 => ge' i (I.dom _ _ _ f1).1 j (I.dom _ _ _ f2).2.1 p q hd f1 f2
  have low : ∀ v, getT M (i, j) = some v → ∃ u, getT G (i, j) = some u ∧ u ≤ v := fun v e => ph'.lo _ _ e
  rcases List.mem_append.mp hx with hy | hy
  · rcases ph'.val i x a e1 with f1 | ⟨a1, a2, f1, f1', rfl⟩
    · rcases ph'.val x j b e2 with f2 | ⟨b1, b2, f2, f2', rfl⟩
      · obtain ⟨v, e, hv⟩ := h x hy i j a b hd f1 f2
        obtain ⟨u, e', hu⟩ := low v e
        exact ⟨u, e', by omega⟩
      · -- i -> x -> m -> j
        by_cases q : i = m
        · subst q
          have z := h.back g hy f1 f2
          have : ∃ u, getT G (i, j) = some u ∧ u ≤ b2 := by
            rw [ph'.row j]
            exact ⟨b2, f2', Int.le_refl _⟩
          obtain ⟨u, e', hu⟩ := this
          exact ⟨u, e', by omega⟩
        · obtain ⟨v, e, hv⟩ := h x hy i m a b1 (.inr q) f1 f2
          obtain ⟨u, e', hu⟩ := viaM v b2 e f2'
          exact ⟨u, e', by omega⟩
    · rcases ph'.val x j b e2 with f2 | ⟨b1, b2, f2, f2', rfl⟩
      · -- i -> m -> x -> j
        by_cases q : m = j
        · subst q
          have z := h.back g hy f1' f2
          have : ∃ u, getT G (i, m) = some u ∧ u ≤ a1 := by
            rw [ph'.col i]
            exact ⟨a1, f1, Int.le_refl _⟩
          obtain ⟨u, e', hu⟩ := this
          exact ⟨u, e', by omega⟩
        · obtain ⟨v, e, hv⟩ := h x hy m j a2 b (.inr q) f1' f2
          obtain ⟨u, e', hu⟩ := viaM a1 v f1 e
          exact ⟨u, e', by omega⟩
      · have z := h.back g hy f1' f2
        obtain ⟨u, e', hu⟩ := viaM a1 b2 f1 f2'
        exact ⟨u, e', by omega⟩
  · rw [List.mem_singleton] at hy
    subst hy
    rw [ph'.col i] at e1
    rw [ph'.row j] at e2
    exact viaM a b e1 e2
theorem via_fw {d : Bool} {ns : List α} {B : Br α} : ∀ (ms pre : List α) {M : Tb α}, Via d pre M → ZM.Inv d ns B M → Good d (fwF d ms ns M) → Via d (pre ++ ms) (fwF d ms ns M)
  | [], pre, M, h, _, _ => by
    rw [List.append_nil]
    exact h
  | m :: ms, pre, M, h, I, g => by
    have g0 : Good d M := g.lo (fwF_lo d (m :: ms) ns M)
    have r := via_fw ms (pre ++ [m]) (h.mid I g0) (I.mid m ns) g
    rw [List.append_assoc] at r
    exact r
end ZM

namespace ZM
variable {α : Type} [DecidableEq α]
/-- closed over B -/
structure Cl (B : Br α) (f : Tb α) : Prop where
  bnd : ∀ t ∈ B, ∃ u, getT f (t.1, t.2.1) = some u ∧ u ≤ t.2.2
  tri : ∀ i m j a b, i ≠ j → getT f (i, m) = some a → getT f (m, j) = some b → ∃ v, getT f (i, j) = some v ∧ v ≤ a + b
  nc : ∀ i j a b, getT f (i, j) = some a → getT f (j, i) = some b → 0 ≤ a + b
/-- its entries are walks -/
def Snd (B : Br α) (f : Tb α) : Prop := ∀ i j v, i ≠ j → getT f (i, j) = some v → W B i j v
theorem Cl.walk {B : Br α} {f : Tb α} (c : Cl B f) (hB : ∀ t ∈ B, t.1 ≠ t.2.1) {i j : α} {v : Int} (w : W B i j v) : (i ≠ j → ∃ u, getT f (i, j) = some u ∧ u ≤ v) ∧ (i = j → 0 ≤ v) := by
  induction w with
  | one q => exact ⟨fun _ => c.bnd _ q, fun z => absurd z (hB _ q)⟩
  | @cat i m j a b _ _ h1 h2 =>
    by_cases e1 : i = m
    · subst e1
      have a0 := h1.2 rfl
      refine ⟨fun n => ?_, fun e => ?_⟩
      · obtain ⟨u, e, hu⟩ := h2.1 n
        exact ⟨u, e, by omega⟩
      · have := h2.2 e
        omega
    · obtain ⟨p, f1, hp⟩ := h1.1 e1
      by_cases e2 : m = j
      · subst e2
        have b0 := h2.2 rfl
        exact ⟨fun _ => ⟨p, f1, by omega⟩, fun z => absurd z e1⟩
      · obtain ⟨q, f2, hq⟩ := h2.1 e2
        refine ⟨fun n => ?_, fun e => ?_⟩
        · obtain ⟨u, f3, hu⟩ := c.tri i m j p q n f1 f2
          exact ⟨u, f3, by omega⟩
        · subst e
          have := c.nc i m p q f1 f2
          omega
theorem Cl.noNeg {B : Br α} {f : Tb α} (c : Cl B f) (hB : ∀ t ∈ B, t.1 ≠ t.2.1) : ¬ Neg B := fun ⟨i, v, w, hv⟩ => by
  have := (c.walk hB w).2 rfl
  omega
theorem Cl.uniq {B : Br α} {f g : Tb α} (c : Cl B f) (s : Snd B f) (c' : Cl B g) (s' : Snd B g) (hB : ∀ t ∈ B, t.1 ≠ t.2.1) {i j : α} (n : i ≠ j) : getT f (i, j) = getT g (i, j) := by
  cases e : getT f (i, j) with
  | some v =>
    obtain ⟨u, e', hu⟩ := (c'.walk hB (s i j v n e)).1 n
    obtain ⟨x, e2, hx⟩ := (c.walk hB (s' i j u n e')).1 n
    rw [e] at e2
    cases e2
    rw [e', Int.le_antisymm hx hu]
  | none =>
    cases e' : getT g (i, j) with
    | none => rfl
    | some u =>
      obtain ⟨x, e2, hx⟩ := (c.walk hB (s' i j u n e')).1 n
      rw [e] at e2
      cases e2
theorem Cl.same {B B' : Br α} {f : Tb α} (c : Cl B f) (h : ∀ t, t ∈ B' → t ∈ B) : Cl B' f := ⟨fun t ht => c.bnd t (h t ht), c.tri, c.nc⟩
theorem Snd.same {B B' : Br α} {f : Tb α} (c : Snd B f) (h : ∀ t, t ∈ B → t ∈ B') : Snd B' f := fun i j v n e => (c i j v n e).mono fun t ht => .one (h t ht)

/-! ### the tables are closed -/
theorem addB_start {d : Bool} {ns : List α} {B : Br α} (hB : Bok ns B) : ∀ (L : Br α) {M : Tb α}, (∀ t ∈ L, t ∈ B) → Inv d ns B M → Inv d ns B (L.foldl addB M) ∧ Lo (L.foldl addB M) M ∧ ∀ t ∈ L, ∃ u, getT (L.foldl addB M) (t.1, t.2.1) = some u ∧ u ≤ t.2.2
  | [], M, _, I => ⟨I, Lo.refl M, fun t h => absurd h (by simp)⟩
  | t :: L, M, h, I => by
    have ht := h t List.mem_cons_self
    obtain ⟨b1, b2, b3⟩ := hB t ht
    have I1 : Inv d ns B (addB M t) := I.low (.inl (.one ht)) ⟨b1, b2, .inr b3⟩
    obtain ⟨I2, l2, h2⟩ := addB_start hB L (fun x hx => h x (List.mem_cons_of_mem _ hx)) I1
    refine ⟨I2, l2.trans (low_lo _ _ _), fun x hx => ?_⟩
    rcases List.mem_cons.mp hx with rfl | hx
    · obtain ⟨u, e, hu⟩ := low_at M (x.1, x.2.1) x.2.2
      obtain ⟨y, e', hy⟩ := l2 _ _ e
      exact ⟨y, e', Int.le_trans hy hu⟩
    · exact h2 x hx
theorem inv_nil {d : Bool} {ns : List α} {B : Br α} : Inv d ns B ([] : Tb α) := ⟨fun i j v e => (by rw [getT_nil] at e; cases e), fun i j v e => (by rw [getT_nil] at e; cases e), List.nodup_nil⟩
theorem diag_get : ∀ (ns : List α) (M : Tb α) (x y : α), getT (ns.foldl (fun M x => putT M (x, x) 0) M) (x, y) = if x = y ∧ x ∈ ns then some 0 else getT M (x, y)
  | [], M, x, y => by simp
  | n :: ns, M, x, y => by
    rw [List.foldl_cons, diag_get ns, getT_put]
    by_cases h : x = y ∧ x ∈ ns
    · rw [if_pos h, if_pos ⟨h.1, List.mem_cons_of_mem _ h.2⟩]
    · rw [if_neg h]
      by_cases q : (x, y) = (n, n)
      · rw [if_pos q]
        cases q
        rw [if_pos ⟨rfl, List.mem_cons_self⟩]
      · rw [if_neg q, if_neg]
        rintro ⟨rfl, hx⟩
        rcases List.mem_cons.mp hx with rfl | hx
        · exact q rfl
        · exact h ⟨rfl, hx⟩
theorem diag_inv {ns : List α} {B : Br α} : Inv true ns B (diag ns) := by
  refine ⟨fun i j v e => ?_, fun i j v e => ?_, ?_⟩
  · unfold diag at e
    rw [diag_get] at e
    by_cases h : i = j ∧ i ∈ ns
    · rw [if_pos h] at e
      cases e
      exact .inr ⟨rfl, h.1, rfl⟩
    · rw [if_neg h, getT_nil] at e
      cases e
  · unfold diag at e
    rw [diag_get] at e
    by_cases h : i = j ∧ i ∈ ns
    · exact ⟨h.2, h.1 ▸ h.2, .inl rfl⟩
    · rw [if_neg h, getT_nil] at e
      cases e
  · exact fold_inv (fun M : Tb α => (M.map (·.1)).Nodup) _ ns [] List.nodup_nil fun M b _ h => nodup_put h _ _
theorem via_nil {d : Bool} {M : Tb α} : Via d [] M := fun m h => absurd h (by simp)
theorem ctab_inv {ns : List α} {B : Br α} (hB : Bok ns B) : Inv false ns B (ctab ns B) := (addB_start hB B (fun _ h => h) inv_nil).1.fw ns ns
theorem ltab_inv {ns : List α} {B : Br α} (hB : Bok ns B) : Inv true ns B (ltab ns B) := (addB_start hB B (fun _ h => h) diag_inv).1.fw ns ns
theorem ctab_snd {ns : List α} {B : Br α} (hB : Bok ns B) : Snd B (ctab ns B) := fun i j v n e => by
  rcases (ctab_inv hB).snd i j v e with w | ⟨z, _⟩
  · exact w
  · cases z
theorem ltab_snd {ns : List α} {B : Br α} (hB : Bok ns B) : Snd B (ltab ns B) := fun i j v n e => by
  rcases (ltab_inv hB).snd i j v e with w | ⟨_, z, _⟩
  · exact w
  · exact absurd z n
theorem ctab_cl {ns : List α} {B : Br α} (hB : Bok ns B) (h : negP (ctab ns B) = false) : Cl B (ctab ns B) := by
  have I := ctab_inv hB
  have g : Good false (ctab ns B) := by
    unfold Good
    rw [if_neg (by simp)]
    intro i j a b e1 e2
    unfold negP at h
    rw [List.any_eq_false] at h
    have := h ((i, j), a) ((mem_get I.nod).mpr e1)
    simp only [e2, decide_eq_true_eq] at this
    omega
  obtain ⟨I0, _, hb⟩ := addB_start (d := false) hB B (fun _ h => h) inv_nil
  have V : Via false ([] ++ ns) (ctab ns B) := via_fw ns [] via_nil I0 g
  rw [List.nil_append] at V
  refine ⟨fun t ht => ?_, fun i m j a b n e1 e2 => V m (I.dom _ _ _ e1).2.1 i j a b (.inr n) e1 e2, ?_⟩
  · obtain ⟨u, e, hu⟩ := hb t ht
    obtain ⟨y, e', hy⟩ := fwF_lo false ns ns _ _ _ e
    exact ⟨y, e', Int.le_trans hy hu⟩
  · unfold Good at g
    rw [if_neg (by simp)] at g
    exact g
theorem ltab_good {ns : List α} {B : Br α} (hB : Bok ns B) (h : negD ns (ltab ns B) = false) : Good true (ltab ns B) := by
  unfold Good
  rw [if_pos rfl]
  intro i v e
  unfold negD at h
  rw [List.any_eq_false] at h
  have := h i ((ltab_inv hB).dom _ _ _ e).1
  simp only [e, decide_eq_true_eq] at this
  omega
theorem ltab_via {ns : List α} {B : Br α} (hB : Bok ns B) (h : negD ns (ltab ns B) = false) : Via true ns (ltab ns B) := by
  obtain ⟨I0, _, hb⟩ := addB_start (d := true) hB B (fun _ h => h) diag_inv
  have V : Via true ([] ++ ns) (ltab ns B) := via_fw ns [] via_nil I0 (ltab_good hB h)
  rw [List.nil_append] at V
  exact V
theorem ltab_bnd {ns : List α} {B : Br α} (hB : Bok ns B) : ∀ t ∈ B, ∃ u, getT (ltab ns B) (t.1, t.2.1) = some u ∧ u ≤ t.2.2 := fun t ht => by
  obtain ⟨I0, _, hb⟩ := addB_start (d := true) hB B (fun _ h => h) diag_inv
  obtain ⟨u, e, hu⟩ := hb t ht
  obtain ⟨y, e', hy⟩ := fwF_lo true ns ns _ _ _ e
  exact ⟨y, e', Int.le_trans hy hu⟩
theorem ltab_cl {ns : List α} {B : Br α} (hB : Bok ns B) (h : negD ns (ltab ns B) = false) : Cl B (ltab ns B) := by
  have I := ltab_inv hB
  have V := ltab_via hB h
  have g := ltab_good hB h
  unfold Good at g
  rw [if_pos rfl] at g
  refine ⟨ltab_bnd hB, fun i m j a b n e1 e2 => V m (I.dom _ _ _ e1).2.1 i j a b (.inl rfl) e1 e2, fun i j a b e1 e2 => ?_⟩
  obtain ⟨v, e, hv⟩ := V j (I.dom _ _ _ e1).2.1 i i a b (.inl rfl) e1 e2
  exact Int.le_trans (g i v e) hv
/-- on the diagonal, at every name: some entry not above 0 -/
theorem ltab_diag {ns : List α} {B : Br α} (hB : Bok ns B) {x : α} (hx : x ∈ ns) : ∃ v, getT (ltab ns B) (x, x) = some v ∧ v ≤ 0 := by
  obtain ⟨I0, l0, hb⟩ := addB_start (d := true) hB B (fun _ h => h) (diag_inv (B := B))
  have e : getT (diag ns) (x, x) = some 0 := by
    unfold diag
    rw [diag_get, if_pos ⟨rfl, hx⟩]
  obtain ⟨u, e1, h1⟩ := l0 _ _ e
  obtain ⟨y, e2, h2⟩ := fwF_lo true ns ns _ _ _ e1
  exact ⟨y, e2, Int.le_trans h2 h1⟩
theorem ltab_diag0 {ns : List α} {B : Br α} (hB : Bok ns B) (h : negD ns (ltab ns B) = false) {x : α} (hx : x ∈ ns) : getT (ltab ns B) (x, x) = some 0 := by
  obtain ⟨v, e, hv⟩ := ltab_diag hB hx
  have g := ltab_good hB h
  unfold Good at g
  rw [if_pos rfl] at g
  rw [e, Int.le_antisymm hv (g x v e)]
theorem Bok.ne {ns : List α} {B : Br α} (hB : Bok ns B) : ∀ t ∈ B, t.1 ≠ t.2.1 := fun t h => (hB t h).2.2
theorem negP_iff {ns : List α} {B : Br α} (hB : Bok ns B) : negP (ctab ns B) = true ↔ Neg B := by
  constructor
  · intro h
    unfold negP at h
    obtain ⟨⟨⟨i, j⟩, a⟩, he, hc⟩ := List.any_eq_true.mp h
    have I := ctab_inv hB
    have e1 : getT (ctab ns B) (i, j) = some a := (mem_get I.nod).mp he
    simp only at hc
    cases e2 : getT (ctab ns B) (j, i) with
    | none => rw [e2] at hc; cases hc
    | some b =>
      rw [e2] at hc
      have hlt := of_decide_eq_true hc
      have n : i ≠ j := by
        rcases (I.dom _ _ _ e1).2.2 with z | z
        · cases z
        · exact z
      exact ⟨i, a + b, .cat (ctab_snd hB i j a n e1) (ctab_snd hB j i b (Ne.symm n) e2), hlt⟩
  · intro h
    cases e : negP (ctab ns B) with
    | true => rfl
    | false => exact absurd h ((ctab_cl hB e).noNeg hB.ne)
theorem negD_iff {ns : List α} {B : Br α} (hB : Bok ns B) : negD ns (ltab ns B) = true ↔ Neg B := by
  constructor
  · intro h
    unfold negD at h
    obtain ⟨x, hx, hc⟩ := List.any_eq_true.mp h
    cases e : getT (ltab ns B) (x, x) with
    | none => rw [e] at hc; cases hc
    | some v =>
      rw [e] at hc
      have hlt := of_decide_eq_true hc
      rcases (ltab_inv hB).snd x x v e with w | ⟨_, _, z⟩
      · exact ⟨x, v, w, hlt⟩
      · omega
  · intro h
    cases e : negD ns (ltab ns B) with
    | true => rfl
    | false => exact absurd h ((ltab_cl hB e).noNeg hB.ne)
theorem neg_false {p : Prop} {b : Bool} (h : b = true ↔ p) (n : ¬ p) : b = false := by
  cases b with
  | false => rfl
  | true => exact absurd (h.mp rfl) n

/-! ### as lists of triples -/
theorem mem_trs {M : Tb α} (h : (M.map (·.1)).Nodup) {t : α × α × Int} : t ∈ trs M ↔ getT M (t.1, t.2.1) = some t.2.2 := by
  unfold trs
  rw [List.mem_map]
  constructor
  · rintro ⟨e, he, rfl⟩
    exact (mem_get h).mp he
  · intro e
    exact ⟨((t.1, t.2.1), t.2.2), (mem_get h).mpr e, rfl⟩
theorem nodup_trs {M : Tb α} (h : (M.map (·.1)).Nodup) : (trs M).Nodup := by
  unfold trs
  unfold List.Nodup at h ⊢
  rw [List.pairwise_map] at h ⊢
  refine h.imp fun {a b} n e => n ?_
  obtain ⟨⟨a1, a2⟩, a3⟩ := a
  obtain ⟨⟨b1, b2⟩, b3⟩ := b
  simp only [Prod.mk.injEq] at e ⊢
  exact ⟨e.1, e.2.1⟩
theorem perm_of_mem {β : Type} [DecidableEq β] : ∀ {l m : List β}, l.Nodup → m.Nodup → (∀ x, x ∈ l ↔ x ∈ m) → l.Perm m
  | [], m, _, _, h => by
    cases m with
    | nil => exact List.Perm.refl _
    | cons y m => exact absurd ((h y).mpr List.mem_cons_self) (by simp)
  | x :: l, m, hl, hm, h => by
    rw [List.nodup_cons] at hl
    have hx : x ∈ m := (h x).mp List.mem_cons_self
    have p := List.perm_cons_erase hx
    have q : l.Perm (m.erase x) := perm_of_mem hl.2 (hm.erase x) fun y => by
      rw [hm.mem_erase_iff, ← h y, List.mem_cons]
      constructor
      · intro z
        exact ⟨fun e => hl.1 (by rw [← e]; exact z), .inr z⟩
      · rintro ⟨n, rfl | z⟩
        · exact absurd rfl n
        · exact z
    exact (q.cons x).trans p.symm
theorem perm_trs {f g : Tb α} (hf : (f.map (·.1)).Nodup) (hg : (g.map (·.1)).Nodup) (h : ∀ i j, getT f (i, j) = getT g (i, j)) : (trs f).Perm (trs g) :=
  perm_of_mem (nodup_trs hf) (nodup_trs hg) fun t => by rw [mem_trs hf, mem_trs hg, h]
/-- without the diagonal -/
def offD (M : Tb α) : Tb α := M.filter fun e => decide (e.1.1 ≠ e.1.2)
theorem offD_get : ∀ (M : Tb α) (i j : α), getT (offD M) (i, j) = if i = j then none else getT M (i, j)
  | [], i, j => by simp [offD, getT_nil]
  | e :: M, i, j => by
    have ih := offD_get M i j
    unfold offD at ih ⊢
    rw [List.filter_cons]
    by_cases h : e.1.1 ≠ e.1.2
    · rw [if_pos (decide_eq_true h), getT_cons, getT_cons, ih]
      by_cases q : e.1 = (i, j)
      · rw [if_pos q, if_pos q, if_neg]
        intro z
        rw [q] at h
        exact h z
      · rw [if_neg q, if_neg q]
    · rw [if_neg (by rw [decide_eq_true_eq]; exact h), getT_cons, ih]
      by_cases q : e.1 = (i, j)
      · rw [q] at h
        have : i = j := Classical.byContradiction fun z => h z
        rw [if_pos this, if_pos this]
      · rw [if_neg q]
theorem offD_nod {M : Tb α} (h : (M.map (·.1)).Nodup) : ((offD M).map (·.1)).Nodup := h.sublist ((List.filter_sublist).map _)
theorem tabs_perm {ns ns' : List α} {B B' : Br α} (hB : Bok ns B) (hB' : Bok ns' B') (hn : ¬ Neg B) (hm : ∀ t, t ∈ B' ↔ t ∈ B) : (trs (ctab ns B)).Perm (trs (offD (ltab ns' B'))) := by
  have hn' : ¬ Neg B' := fun ⟨i, v, w, hv⟩ => hn ⟨i, v, w.mono fun t ht => .one ((hm t).mp ht), hv⟩
  have c1 := ctab_cl hB (neg_false (negP_iff hB) hn)
  have c2 := (ltab_cl hB' (neg_false (negD_iff hB') hn')).same fun t => (hm t).mpr
  have s2 : Snd B (ltab ns' B') := (ltab_snd hB').same fun t => (hm t).mp
  refine perm_trs (ctab_inv hB).nod (offD_nod (ltab_inv hB').nod) fun i j => ?_
  rw [offD_get]
  by_cases e : i = j
  · rw [if_pos e]
    cases q : getT (ctab ns B) (i, j) with
    | none => rfl
    | some v =>
      rcases ((ctab_inv hB).dom _ _ _ q).2.2 with z | z
      · cases z
      · exact absurd e z
  · rw [if_neg e]
    exact c1.uniq (ctab_snd hB) c2 s2 hB.ne e
theorem ctab_perm {ns ns' : List α} {B B' : Br α} (hB : Bok ns B) (hB' : Bok ns' B') (hn : ¬ Neg B) (hm : ∀ t, t ∈ B' ↔ t ∈ B) : (trs (ctab ns B)).Perm (trs (ctab ns' B')) := by
  have hn' : ¬ Neg B' := fun ⟨i, v, w, hv⟩ => hn ⟨i, v, w.mono fun t ht => .one ((hm t).mp ht), hv⟩
  have c1 := ctab_cl hB (neg_false (negP_iff hB) hn)
  have c2 := (ctab_cl hB' (neg_false (negP_iff hB') hn')).same fun t => (hm t).mpr
  have s2 : Snd B (ctab ns' B') := (ctab_snd hB').same fun t => (hm t).mp
  refine perm_trs (ctab_inv hB).nod (ctab_inv hB').nod fun i j => ?_
  have off : ∀ {ns : List α} {B : Br α}, Bok ns B → ∀ i, getT (ctab ns B) (i, i) = none := fun {ns B} h i => by
    cases q : getT (ctab ns B) (i, i) with
    | none => rfl
    | some v =>
      rcases ((ctab_inv h).dom _ _ _ q).2.2 with z | z
      · cases z
      · exact absurd rfl z
  by_cases e : i = j
  · subst e
    rw [off hB, off hB']
  · exact c1.uniq (ctab_snd hB) c2 s2 hB.ne e
/-- the closure of a closure is itself -/
theorem trs_ok {ns : List α} {B : Br α} (hB : Bok ns B) : Bok ns (trs (ctab ns B)) := fun t ht => by
  obtain ⟨a, b, c⟩ := (ctab_inv hB).dom _ _ _ ((mem_trs (ctab_inv hB).nod).mp ht)
  refine ⟨a, b, ?_⟩
  rcases c with z | z
  · cases z
  · exact z
theorem ctab_again {ns ns' : List α} {B Z : Br α} (hB : Bok ns B) (hn : ¬ Neg B) (hZ : ∀ t, t ∈ Z ↔ t ∈ trs (ctab ns B)) (hZ' : Bok ns' Z) : ¬ Neg Z ∧ (trs (ctab ns' Z)).Perm (trs (ctab ns B)) := by
  have I := ctab_inv hB
  have c1 := ctab_cl hB (neg_false (negP_iff hB) hn)
  have cZ : Cl Z (ctab ns B) := ⟨fun t ht => ⟨_, (mem_trs I.nod).mp ((hZ t).mp ht), Int.le_refl _⟩, c1.tri, c1.nc⟩
  have sZ : Snd Z (ctab ns B) := fun i j v n e => .one ((hZ _).mpr ((mem_trs I.nod).mpr e))
  have nZ := cZ.noNeg hZ'.ne
  refine ⟨nZ, perm_trs (ctab_inv hZ').nod I.nod fun i j => ?_⟩
  have off : ∀ {ns : List α} {B : Br α}, Bok ns B → ∀ i, getT (ctab ns B) (i, i) = none := fun {ns B} h i => by
    cases q : getT (ctab ns B) (i, i) with
    | none => rfl
    | some v =>
      rcases ((ctab_inv h).dom _ _ _ q).2.2 with z | z
      · cases z
      · exact absurd rfl z
  by_cases e : i = j
  · subst e
    rw [off hB, off hZ']
  · exact (ctab_cl hZ' (neg_false (negP_iff hZ') nZ)).uniq (ctab_snd hZ') cZ sZ hZ'.ne e

/-! ### rows -/
def okR (B : Br α) (x : α → Int) : Prop := ∀ t ∈ B, x t.1 - x t.2.1 ≤ t.2.2
theorem W.row {B : Br α} {x : α → Int} (h : okR B x) {i j : α} {v : Int} (w : W B i j v) : x i - x j ≤ v := by
  induction w with
  | one q => exact h _ q
  | cat _ _ a b => omega
theorem Neg.row {B : Br α} (n : Neg B) (x : α → Int) : ¬ okR B x := fun h => by
  obtain ⟨i, v, w, hv⟩ := n
  have := w.row h
  omega
theorem okR_trs {ns : List α} {B : Br α} (hB : Bok ns B) (hn : ¬ Neg B) {Z : Br α} (hZ : ∀ t, t ∈ Z ↔ t ∈ trs (ctab ns B)) (x : α → Int) : okR Z x ↔ okR B x := by
  have I := ctab_inv hB
  have c := ctab_cl hB (neg_false (negP_iff hB) hn)
  constructor
  · intro h t ht
    obtain ⟨u, e, hu⟩ := c.bnd t ht
    have := h (t.1, t.2.1, u) ((hZ _).mpr ((mem_trs I.nod).mpr e))
    simp only at this
    omega
  · intro h t ht
    have e := (mem_trs I.nod).mp ((hZ t).mp ht)
    refine (ctab_snd hB _ _ _ ?_ e).row h
    rcases (I.dom _ _ _ e).2.2 with z | z
    · cases z
    · exact z
end ZM

namespace ZM
variable {α : Type} [DecidableEq α]
/-! ### walks edge by edge, to j -/
inductive E (B : Br α) (j : α) : α → Int → Prop
  | nil : E B j j 0
  | cons {i m : α} {k v : Int} : (i, m, k) ∈ B → E B j m v → E B j i (k + v)
/-- a walk, or nothing at all -/
def Z (B : Br α) (i j : α) (v : Int) : Prop := (i = j ∧ v = 0) ∨ W B i j v
theorem Z.cat {B : Br α} {i m j : α} {a b : Int} (h : Z B i m a) (k : Z B m j b) : Z B i j (a + b) := by
  rcases h with ⟨rfl, rfl⟩ | h
  · rw [Int.zero_add]; exact k
  · rcases k with ⟨rfl, rfl⟩ | k
    · rw [Int.add_zero]; exact .inr h
    · exact .inr (.cat h k)
theorem Z.edge {B : Br α} {i m : α} {k : Int} (h : (i, m, k) ∈ B) : Z B i m k := .inr (.one h)
theorem Z.self {B : Br α} (n : ¬ Neg B) {i : α} {v : Int} (h : Z B i i v) : 0 ≤ v := by
  rcases h with ⟨_, rfl⟩ | h
  · exact Int.le_refl _
  · exact Int.not_lt.mp fun z => n ⟨i, v, h, z⟩
theorem W.toE {B : Br α} {i j : α} {v : Int} (w : W B i j v) : ∀ {l : α} {c : Int}, E B l j c → E B l i (v + c) := by
  induction w with
  | one q => exact fun h => .cons q h
  | cat _ _ a b =>
    intro l c h
    have := a (b h)
    rw [← Int.add_assoc] at this
    exact this
theorem Z.toE {B : Br α} {i j : α} {v : Int} (h : Z B i j v) : E B j i v := by
  rcases h with ⟨rfl, rfl⟩ | h
  · exact .nil
  · have := h.toE .nil
    rw [Int.add_zero] at this
    exact this
/-- its nodes but the last -/
inductive SP (B : Br α) (j : α) : α → List α → Int → Prop
  | nil : SP B j j [] 0
  | cons {i m : α} {ns : List α} {k v : Int} : (i, m, k) ∈ B → SP B j m ns v → SP B j i (i :: ns) (k + v)
theorem SP.toZ {B : Br α} {i j : α} {ns : List α} {v : Int} (h : SP B j i ns v) : Z B i j v := by
  induction h with
  | nil => exact .inl ⟨rfl, rfl⟩
  | cons q _ ih => exact (Z.edge q).cat ih
theorem SP.cut {B : Br α} {j i m : α} {ns : List α} {w : Int} (h : SP B j m ns w) (hi : i ∈ ns ++ [j]) : ∃ ns2 w2 c, SP B j i ns2 w2 ∧ (ns2 ++ [j]).Sublist (ns ++ [j]) ∧ Z B m i c ∧ w = c + w2 := by
  induction h with
  | nil =>
    simp at hi
    subst hi
    exact ⟨[], 0, 0, .nil, List.Sublist.refl _, .inl ⟨rfl, rfl⟩, rfl⟩
  | @cons a m' ns k v q h ih =>
    by_cases e : i = a
    · subst e
      exact ⟨i :: ns, k + v, 0, .cons q h, List.Sublist.refl _, .inl ⟨rfl, rfl⟩, (Int.zero_add _).symm⟩
    · have hi' : i ∈ ns ++ [j] := by
        rcases List.mem_cons.mp (show i ∈ a :: (ns ++ [j]) from hi) with z | z
        · exact absurd z e
        · exact z
      obtain ⟨ns2, w2, c, h1, h2, h3, h4⟩ := ih hi'
      exact ⟨ns2, w2, k + c, h1, h2.trans (List.sublist_cons_self a _), (Z.edge q).cat h3, by omega⟩
theorem E.simple {B : Br α} (n : ¬ Neg B) {j i : α} {v : Int} (h : E B j i v) : ∃ ns w, SP B j i ns w ∧ (ns ++ [j]).Nodup ∧ w ≤ v := by
  induction h with
  | nil => exact ⟨[], 0, .nil, by simp, Int.le_refl _⟩
  | @cons i m k v q h ih =>
    obtain ⟨ns, w, h1, h2, h3⟩ := ih
    by_cases hi : i ∈ ns ++ [j]
    · obtain ⟨ns2, w2, c, g1, g2, g3, g4⟩ := h1.cut hi
      have := Z.self n ((Z.edge q).cat g3)
      exact ⟨ns2, w2, g1, h2.sublist g2, by omega⟩
    · exact ⟨i :: ns, k + w, .cons q h1, List.nodup_cons.mpr ⟨hi, h2⟩, by omega⟩
theorem SP.size {B : Br α} {X : Int} (hX : ∀ t ∈ B, -X ≤ t.2.2 ∧ t.2.2 ≤ X) {i j : α} {ns : List α} {v : Int} (h : SP B j i ns v) : -(ns.length * X) ≤ v ∧ v ≤ ns.length * X := by
  induction h with
  | nil => simp
  | @cons i m ns k v q h ih =>
    have := hX _ q
    simp only at this
    have e : ((i :: ns).length : Int) * X = ns.length * X + X := by
      rw [List.length_cons]
      rw [show ((ns.length + 1 : Nat) : Int) = (ns.length : Int) + 1 from rfl, Int.add_mul, Int.one_mul]
    rw [e]
    omega
theorem SP.names {B : Br α} {ns0 : List α} (hB : ∀ t ∈ B, t.1 ∈ ns0) {i j : α} {ns : List α} {v : Int} (h : SP B j i ns v) : ∀ x ∈ ns, x ∈ ns0 := by
  induction h with
  | nil => exact fun x z => absurd z (by simp)
  | cons q _ ih =>
    intro x hx
    rcases List.mem_cons.mp hx with rfl | hx
    · exact hB _ q
    · exact ih x hx
theorem len_sub {β : Type} [DecidableEq β] : ∀ {l m : List β}, l.Nodup → (∀ x ∈ l, x ∈ m) → l.length ≤ m.length
  | [], m, _, _ => Nat.zero_le _
  | x :: l, m, hl, h => by
    rw [List.nodup_cons] at hl
    have hx := h x List.mem_cons_self
    have := len_sub (l := l) (m := m.erase x) hl.2 fun y hy => (List.mem_erase_of_ne (fun e => hl.1 (by rw [← e]; exact hy))).mpr (h y (List.mem_cons_of_mem _ hy))
    have p : 0 < m.length := List.length_pos_of_mem hx
    rw [List.length_erase_of_mem hx] at this
    rw [List.length_cons]
    omega
/-- no walk is far below, some walk is not far above -/
theorem short {B : Br α} {ns0 : List α} (n : ¬ Neg B) {X : Int} (hX0 : 0 ≤ X) (hX : ∀ t ∈ B, -X ≤ t.2.2 ∧ t.2.2 ≤ X) (hB : ∀ t ∈ B, t.1 ∈ ns0) (h4 : ns0.length ≤ 4) {i j : α} {v : Int} (h : Z B i j v) : ∃ w, Z B i j w ∧ w ≤ v ∧ -(4 * X) ≤ w ∧ w ≤ 4 * X := by
  obtain ⟨ns, w, h1, h2, h3⟩ := h.toE.simple n
  have h5 := h1.size hX
  have h6 : ns.length ≤ 4 := Nat.le_trans (len_sub (h2.sublist (List.sublist_append_left _ _)) (h1.names hB)) h4
  have h7 : (ns.length : Int) * X ≤ 4 * X := Int.mul_le_mul_of_nonneg_right (by omega) hX0
  exact ⟨w, h1.toZ, h3, by omega, by omega⟩

/-! ### with an edge from every name to o, of weight F -/
theorem ext {B B' : Br α} {o : α} {F : Int} (h' : ∀ t ∈ B', t ∈ B ∨ (t.2.1 = o ∧ t.2.2 = F)) (hF : ∀ n u, Z B o n u → 0 ≤ u + F) {i j : α} {v : Int} (h : E B' j i v) :
    (∃ u, Z B i j u ∧ u ≤ v) ∨ ∃ n u w, Z B i n u ∧ Z B o j w ∧ u + F + w ≤ v := by
  induction h with
  | nil => exact .inl ⟨0, .inl ⟨rfl, rfl⟩, Int.le_refl _⟩
  | @cons i m k v q h ih =>
    rcases h' _ q with q | ⟨q1, q2⟩
    · rcases ih with ⟨u, z, hu⟩ | ⟨n, u, w, z, z', hu⟩
      · exact .inl ⟨k + u, (Z.edge q).cat z, by omega⟩
      · exact .inr ⟨n, k + u, w, (Z.edge q).cat z, z', by omega⟩
    · simp only at q1 q2
      subst q1 q2
      rcases ih with ⟨u, z, hu⟩ | ⟨n, u, w, z, z', hu⟩
      · exact .inr ⟨i, 0, u, .inl ⟨rfl, rfl⟩, z, by omega⟩
      · have := hF n u z
        exact .inr ⟨i, 0, w, .inl ⟨rfl, rfl⟩, z', by omega⟩
structure End (ns : List α) (B B' : Br α) (o : α) (X : Int) : Prop where
  ok : Bok ns B
  ok' : Bok ns B'
  four : ns.length ≤ 4
  x0 : 0 ≤ X
  x : ∀ t ∈ B, -X ≤ t.2.2 ∧ t.2.2 ≤ X
  n : ¬ Neg B
  old : ∀ t ∈ B, t ∈ B'
  new : ∀ t ∈ B', t ∈ B ∨ (t.2.1 = o ∧ t.2.2 = 10 * (1 + X))
  all : ∀ m ∈ ns, m ≠ o → (m, o, 10 * (1 + X)) ∈ B'
  o : o ∈ ns
namespace End
variable {ns : List α} {B B' : Br α} {o : α} {X : Int}
theorem lowZ (e : End ns B B' o X) {i j : α} {v : Int} (h : Z B i j v) : -(4 * X) ≤ v := by
  obtain ⟨w, _, h1, h2, _⟩ := short e.n e.x0 e.x (fun t ht => (e.ok t ht).1) e.four h
  omega
theorem far (e : End ns B B' o X) {i j : α} {v : Int} (h : Z B' i j v) : (∃ u, Z B i j u ∧ u ≤ v) ∨ ∃ n u w, Z B i n u ∧ Z B o j w ∧ u + 10 * (1 + X) + w ≤ v :=
  ext e.new (fun n u z => by have := e.lowZ z; have := e.x0; omega) h.toE
theorem n' (e : End ns B B' o X) : ¬ Neg B' := fun ⟨i, v, w, hv⟩ => by
  rcases e.far (.inr w) with ⟨u, z, hu⟩ | ⟨n, u, w, z, z', hu⟩
  · have := z.self e.n
    omega
  · have := e.lowZ z
    have := e.lowZ z'
    have := e.x0
    omega
theorem negD' (e : End ns B B' o X) : negD ns (ltab ns B') = false := neg_false (negD_iff e.ok') e.n'
/-- the entry of x to o -/
theorem entry (e : End ns B B' o X) {x : α} (hx : x ∈ ns) : ∃ v, getT (ltab ns B') (x, o) = some v := by
  by_cases q : x = o
  · rw [q]
    exact ⟨0, ltab_diag0 e.ok' e.negD' e.o⟩
  · obtain ⟨u, h, _⟩ := ltab_bnd e.ok' _ (e.all x hx q)
    exact ⟨u, h⟩
theorem row (e : End ns B B' o X) {y : α → Int} (hy : ∀ x ∈ ns, getT (ltab ns B') (x, o) = some (y x)) : okR B y := fun t ht => by
  obtain ⟨b1, b2, _⟩ := e.ok t ht
  obtain ⟨u, h, hu⟩ := ltab_bnd e.ok' t (e.old t ht)
  obtain ⟨v, h2, hv⟩ := ltab_via e.ok' e.negD' t.2.1 b2 t.1 o u (y t.2.1) (.inl rfl) h (hy _ b2)
  rw [hy _ b1] at h2
  cases h2
  omega
/-- at an entry of B's closure to o it is that entry -/
theorem tight (e : End ns B B' o X) {i : α} {k v : Int} (n : i ≠ o) (hk : getT (ctab ns B) (i, o) = some k) (hv : getT (ltab ns B') (i, o) = some v) : v = k := by
  have w := ctab_snd e.ok i o k n hk
  have c := ctab_cl e.ok (neg_false (negP_iff e.ok) e.n)
  have min : ∀ u, Z B i o u → k ≤ u := fun u z => by
    rcases z with ⟨z, _⟩ | z
    · exact absurd z n
    · obtain ⟨x, h, hx⟩ := (c.walk e.ok.ne z).1 n
      rw [hk] at h
      cases h
      exact hx
  obtain ⟨s, s1, s2, s3, s4⟩ := short e.n e.x0 e.x (fun t ht => (e.ok t ht).1) e.four (.inr w : Z B i o k)
  have hks := min s s1
  refine Int.le_antisymm ?_ ?_
  · obtain ⟨x, h, hx⟩ := ((ltab_cl e.ok' e.negD').walk e.ok'.ne (w.mono fun t ht => .one (e.old t ht))).1 n
    rw [hv] at h
    cases h
    exact hx
  · rcases e.far (.inr (ltab_snd e.ok' i o v n hv)) with ⟨u, z, hu⟩ | ⟨m, u, w, z, z', hu⟩
    · exact Int.le_trans (min u z) hu
    · have h1 := e.lowZ z
      have h2 := z'.self e.n
      have := e.x0
      omega
end End
end ZM

namespace K92
open PySem PySem.Spec PyProof.Rows L2
open ZM (getT putT)

/-! ### tables as dicts -/
abbrev Pk := Str × Str
abbrev Tb := List (Pk × Int)
def encP (p : Pk) : List Key := [Sum.inr p.1, Sum.inr p.2]
def dTb (M : Tb) : List (List Key × V) := M.map fun e => (encP e.1, V.int e.2)
theorem encP_inj {p q : Pk} (h : encP p = encP q) : p = q := by
  obtain ⟨a, b⟩ := p
  obtain ⟨c, d⟩ := q
  simp only [encP, List.cons.injEq, Sum.inr.injEq, and_true] at h
  rw [h.1, h.2]
theorem encP_iff {p q : Pk} : encP p = encP q ↔ p = q := ⟨encP_inj, fun e => by rw [e]⟩
theorem dTb_val (p : Pk) : ∀ M : Tb, valV (dTb M) (encP p) = (getT M p).map V.int
  | [] => rfl
  | e :: M => by
    have ih := dTb_val p M
    unfold dTb at ih ⊢
    rw [List.map_cons, ZM.getT_cons]
    by_cases h : e.1 = p
    · rw [if_pos h, valV_pos (by show encP e.1 = encP p; rw [h])]; rfl
    · rw [if_neg h, valV_neg (fun z => h (encP_inj z)), ih]
theorem dTb_any (p : Pk) (M : Tb) : ((dTb M).any fun kv => decide (kv.1 = encP p)) = (M.any fun e => decide (e.1 = p)) := by
  unfold dTb
  rw [List.any_map]
  congr 1
  funext e
  show decide (encP e.1 = encP p) = decide (e.1 = p)
  rw [decide_eq_decide]
  exact encP_iff
theorem dTb_put (M : Tb) (p : Pk) (v : Int) : putK (dTb M) (encP p) (.int v) = dTb (putT M p v) := by
  unfold putK putT
  rw [dTb_any]
  by_cases h : (M.any fun e => decide (e.1 = p)) = true
  · rw [if_pos h, if_pos h]
    unfold dTb
    rw [List.map_map, List.map_map]
    refine List.map_congr_left fun e _ => ?_
    show (if encP e.1 = encP p then (encP e.1, V.int v) else (encP e.1, V.int e.2)) = (encP (if e.1 = p then (e.1, v) else e).1, V.int (if e.1 = p then (e.1, v) else e).2)
    by_cases q : e.1 = p
    · rw [if_pos q, if_pos (encP_iff.mpr q)]
    · rw [if_neg q, if_neg (fun z => q (encP_inj z))]
  · rw [if_neg h, if_neg h]
    unfold dTb
    rw [List.map_append]
    rfl
theorem dTb_len (M : Tb) : (dTb M).length = M.length := by
  unfold dTb
  rw [List.length_map]
theorem small16 {n : Nat} (h : n ≤ 16) : n < sizeLine := by
  have : (16 : Nat) < sizeLine := by decide
  omega
/-- at most four names: at most sixteen entries -/
theorem inv_len {d : Bool} {ns : List Str} {B : ZM.Br Str} {M : Tb} (I : ZM.Inv d ns B M) (h : ns.length ≤ 4) : M.length ≤ 16 := by
  have e : ∀ p ∈ M.map (·.1), p ∈ ns.flatMap fun i => ns.map fun j => (i, j) := fun p hp => by
    obtain ⟨x, hx, rfl⟩ := List.mem_map.mp hp
    obtain ⟨a, b, _⟩ := I.dom x.1.1 x.1.2 x.2 ((ZM.mem_get I.nod).mp hx)
    exact List.mem_flatMap.mpr ⟨x.1.1, a, List.mem_map.mpr ⟨x.1.2, b, rfl⟩⟩
  have l := ZM.len_sub I.nod e
  rw [List.length_map, List.length_flatMap] at l
  have e2 : (List.map (fun a => (List.map (fun j => (a, j)) ns).length) ns).sum = ns.length * ns.length := by
    have : (fun a : Str => (List.map (fun j => (a, j)) ns).length) = fun _ => ns.length := funext fun a => List.length_map _
    rw [this, List.map_const', List.sum_replicate_nat]
  rw [e2] at l
  have : ns.length * ns.length ≤ 4 * 4 := Nat.mul_le_mul h h
  omega
/-- the table stands at d -/
abbrev TabAt (H : Hp) (d : Addr) (M : Tb) : Prop := H d = some (.dT (dTb M))
theorem get_tab {H : Hp} {d b : Addr} {M : Tb} {p : Pk} (h : TabAt H d M) (hb : H b = some (.tup [.str p.1, .str p.2])) : DGet H d (.ref b) ((getT M p).map V.int) := by
  have := DGet.t (k := encP p) h hb
  rw [dTb_val] at this
  exact this
theorem get_tabF {H : Hp} {d b : Addr} {o : Obj} {M : Tb} {p : Pk} (h : H d = some (.frz o (.dT (dTb M)))) (hb : H b = some (.tup [.str p.1, .str p.2])) : DGet H d (.ref b) ((getT M p).map V.int) := by
  refine .inr ⟨dTb M, encP p, b, .inr ⟨o, h⟩, rfl, hb, ?_⟩
  rw [dTb_val]
theorem put_tab {H : Hp} {d b : Addr} {M : Tb} {p : Pk} {v : Int} (h : TabAt H d M) (hb : H b = some (.tup [.str p.1, .str p.2])) (hl : M.length ≤ 16) : DPut H d (.ref b) (.int v) (upd H d (.dT (dTb (putT M p v)))) := by
  have := DPut.t (k := encP p) (v := .int v) h hb (by rw [dTb_len]; exact small16 hl)
  rw [dTb_put] at this
  exact this

/-! ### bounds -/
def TrAt (H : Hp) (v : V) (t : Tr) : Prop := ∃ p, v = .ref p ∧ H p = some (.tup (trV t))
inductive TrAll (H : Hp) : List V → List Tr → Prop
  | nil : TrAll H [] []
  | cons {v : V} {vs : List V} {t : Tr} {ts : List Tr} : TrAt H v t → TrAll H vs ts → TrAll H (v :: vs) (t :: ts)
theorem TrAll.kp {H H' : Hp} (k : Kp H H') : ∀ {vs : List V} {ts : List Tr}, TrAll H vs ts → TrAll H' vs ts
  | _, _, .nil => .nil
  | _, _, .cons ⟨p, e, h⟩ r => .cons ⟨p, e, k _ _ h⟩ (r.kp k)
theorem TrAll.len {H : Hp} : ∀ {vs : List V} {ts : List Tr}, TrAll H vs ts → vs.length = ts.length
  | _, _, .nil => rfl
  | _, _, .cons _ r => by rw [List.length_cons, List.length_cons, r.len]
theorem TrAll.get {H : Hp} : ∀ {vs : List V} {ts : List Tr} {i : Nat} {v : V}, TrAll H vs ts → vs[i]? = some v → ∃ t, ts[i]? = some t ∧ TrAt H v t
  | _, _, i, v, .nil, e => by simp at e
  | _, _, 0, v, .cons h r, e => by
    simp at e
    subst e
    exact ⟨_, rfl, h⟩
  | _, _, i + 1, v, .cons h r, e => by
    have := r.get (i := i) (v := v) (by simpa using e)
    simpa using this
theorem TrAll.app {H : Hp} : ∀ {vs ws : List V} {ts us : List Tr}, TrAll H vs ts → TrAll H ws us → TrAll H (vs ++ ws) (ts ++ us)
  | _, _, _, _, .nil, h => h
  | _, _, _, _, .cons a r, h => .cons a (r.app h)
theorem TrAll.rev {H : Hp} : ∀ {vs : List V} {ts : List Tr}, TrAll H vs ts → TrAll H vs.reverse ts.reverse
  | _, _, .nil => .nil
  | _, _, .cons a r => by
    rw [List.reverse_cons, List.reverse_cons]
    exact r.rev.app (.cons a .nil)
theorem TrAll.drop {H : Hp} : ∀ {vs : List V} {ts : List Tr} (n : Nat), TrAll H vs ts → TrAll H (vs.drop n) (ts.drop n)
  | _, _, 0, h => h
  | _, _, n + 1, .nil => .nil
  | _, _, n + 1, .cons a r => r.drop n
theorem TrAll.take {H : Hp} : ∀ {vs : List V} {ts : List Tr} (n : Nat), TrAll H vs ts → TrAll H (vs.take n) (ts.take n)
  | _, _, 0, h => .nil
  | _, _, n + 1, .nil => .nil
  | _, _, n + 1, .cons a r => .cons a (r.take n)
/-- the tuple of triples at a -/
def Bds (H : Hp) (a : Addr) (B : List Tr) : Prop := ∃ xs, H a = some (.tup xs) ∧ TrAll H xs B
theorem Bds.kp {H H' : Hp} {a : Addr} {B : List Tr} (h : Bds H a B) (k : Kp H H') : Bds H' a B := by
  obtain ⟨xs, e, r⟩ := h
  exact ⟨xs, k _ _ e, r.kp k⟩
/-- the tuple of names at a (its object is known: for .index) -/
def Cols (H : Hp) (a : Addr) (cs : List Str) : Prop := ∃ o : Obj, H a = some (.frz o (.tup (cs.map V.str))) ∧ o.dict = none
theorem Cols.sq {K : PySem.W.Frag} {H : Hp} {a : Addr} {cs : List Str} (h : Cols H a cs) : SqT K H a (cs.map V.str) := by
  obtain ⟨o, h, _⟩ := h
  exact .inl (.inr ⟨o, h⟩)
theorem Cols.sm {D : List Addr} {H H' : Hp} {a : Addr} {cs : List Str} (h : Cols H a cs) (s : Sm D H H') (n : a ∉ D) : Cols H' a cs := by
  obtain ⟨o, h, e⟩ := h
  exact ⟨o, s _ _ h n, e⟩
end K92

namespace K92
open PySem PySem.Spec PyProof.Rows L2
open ZM (getT putT)

structure Gn (mg : Str → Option Value) : Prop where
  nothing : ∃ t, mg "NOTHING" = some (.str ("" : Str) t)

theorem fold_take {α β : Type} {f : β → α → β} {b : β} {l : List α} {i : Nat} {x : α} (h : l[i]? = some x) : (l.take (i + 1)).foldl f b = f ((l.take i).foldl f b) x := by
  rw [List.take_add_one, h, Option.toList_some, List.foldl_append]
  rfl
theorem str_at {cs : List Str} {i : Nat} {x : V} (h : (cs.map V.str)[i]? = some x) : ∃ z, cs[i]? = some z ∧ x = .str z := by
  rw [List.getElem?_map] at h
  cases e : cs[i]? with
  | none => rw [e] at h; cases h
  | some z =>
    rw [e] at h
    exact ⟨z, rfl, (Option.some.inj h).symm⟩
theorem min_if (k v : Int) : (if v < k then v else k) = min k v := by
  by_cases h : v < k
  · rw [if_pos h]; omega
  · rw [if_neg h]; omega
theorem getD_int (o : Option Int) (k : Int) : ((o.map V.int).getD (.int k)) = .int (o.getD k) := by cases o <;> rfl
/-- while the table is made: what stays, where it stands -/
structure Fr (H : Hp) (nA d : Addr) (ns : List Str) (M : Tb) (H' : Hp) : Prop where
  sm : Sm [] H H'
  nA : H' nA = some (.tup (ns.map V.str))
  tab : TabAt H' d M
  new : H d = none
theorem Fr.add {H H' : Hp} {nA d : Addr} {ns : List Str} {M : Tb} (f : Fr H nA d ns M H') {p : Addr} {o : HO} (hp : H' p = none) : Fr H nA d ns M (upd H' p o) :=
  ⟨f.sm.new hp, by rw [upd_ne (ne_of_none f.nA hp)]; exact f.nA, by show upd H' p o d = _; rw [upd_ne (ne_of_none f.tab hp)]; exact f.tab, f.new⟩
theorem Fr.put {H H' : Hp} {nA d : Addr} {ns : List Str} {M M' : Tb} (f : Fr H nA d ns M H') : Fr H nA d ns M' (upd H' d (.dT (dTb M'))) :=
  ⟨f.sm.own f.new, by rw [upd_ne (ne_of f.nA f.tab (by intro z; cases z))]; exact f.nA, upd_same, f.new⟩
theorem Sm.trans' {H H' : Hp} {d : Addr} (s : Sm [d] H H') (h : H d = none) : Sm [] H H' := fun b o e _ => s b o e fun z => by
  have : b = d := by simpa using z
  rw [this, h] at e
  cases e
abbrev sCt : Stmt := topS 24
theorem scCt : FnScope ["columns", "bounds", "names", "table", "one", "other", "k", "middle"] ["columns", "bounds"] (defScope sCt) := ⟨rfl, rfl, rfl, by decide +kernel, rfl, by decide +kernel, by decide +kernel⟩
section
variable {P : Program} {w : World} {K : PySem.W.Frag} {mg : Str → Option Value} {base : Heap}
def spCt (K : PySem.W.Frag) : Sp := fun vs H Q _ => ∃ (a b : Addr) (cs : List Str) (B : List Tr), vs = [.ref a, .ref b] ∧ SqT K H a (cs.map V.str) ∧ Bds H b B ∧ ZM.Bok (("" : Str) :: cs) B ∧ cs.length ≤ 3 ∧
  (ZM.negP (ZM.ctab (("" : Str) :: cs) B) = true → ∀ H', Sm [] H H' → Q .non H') ∧
  (ZM.negP (ZM.ctab (("" : Str) :: cs) B) = false → ∀ d H', Sm [] H H' → H d = none → TabAt H' d (ZM.ctab (("" : Str) :: cs) B) → Q (.ref d) H')
abbrev Lp (a b nA d : Addr) (y4 y5 y6 y7 : Option V) : L2.St := [some (.ref a), some (.ref b), some (.ref nA), some (.ref d), y4, y5, y6, y7]
theorem min_put {D : Ends} {H H' : Hp} {a b nA d : Addr} {ns : List Str} {M : Tb} {i j : Str} {k : Int} {y7 : Option V} (f : Fr H nA d ns M H') (hl : M.length ≤ 16)
    (q : ∀ H2, Fr H nA d ns (ZM.low M (i, j) k) H2 → D.nx (Lp a b nA d (some (.str i)) (some (.str j)) (some (.int k)) y7) H2) :
    sDPut (tVar 3) (tTup (tCons (tVar 4) (tCons (tVar 5) tNil))) (tCB (fun xs H Q => ∃ i j, xs = [.int i, .int j] ∧ Q (.int (if j < i then j else i)) H) (tCons (tVar 6) (tCons (tDGet2 (tVar 3) (tTup (tCons (tVar 4) (tCons (tVar 5) tNil))) (tVar 6)) tNil))) D
      (Lp a b nA d (some (.str i)) (some (.str j)) (some (.int k)) y7) H' := by
  refine ⟨.int k, rfl, .ref d, rfl, d, rfl, .inr ⟨_, .inl f.tab⟩, .str i, rfl, .str j, rfl, by show 2 ≤ sizeLine; decide, fun p hp => ?_⟩
  have f1 : Fr H nA d ns M (upd H' p (.tup [.str i, .str j])) := f.add hp
  have e1 : (upd H' p (.tup [.str i, .str j])) p = some (.tup [.str i, .str j]) := upd_same
  generalize upd H' p (.tup [.str i, .str j]) = H1 at f1 e1
  refine ⟨.int k, rfl, _, get_tab (p := (i, j)) f1.tab e1, ?_⟩
  rw [getD_int]
  refine ⟨k, _, rfl, ?_⟩
  rw [min_if]
  refine ⟨.ref d, rfl, .str i, rfl, .str j, rfl, by show 2 ≤ sizeLine; decide, fun p2 hp2 => ?_⟩
  have f2 : Fr H nA d ns M (upd H1 p2 (.tup [.str i, .str j])) := f1.add hp2
  have e2 : (upd H1 p2 (.tup [.str i, .str j])) p2 = some (.tup [.str i, .str j]) := upd_same
  generalize upd H1 p2 (.tup [.str i, .str j]) = H2 at f2 e2
  exact ⟨d, _, rfl, put_tab (p := (i, j)) f2.tab e2 hl, q _ f2.put⟩
theorem ok_ct {f : Addr} {fd : FuncData} (F : Fun K "closed_table" "closed_table" sCt f fd) (B : Bn mg) (G : Gn mg) : FnOk P w K mg base CX0 1 f fd ["columns", "bounds"] (spCt K) := by
  refine F.ok scCt (fun vs H Q E h => ?_) (fun cdv A outer s H vs Q E hr h => ?_)
  · obtain ⟨a, b, cs, L, rfl, _⟩ := h
    rfl
  · obtain ⟨a, b, cs, L, rfl, hA, hB, hO, hl, qN, qT⟩ := h
    have nd := scCt.nd
    have hu := hu_of hr
    obtain ⟨tN, eN⟩ := G.nothing
    refine ⟨_, pss_cons (ps_par (i := 2) (j := 3) rfl nd rfl rfl (by decide) rfl rfl (pa_cons (pe_tup (pa_cons (pe_glob (v := .str ("" : Str)) (by rfl) eN ⟨tN, rfl⟩) (StX.pa_star (pv 0) pa_nil))) (pa_cons pe_dnewT pa_nil)) (by rfl))
      (pss_cons (ps_for PassesOwn.never rfl (pi_tup (pv 1)) (pg_tup rfl (pgs_cons (pg_name (i := 4) nd rfl (.inl rfl)) (pgs_cons (pg_name (i := 5) nd rfl (.inl rfl)) (pgs_cons (pg_name (i := 6) nd rfl (.inl rfl)) pgs_nil))))
        (pss_one (ps_dput hu (pv 3) (pe_tup (pa_cons (pv 4) (pa_cons (pv 5) pa_nil))) (pe_callB (call_min2 rfl) (by rfl) B.min boot_min (pa_cons (pv 6) (pa_cons (pe_dget2 hu (pv 3) (pe_tup (pa_cons (pv 4) (pa_cons (pv 5) pa_nil))) (pv 6) ⟨by rfl, by rfl, by rfl, by rfl⟩) pa_nil))) (by rfl))))
      (pss_cons (ps_for PassesOwn.never rfl (pi_tup (pv 2)) (pg_name (i := 7) nd rfl (.inl rfl))
        (pss_one (ps_for PassesOwn.never rfl (pi_tup (pv 2)) (pg_name (i := 4) nd rfl (.inl rfl))
          (pss_one (ps_for PassesOwn.never rfl (pi_tup (pv 2)) (pg_name (i := 5) nd rfl (.inl rfl))
            (pss_one (ps_if (PW.pt (pw_and (pt_cmpR op_ne (pv 4) (pv 5) (nomark _)) (pw_and (pt_cmp (pc_din hu (pe_tup (pa_cons (pv 4) (pa_cons (pv 7) pa_nil))) (pv 3))) (pw_and1 (pt_cmp (pc_din hu (pe_tup (pa_cons (pv 7) (pa_cons (pv 5) pa_nil))) (pv 3)))))))
              (pss_cons (ps_set (i := 6) nd rfl (.inl rfl) (pe_op op_add (pe_dget hu (pv 3) (pe_tup (pa_cons (pv 4) (pa_cons (pv 7) pa_nil))) (fun _ _ => rfl)) (pe_dget hu (pv 3) (pe_tup (pa_cons (pv 7) (pa_cons (pv 5) pa_nil))) (fun _ _ => rfl))))
              (pss_one (ps_dput hu (pv 3) (pe_tup (pa_cons (pv 4) (pa_cons (pv 5) pa_nil))) (pe_callB (call_min2 rfl) (by rfl) B.min boot_min (pa_cons (pv 6) (pa_cons (pe_dget2 hu (pv 3) (pe_tup (pa_cons (pv 4) (pa_cons (pv 5) pa_nil))) (pv 6) ⟨by rfl, by rfl, by rfl, by rfl⟩) pa_nil))) (by rfl)))) pss_nil)))))))
      (pss_cons (ps_lock (ps_for PassesOwn.never rfl (pi_itemsT (pv 3)) (pg_tup rfl (pgs_cons (pg_tup rfl (pgs_cons (pg_name (i := 4) nd rfl (.inl rfl)) (pgs_cons (pg_name (i := 5) nd rfl (.inl rfl)) pgs_nil))) (pgs_cons (pg_name (i := 6) nd rfl (.inl rfl)) pgs_nil)))
        (pss_one (ps_if (PW.pt (pw_and (pt_cmp (pc_din hu (pe_tup (pa_cons (pv 5) (pa_cons (pv 4) pa_nil))) (pv 3))) (pw_and1 (pt_cmpR op_lt (pe_op op_add (pv 6) (pe_dget hu (pv 3) (pe_tup (pa_cons (pv 5) (pa_cons (pv 4) pa_nil))) (fun _ _ => rfl))) pe_int (nomark _)))))
          (pss_one (ps_ret pe_non)) pss_nil))))
      (pss_one (ps_ret (pv 3)))))), ?_⟩
    -- names, table
    refine ⟨.ref a, rfl, a, cs.map V.str, rfl, .inl hA, ?_, fun nA hnA => fun d hd => ⟨_, _, rfl, ?_⟩⟩
    · show (V.str ("" : Str) :: (cs.map V.str ++ [])).length ≤ sizeLine
      rw [List.append_nil, List.length_cons, List.length_map]
      have := small16 (n := cs.length + 1) (by omega)
      omega
    have hns : (V.str ("" : Str) :: (cs.map V.str ++ [])) = ((("" : Str) :: cs).map V.str) := by simp
    rw [hns] at hd ⊢
    have h4 : ((("" : Str) :: cs)).length ≤ 4 := by
      rw [List.length_cons]; omega
    generalize (("" : Str) :: cs) = ns at *
    have s1 : Sm [] H (upd H nA (.tup (ns.map V.str))) := Sm.refl.new hnA
    have n1 : (upd H nA (.tup (ns.map V.str))) nA = some (.tup (ns.map V.str)) := upd_same
    generalize upd H nA (.tup (ns.map V.str)) = H1 at s1 n1 hd
    have f0 : Fr H nA d ns [] (upd H1 d (.dT [])) := ⟨s1.new hd, by rw [upd_ne (ne_of_none n1 hd)]; exact n1, upd_same, s1.free hd (by simp)⟩
    generalize upd H1 d (.dT []) = H2 at f0
    obtain ⟨xs, hb, hxs⟩ := hB
    have hlx := hxs.len
    -- the bounds
    refine ⟨.ref b, rfl, b, rfl, ⟨xs, SqT.of (f0.sm.keep hb)⟩, for_tup (xs := xs) (fun i σ H' => ∃ M y4 y5 y6 y7, σ = Lp a b nA d y4 y5 y6 y7 ∧ Fr H nA d ns M H' ∧ M = (L.take i).foldl ZM.addB [] ∧ ZM.Inv false ns L M) ?_ ?_ ?_ ?_⟩
    · exact ⟨[], none, none, none, none, rfl, f0, rfl, ZM.inv_nil⟩
    · rintro i σ H' _ ⟨M, y4, y5, y6, y7, rfl, f, _⟩
      exact SqT.of (f.sm.keep hb)
    · rintro i x σ H' hx ⟨M, y4, y5, y6, y7, rfl, f, rfl, I⟩
      obtain ⟨t, ht, p, rfl, hp⟩ := hxs.get hx
      refine ⟨p, _, rfl, SqT.of (f.sm.keep hp), rfl, _, _, rfl, _, _, rfl, _, _, rfl, rfl, ?_⟩
      have hm : t ∈ L := List.mem_of_getElem? ht
      obtain ⟨o1, o2, o3⟩ := hO t hm
      refine min_put (i := t.1) (j := t.2.1) (k := t.2.2) f (inv_len I h4) fun H3 f3 => ?_
      refine ⟨_, _, _, _, _, rfl, f3, ?_, I.low (.inl (.one hm)) ⟨o1, o2, .inr o3⟩⟩
      rw [fold_take ht]
      rfl
    rintro σ H' ⟨M, y4, y5, y6, y7, rfl, f, rfl, I⟩
    have hxl : L.take xs.length = L := by rw [hlx, List.take_length]
    rw [hxl] at f I
    generalize hM0 : L.foldl ZM.addB [] = M0 at f I
    -- the middles
    have sq : ∀ {M H'}, Fr H nA d ns M H' → SqT K H' nA (ns.map V.str) := fun f => SqT.of f.nA
    have tl : ns.take (ns.map V.str).length = ns := by rw [List.length_map, List.take_length]
    refine ⟨.ref nA, rfl, nA, rfl, ⟨_, sq f⟩, for_tup (xs := ns.map V.str) (fun i σ H' => ∃ M y4 y5 y6 y7, σ = Lp a b nA d y4 y5 y6 y7 ∧ Fr H nA d ns M H' ∧ M = ZM.fwF false (ns.take i) ns M0 ∧ ZM.Inv false ns L M) ?_ ?_ ?_ ?_⟩
    · exact ⟨M0, y4, y5, y6, y7, rfl, f, rfl, I⟩
    · rintro i σ H' _ ⟨M, y4, y5, y6, y7, rfl, f, _⟩
      exact sq f
    · rintro im x σ H' hx ⟨M1, y4, y5, y6, y7, rfl, f, hM1, I⟩
      obtain ⟨m, hm, rfl⟩ := str_at hx
      refine ⟨.ref nA, rfl, nA, rfl, ⟨_, sq f⟩, for_tup (xs := ns.map V.str) (fun i σ H' => ∃ M y4 y5 y6, σ = Lp a b nA d y4 y5 y6 (some (.str m)) ∧ Fr H nA d ns M H' ∧ M = (ns.take i).foldl (fun M i => ZM.rowF false m i ns M) M1 ∧ ZM.Inv false ns L M) ?_ ?_ ?_ ?_⟩
      · exact ⟨M1, y4, y5, y6, rfl, f, rfl, I⟩
      · rintro i σ H' _ ⟨M, y4, y5, y6, rfl, f, _⟩
        exact sq f
      · rintro ii x σ H' hx ⟨M2, y4, y5, y6, rfl, f, hM2, I⟩
        obtain ⟨i, hi, rfl⟩ := str_at hx
        refine ⟨.ref nA, rfl, nA, rfl, ⟨_, sq f⟩, for_tup (xs := ns.map V.str) (fun n σ H' => ∃ M y5 y6, σ = Lp a b nA d (some (.str i)) y5 y6 (some (.str m)) ∧ Fr H nA d ns M H' ∧ M = (ns.take n).foldl (fun M j => ZM.stp false m i j M) M2 ∧ ZM.Inv false ns L M) ?_ ?_ ?_ ?_⟩
        · exact ⟨M2, y5, y6, rfl, f, rfl, I⟩
        · rintro n σ H' _ ⟨M, y5, y6, rfl, f, _⟩
          exact sq f
        · rintro ij x σ H' hx ⟨M3, y5, y6, rfl, f, hM3, I⟩
          obtain ⟨j, hj, rfl⟩ := str_at hx
          have stepE : (ns.take (ij + 1)).foldl (fun M j => ZM.stp false m i j M) M2 = ZM.stp false m i j M3 := by
            rw [fold_take hj, ← hM3]
          have I2 := I.stp m i j
          have stay : ∀ {σ' H'} (y6 : Option V), σ' = Lp a b nA d (some (.str i)) (some (.str j)) y6 (some (.str m)) → Fr H nA d ns M3 H' → ZM.stp false m i j M3 = M3 → ∃ M y5 y6, σ' = Lp a b nA d (some (.str i)) y5 y6 (some (.str m)) ∧ Fr H nA d ns M H' ∧ M = (ns.take (ij + 1)).foldl (fun M j => ZM.stp false m i j M) M2 ∧ ZM.Inv false ns L M := fun y6 e f es =>
            ⟨M3, _, _, e, f, by rw [stepE, es], I⟩
          -- one != other
          refine ⟨.str i, rfl, .str j, rfl, rfl, _, rfl, ite2 (fun c1 => ?_) (fun c1 => ite2 (fun z => by cases z) fun _ => ?_)⟩
          rotate_left
          · refine stay y6 rfl f ?_
            have : i = j := by simpa using c1
            subst this
            unfold ZM.stp
            rw [if_neg (by simp)]
          have nij : i ≠ j := by simpa using c1
          have stp_eq : ZM.stp false m i j M3 = match getT M3 (i, m), getT M3 (m, j) with | some a, some b => ZM.low M3 (i, j) (a + b) | _, _ => M3 := by
            unfold ZM.stp
            rw [if_pos (by simp [nij])]
            all_goals rfl
          refine ⟨.str i, rfl, .str m, rfl, (by show 2 ≤ sizeLine; decide), fun p1 hp1 => ?_⟩
          have f1 : Fr H nA d ns M3 (upd H' p1 (.tup [.str i, .str m])) := f.add hp1
          have e1 : (upd H' p1 (.tup [.str i, .str m])) p1 = some (.tup [.str i, .str m]) := upd_same
          generalize upd H' p1 (.tup [.str i, .str m]) = H1 at f1 e1
          refine ⟨.ref d, rfl, d, _, rfl, get_tab (p := (i, m)) f1.tab e1, _, rfl, ?_⟩
          cases g1 : getT M3 (i, m) with
          | none =>
            refine ite2 (fun z => by cases z) fun _ => ite2 (fun z => by cases z) fun _ => ?_
            exact stay y6 rfl f1 (by rw [stp_eq, g1])
          | some va =>
            refine ite2 (fun _ => ?_) (fun z => absurd rfl z)
            refine ⟨.str m, rfl, .str j, rfl, (by show 2 ≤ sizeLine; decide), fun p2 hp2 => ?_⟩
            have f2 : Fr H nA d ns M3 (upd H1 p2 (.tup [.str m, .str j])) := f1.add hp2
            have e2 : (upd H1 p2 (.tup [.str m, .str j])) p2 = some (.tup [.str m, .str j]) := upd_same
            generalize upd H1 p2 (.tup [.str m, .str j]) = H2 at f2 e2
            refine ⟨.ref d, rfl, d, _, rfl, get_tab (p := (m, j)) f2.tab e2, _, rfl, ?_⟩
            cases g2 : getT M3 (m, j) with
            | none =>
              refine ite2 (fun z => by cases z) fun _ => ?_
              exact stay y6 rfl f2 (by rw [stp_eq, g1, g2])
            | some vb =>
              refine ite2 (fun _ => ?_) (fun z => absurd rfl z)
              refine ⟨.ref d, rfl, .str i, rfl, .str m, rfl, (by show 2 ≤ sizeLine; decide), fun p3 hp3 => ?_⟩
              have f3 : Fr H nA d ns M3 (upd H2 p3 (.tup [.str i, .str m])) := f2.add hp3
              have e3 : (upd H2 p3 (.tup [.str i, .str m])) p3 = some (.tup [.str i, .str m]) := upd_same
              generalize upd H2 p3 (.tup [.str i, .str m]) = H3 at f3 e3
              have d3 := get_tab (p := (i, m)) f3.tab e3
              rw [g1] at d3
              refine ⟨d, _, rfl, d3, .ref d, rfl, .str m, rfl, .str j, rfl, (by show 2 ≤ sizeLine; decide), fun p4 hp4 => ?_⟩
              have f4 : Fr H nA d ns M3 (upd H3 p4 (.tup [.str m, .str j])) := f3.add hp4
              have e4 : (upd H3 p4 (.tup [.str m, .str j])) p4 = some (.tup [.str m, .str j]) := upd_same
              generalize upd H3 p4 (.tup [.str m, .str j]) = H4 at f4 e4
              have d4 := get_tab (p := (m, j)) f4.tab e4
              rw [g2] at d4
              refine ⟨d, _, rfl, d4, va, vb, rfl, rfl, ?_⟩
              refine min_put (i := i) (j := j) (k := va + vb) f4 (inv_len I h4) fun H5 f5 => ?_
              refine ⟨_, _, _, rfl, f5, ?_, ?_⟩
              · rw [stepE, stp_eq, g1, g2]
              · rw [stp_eq, g1, g2] at I2
                exact I2
        · rintro σ H' ⟨M, y5, y6, rfl, f, hM, I⟩
          rw [tl] at hM
          refine ⟨M, _, _, _, rfl, f, ?_, I⟩
          rw [fold_take hi, ← hM2]
          exact hM
      · rintro σ H' ⟨M, y4, y5, y6, rfl, f, hM, I⟩
        rw [tl] at hM
        refine ⟨M, _, _, _, _, rfl, f, ?_, I⟩
        unfold ZM.fwF at hM1 ⊢
        rw [fold_take hm, ← hM1]
        exact hM
    rintro σ H' ⟨M, y4, y5, y6, y7, rfl, f, hM, I⟩
    rw [tl] at hM
    have hT : M = ZM.ctab ns L := by
      rw [hM]
      unfold ZM.ctab
      rw [hM0]
    subst hT
    -- the answer
    have ndT := I.nod
    refine ⟨d, .dT (dTb (ZM.ctab ns L)), f.tab, trivial, fun od => ⟨.ref d, rfl, d, od, _, rfl, upd_same, for_it walk_itemsT (fun i σ H' => ∃ y4 y5 y6 y7, σ = Lp a b nA d y4 y5 y6 y7 ∧ Sm [d] H H' ∧ H' d = some (.frz od (.dT (dTb (ZM.ctab ns L)))) ∧ ∀ e ∈ (ZM.ctab ns L).take i, ∀ v, getT (ZM.ctab ns L) (e.1.2, e.1.1) = some v → ¬ e.2 + v < 0) ?_ ?_ ?_ ?_⟩⟩
    · exact ⟨_, _, _, _, rfl, f.sm.nil.put (by simp), upd_same, fun e he => absurd he (by simp)⟩
    · rintro i σ H' _ ⟨y4, y5, y6, y7, rfl, s2, e, _⟩
      exact e
    · rintro i x σ H3 H4 hi ⟨y4, y5, y6, y7, rfl, s2, e, hno⟩ ⟨T, q, k, v, hkv, rfl, hT, hq, rfl⟩
      obtain ⟨x, hx, hk, hv⟩ : ∃ x, (ZM.ctab ns L)[i]? = some x ∧ k = encP x.1 ∧ v = .int x.2 := by
        unfold dTb at hkv
        rw [List.getElem?_map] at hkv
        cases z : (ZM.ctab ns L)[i]? with
        | none => rw [z] at hkv; cases hkv
        | some x =>
          rw [z] at hkv
          cases hkv
          exact ⟨x, rfl, rfl, rfl⟩
      subst hk hv
      have s3 : Sm [d] H (upd H3 T (.tup [.ref q, .int x.2])) := s2.new hT
      have e3 : (upd H3 T (.tup [.ref q, .int x.2])) d = some (.frz od (.dT (dTb (ZM.ctab ns L)))) := by
        rw [upd_ne (ne_of_none e hT)]; exact e
      have q3 : (upd H3 T (.tup [.ref q, .int x.2])) q = some (.tup [.str x.1.1, .str x.1.2]) := by
        rw [upd_ne (ne_of_none hq hT)]; exact hq
      have t3 : (upd H3 T (.tup [.ref q, .int x.2])) T = some (.tup [.ref q, .int x.2]) := upd_same
      generalize upd H3 T (.tup [.ref q, .int x.2]) = H5 at s3 e3 q3 t3
      refine ⟨T, _, rfl, SqT.of t3, rfl, _, _, rfl, ⟨q, _, rfl, SqT.of q3, rfl, _, _, rfl, _, _, rfl, rfl, _, _, rfl, rfl, ?_⟩⟩
      -- next turn
      have nxt : ∀ {H'}, Sm [d] H H' → H' d = some (.frz od (.dT (dTb (ZM.ctab ns L)))) → (∀ v, getT (ZM.ctab ns L) (x.1.2, x.1.1) = some v → ¬ x.2 + v < 0) → ∃ y4' y5' y6' y7', (Lp a b nA d (some (.str x.1.1)) (some (.str x.1.2)) (some (.int x.2)) y7) = Lp a b nA d y4' y5' y6' y7' ∧ Sm [d] H H' ∧ H' d = some (.frz od (.dT (dTb (ZM.ctab ns L)))) ∧ ∀ e ∈ (ZM.ctab ns L).take (i + 1), ∀ v, getT (ZM.ctab ns L) (e.1.2, e.1.1) = some v → ¬ e.2 + v < 0 := fun s e h => by
        refine ⟨_, _, _, _, rfl, s, e, fun y hy => ?_⟩
        rw [List.take_add_one, hx] at hy
        rcases List.mem_append.mp hy with hy | hy
        · exact hno y hy
        · have : y = x := by simpa using hy
          rw [this]
          exact h
      refine ⟨.str x.1.2, rfl, .str x.1.1, rfl, (by show 2 ≤ sizeLine; decide), fun p1 hp1 => ?_⟩
      have s4 : Sm [d] H (upd H5 p1 (.tup [.str x.1.2, .str x.1.1])) := s3.new hp1
      have d4 : (upd H5 p1 (.tup [.str x.1.2, .str x.1.1])) d = some (.frz od (.dT (dTb (ZM.ctab ns L)))) := by
        rw [upd_ne (ne_of_none e3 hp1)]; exact e3
      have e4 : (upd H5 p1 (.tup [.str x.1.2, .str x.1.1])) p1 = some (.tup [.str x.1.2, .str x.1.1]) := upd_same
      generalize upd H5 p1 (.tup [.str x.1.2, .str x.1.1]) = H6 at s4 d4 e4
      refine ⟨.ref d, rfl, d, _, rfl, get_tabF (p := (x.1.2, x.1.1)) d4 e4, _, rfl, ?_⟩
      cases g : getT (ZM.ctab ns L) (x.1.2, x.1.1) with
      | none =>
        refine ite2 (fun z => by cases z) fun _ => ite2 (fun z => by cases z) fun _ => ?_
        exact nxt s4 d4 fun v hv => by rw [g] at hv; cases hv
      | some vb =>
        refine ite2 (fun _ => ?_) (fun z => absurd rfl z)
        refine ⟨.int x.2, rfl, .ref d, rfl, .str x.1.2, rfl, .str x.1.1, rfl, (by show 2 ≤ sizeLine; decide), fun p2 hp2 => ?_⟩
        have s5 : Sm [d] H (upd H6 p2 (.tup [.str x.1.2, .str x.1.1])) := s4.new hp2
        have d5 : (upd H6 p2 (.tup [.str x.1.2, .str x.1.1])) d = some (.frz od (.dT (dTb (ZM.ctab ns L)))) := by
          rw [upd_ne (ne_of_none d4 hp2)]; exact d4
        have e5 : (upd H6 p2 (.tup [.str x.1.2, .str x.1.1])) p2 = some (.tup [.str x.1.2, .str x.1.1]) := upd_same
        generalize upd H6 p2 (.tup [.str x.1.2, .str x.1.1]) = H7 at s5 d5 e5
        have g5 := get_tabF (p := (x.1.2, x.1.1)) d5 e5
        rw [g] at g5
        refine ⟨d, _, rfl, g5, x.2, vb, rfl, rfl, _, _, rfl, rfl, _, rfl, ite2 (fun hc => ?_) (fun hc => ?_)⟩
        · have hlt : x.2 + vb < 0 := by simpa using hc
          refine ⟨d5, qN ?_ _ ((s5.own f.new).trans' f.new)⟩
          unfold ZM.negP
          rw [List.any_eq_true]
          refine ⟨x, List.mem_of_getElem? hx, ?_⟩
          rw [g]
          exact decide_eq_true hlt
        · refine nxt s5 d5 fun v hv => ?_
          rw [g] at hv
          cases hv
          simpa using hc
    · rintro σ H' ⟨y4, y5, y6, y7, rfl, s2, e, hno⟩
      refine ⟨e, ?_⟩
      refine ⟨.ref d, rfl, ?_⟩
      rw [dTb_len, List.take_length] at hno
      refine qT ?_ d _ ((s2.own f.new).trans' f.new) f.new upd_same
      unfold ZM.negP
      rw [List.any_eq_false]
      intro x hx
      cases g : getT (ZM.ctab ns L) (x.1.2, x.1.1) with
      | none => simp
      | some v =>
        have := hno x hx v g
        simpa using this
end
end K92

namespace K92
open PySem PySem.Spec PyProof.Rows L2
open ZM (getT putT)

/-! ### tuple(sorted(list of triples)) -/
def trOf (H : Hp) (x : V) : Tr := match x with
  | .ref p => match H p with
    | some (.tup [.str a, .str b, .int c]) => (a, b, c)
    | _ => ("", "", 0)
  | _ => ("", "", 0)
theorem trOf_at {H : Hp} {x : V} {t : Tr} (h : TrAt H x t) : trOf H x = t := by
  obtain ⟨p, rfl, e⟩ := h
  unfold trOf
  simp only [e, trV]
theorem TrAll.map {H : Hp} : ∀ {vs : List V} {ts : List Tr}, TrAll H vs ts → vs.map (trOf H) = ts ∧ ∀ x ∈ vs, TrAt H x (trOf H x)
  | _, _, .nil => ⟨rfl, fun x h => absurd h (by simp)⟩
  | _, _, .cons a r => by
    obtain ⟨e, h⟩ := r.map
    refine ⟨by rw [List.map_cons, trOf_at a, e], fun x hx => ?_⟩
    rcases List.mem_cons.mp hx with rfl | hx
    · rw [trOf_at a]; exact a
    · exact h x hx
theorem TrAll.of {H : Hp} : ∀ {vs : List V}, (∀ x ∈ vs, TrAt H x (trOf H x)) → TrAll H vs (vs.map (trOf H))
  | [], _ => .nil
  | v :: vs, h => .cons (h v List.mem_cons_self) (TrAll.of fun x hx => h x (List.mem_cons_of_mem _ hx))
abbrev rTupOf (K : PySem.W.Frag) : List V → Hp → VK → Prop := fun xs H Q => ∃ p ys, xs = [.ref p] ∧ ((SqL K H p ys ∧ ∀ l, H l = none → Q (.ref l) (upd H l (.tup ys))) ∨ (SqT K H p ys ∧ Q (.ref p) H))
theorem un8_of {k : Nat} {A : Around} (r : Room k A) : A.units + 8 < cLine := by have := r.units; omega
theorem Sm.back {H H' : Hp} {d : Addr} {o : HO} (s : Sm [d] H H') (h : H d = some o) (h2 : H' d = some o) : Sm [] H H' := fun b u e _ => by
  by_cases z : b = d
  · subst z
    rw [h] at e
    cases e
    exact h2
  · exact s b u e (by simpa using z)
theorem sortTail {K : PySem.W.Frag} {H : Hp} {D : Addr} {acc : List V} {ts : List Tr} {Q : VK} (hD : H D = some (.lst acc)) (h : TrAll H acc ts) (q : ∀ t H', Sm [] H H' → Bds H' t (sortT ts) → Q (.ref t) H') :
    rSortT K [.ref D] H fun x H' => rTupOf K [x] H' Q := by
  obtain ⟨e, ha⟩ := h.map
  refine ⟨D, acc, trOf H, rfl, SqL.of hD, fun x hx => ?_, fun ys p hp hm hn => ⟨p, ys, rfl, .inl ⟨SqL.of upd_same, fun l hl => ?_⟩⟩⟩
  · obtain ⟨t, e1, e2⟩ := ha x hx
    exact ⟨t, e1, e2⟩
  · have s2 : Sm [] H (upd (upd H p (.lst ys)) l (.tup ys)) := (Sm.refl.new hn).new hl
    have hy : TrAll H ys (ys.map (trOf H)) := TrAll.of fun x hx => ha x (hp.mem_iff.mp hx)
    rw [hm, e] at hy
    exact q l _ s2 ⟨ys, upd_same, hy.kp s2.kp⟩

abbrev sCl : Stmt := topS 25
theorem scCl : FnScope ["columns", "bounds", "table", "one", "other", "k"] ["columns", "bounds"] (defScope sCl) := ⟨rfl, rfl, rfl, by decide +kernel, rfl, by decide +kernel, by decide +kernel⟩
section
variable {P : Program} {w : World} {K : PySem.W.Frag} {mg : Str → Option Value} {base : Heap}
/-- what it gives -/
def closedO (cs : List Str) (B : List Tr) : Option (List Tr) := if ZM.negP (ZM.ctab (("" : Str) :: cs) B) = true then none else some (sortT (ZM.trs (ZM.ctab (("" : Str) :: cs) B)))
/-- None, or the tuple of triples -/
def BdsO (H : Hp) (v : V) (o : Option (List Tr)) : Prop := (o = none ∧ v = .non) ∨ ∃ Z a, o = some Z ∧ v = .ref a ∧ Bds H a Z
theorem BdsO.kp {H H' : Hp} {v : V} {o : Option (List Tr)} (h : BdsO H v o) (k : Kp H H') : BdsO H' v o := by
  rcases h with h | ⟨Z, a, e, e2, h⟩
  · exact .inl h
  · exact .inr ⟨Z, a, e, e2, h.kp k⟩
def spCl (K : PySem.W.Frag) : Sp := fun vs H Q _ => ∃ (a b : Addr) (cs : List Str) (B : List Tr), vs = [.ref a, .ref b] ∧ SqT K H a (cs.map V.str) ∧ Bds H b B ∧ ZM.Bok (("" : Str) :: cs) B ∧ cs.length ≤ 3 ∧
  ∀ v H', Sm [] H H' → BdsO H' v (closedO cs B) → Q v H'
theorem trs_take (M : Tb) (i : Nat) : ZM.trs (M.take i) = (ZM.trs M).take i := by
  unfold ZM.trs
  rw [List.map_take]
theorem dTb_at {M : Tb} {i : Nat} {k : List Key} {v : V} (h : (dTb M)[i]? = some (k, v)) : ∃ x, M[i]? = some x ∧ k = encP x.1 ∧ v = .int x.2 := by
  unfold dTb at h
  rw [List.getElem?_map] at h
  cases z : M[i]? with
  | none => rw [z] at h; cases h
  | some x =>
    rw [z] at h
    cases h
    exact ⟨x, rfl, rfl, rfl⟩
theorem ok_cl {f : Addr} {fd : FuncData} (F : Fun K "closed" "closed" sCl f fd) (B : Bn mg) (cCt : Cal P w K mg base "closed_table" ["columns", "bounds"] 1 (spCt K)) : FnOk P w K mg base CX0 2 f fd ["columns", "bounds"] (spCl K) := by
  refine F.ok scCl (fun vs H Q E h => ?_) (fun cdv A outer s H vs Q E hr h => ?_)
  · obtain ⟨a, b, cs, L, rfl, _⟩ := h
    rfl
  · obtain ⟨a, b, cs, L, rfl, hA, hB, hO, hl, q⟩ := h
    have nd := scCl.nd
    have hu := hu_of hr
    refine ⟨_, pss_cons (ps_set (i := 2) nd rfl (.inl rfl) (pe_own cCt hr (pa_cons (pv 0) (pa_cons (pv 1) pa_nil))))
      (pss_cons (ps_if (pt_cmpR op_isN (pv 2) pe_non (nomark _)) (pss_one (ps_ret pe_non)) pss_nil)
      (pss_one (ps_ret (pe_lock (pe_callTy call_tuple_of (by rfl) B.tuple boot_tuple (pa_cons (pe_callB (cr_sortT (un8_of hr)) (by rfl) B.sorted boot_sorted (pa_cons
        (pe_lc (own := [("one", 3), ("other", 4), ("k", 5)]) (g := gTup K 2 (gCons (gTup K 2 (gCons (gName 3) (gCons (gName 4) gNil))) (gCons (gName 5) gNil))) (tt := tYes) (te := tTup (tCons (tVar 3) (tCons (tVar 4) (tCons (tVar 5) tNil)))) rfl nd (pi_itemsT (pv 2)) (blkOk_by (N := ["columns", "bounds", "table", "one", "other", "k"]) (sc := defScope sCl) (by decide +kernel))
          (fun _ _ _ _ _ => pg_tup rfl (pgs_cons (pg_tup rfl (pgs_cons (pg_name (i := 3) nd rfl (.inl rfl)) (pgs_cons (pg_name (i := 4) nd rfl (.inl rfl)) pgs_nil))) (pgs_cons (pg_name (i := 5) nd rfl (.inl rfl)) pgs_nil)))
          (fun _ _ _ _ _ => pts_nil) (fun _ _ _ _ _ => pe_tup (pa_cons (pv 3) (pa_cons (pv 4) (pa_cons (pv 5) pa_nil))))) pa_nil)) pa_nil)))))), ?_⟩
    refine ⟨.ref a, rfl, .ref b, rfl, a, b, cs, L, rfl, hA, hB, hO, hl, fun hn H' s1 => ?_, fun hn d H1 s1 hd0 hT => ?_⟩
    · refine ⟨.non, rfl, rfl, _, rfl, ite2 (fun _ => ?_) (fun z => absurd rfl z)⟩
      refine q .non H' s1 (.inl ⟨?_, rfl⟩)
      unfold closedO
      rw [if_pos hn]
    · refine ⟨.ref d, rfl, rfl, _, rfl, ite2 (fun z => by simp at z) fun _ => ?_⟩
      have ec : closedO cs L = some (sortT (ZM.trs (ZM.ctab (("" : Str) :: cs) L))) := by
        unfold closedO
        rw [if_neg (by rw [hn]; simp)]
      have I : ZM.Inv false (("" : Str) :: cs) L (ZM.ctab (("" : Str) :: cs) L) := ZM.ctab_inv hO
      have hM16 : (ZM.ctab (("" : Str) :: cs) L).length ≤ 16 := inv_len I (by rw [List.length_cons]; omega)
      generalize ZM.ctab (("" : Str) :: cs) L = M at *
      refine ⟨d, .dT (dTb M), hT, trivial, fun od => ?_⟩
      refine ⟨.ref d, rfl, d, od, _, rfl, upd_same, fun D hD => ?_⟩
      have hDd : d ≠ D := fun e => by rw [← e, upd_same] at hD; cases hD
      have hD1 : H1 D = none := by rw [upd_ne hDd.symm] at hD; exact hD
      refine lc_it walk_itemsT (fun i H' => ∃ acc, H' D = some (.lst acc) ∧ H' d = some (.frz od (.dT (dTb M))) ∧ Sm [d] H1 H' ∧ TrAll H' acc ((ZM.trs M).take i)) ?_ ?_ ?_ ?_
      · refine ⟨[], upd_same, ?_, ?_, .nil⟩
        · rw [upd_ne hDd, upd_same]
        · exact (Sm.refl.put (by simp)).own hD1
      · rintro i H' _ ⟨acc, h1, h2, h3, h4⟩
        exact h2
      · rintro i x H3 H4 hi ⟨acc, h1, h2, h3, h4⟩ ⟨T, q', k, v, hkv, rfl, hTn, hq, rfl⟩
        obtain ⟨x, hx, rfl, rfl⟩ := dTb_at hkv
        have kp : Kp H3 (upd H3 T (.tup [.ref q', .int x.2])) := Kp.refl.new hTn
        have s4 : Sm [d] H1 (upd H3 T (.tup [.ref q', .int x.2])) := h3.new hTn
        have d4 : (upd H3 T (.tup [.ref q', .int x.2])) d = some (.frz od (.dT (dTb M))) := by
          rw [upd_ne (ne_of_none h2 hTn)]; exact h2
        have D4 : (upd H3 T (.tup [.ref q', .int x.2])) D = some (.lst acc) := by
          rw [upd_ne (ne_of_none h1 hTn)]; exact h1
        have t4 : (upd H3 T (.tup [.ref q', .int x.2])) T = some (.tup [.ref q', .int x.2]) := upd_same
        have q4 : (upd H3 T (.tup [.ref q', .int x.2])) q' = some (.tup [.str x.1.1, .str x.1.2]) := kp _ _ hq
        generalize upd H3 T (.tup [.ref q', .int x.2]) = H5 at kp s4 d4 D4 t4 q4
        refine ⟨T, _, rfl, SqT.of t4, rfl, _, _, rfl, q', _, rfl, SqT.of q4, rfl, _, _, rfl, _, _, rfl, rfl, _, _, rfl, rfl, ?_⟩
        refine ⟨rfl, ?_⟩
        refine ⟨_, rfl, _, rfl, _, rfl, (by show 3 ≤ sizeLine; decide), fun p hp => ?_⟩
        have D6 : (upd H5 p (.tup [.str x.1.1, .str x.1.2, .int x.2])) D = some (.lst acc) := by
          rw [upd_ne (ne_of_none D4 hp)]; exact D4
        have hlen : acc.length ≤ 16 := by
          rw [h4.len, List.length_take]
          have : (ZM.trs M).length = M.length := by unfold ZM.trs; rw [List.length_map]
          omega
        refine ⟨acc, D6, small16 hlen, acc ++ [.ref p], upd_same, ?_, ?_, ?_⟩
        · rw [upd_ne hDd, upd_ne (ne_of_none d4 hp)]; exact d4
        · exact (s4.new hp).own hD1
        · have kp2 : Kp H5 (upd H5 p (.tup [.str x.1.1, .str x.1.2, .int x.2])) := Kp.refl.new hp
          have e6 : (upd H5 p (.tup [.str x.1.1, .str x.1.2, .int x.2])) p = some (.tup (trV (x.1.1, x.1.2, x.2))) := upd_same
          generalize upd H5 p (.tup [.str x.1.1, .str x.1.2, .int x.2]) = H6 at D6 kp2 e6
          have kp3 : Kp H6 (upd H6 D (.lst (acc ++ [.ref p]))) := fun b xs e => by
            rw [upd_ne (ne_of e D6 (by intro z; cases z))]
            exact e
          have ht : (ZM.trs M)[i]? = some (x.1.1, x.1.2, x.2) := by
            unfold ZM.trs
            rw [List.getElem?_map, hx]
            rfl
          rw [List.take_add_one, ht]
          exact (h4.kp ((kp.trans kp2).trans kp3)).app (.cons ⟨p, rfl, kp3 _ _ e6⟩ .nil)
      · rintro H' ⟨acc, h1, h2, h3, h4⟩
        have tl : (ZM.trs M).take (dTb M).length = ZM.trs M := by
          rw [dTb_len, List.take_of_length_le]
          unfold ZM.trs
          rw [List.length_map]
          exact Nat.le_refl _
        rw [tl] at h4
        refine sortTail (Q := fun v H' => H' d = some (.frz od (.dT (dTb M))) ∧ Q v (upd H' d (.dT (dTb M)))) h1 h4 fun t H6 s6 hb => ?_
        refine ⟨s6.keep h2, ?_⟩
        have kpd : Kp H6 (upd H6 d (.dT (dTb M))) := fun b xs e => by
          rw [upd_ne (ne_of e (s6.keep h2) (by intro z; cases z))]
          exact e
        refine q (.ref t) _ ?_ (.inr ⟨_, t, ec, rfl, hb.kp kpd⟩)
        exact s1.trans (((h3.trans s6.nil).put (by simp)).back hT upd_same)
end
end K92

namespace K92
open PySem PySem.Spec PyProof.Rows L2
open ZM (getT putT)

/-! ### a row's worths -/
def valF : List Str → List Int → Str → Int
  | c :: cs, v :: r, x => if c = x then v else valF cs r x
  | _, _, _ => 0
def val (cs : List Str) (r : List Int) (x : Str) : Int := if x = "" then 0 else valF cs r x
theorem valF_cons (c : Str) (cs : List Str) (v : Int) (r : List Int) (x : Str) : valF (c :: cs) (v :: r) x = if c = x then v else valF cs r x := by rw [valF]
theorem valF_at : ∀ (cs : List Str) (r : List Int) (x : Str), x ∈ cs → cs.length = r.length → ∃ j : Nat, cs[j]? = some x ∧ (∀ m : Nat, m < j → cs[m]? ≠ some x) ∧ r[j]? = some (valF cs r x)
  | [], r, x, h, _ => absurd h (by simp)
  | c :: cs, [], x, h, e => by simp at e
  | c :: cs, v :: r, x, h, e => by
    by_cases q : c = x
    · refine ⟨0, by rw [q]; rfl, fun m hm => by omega, ?_⟩
      rw [valF_cons, if_pos q]
      rfl
    · have hx : x ∈ cs := by
        rcases List.mem_cons.mp h with z | z
        · exact absurd z.symm q
        · exact z
      obtain ⟨j, h1, h2, h3⟩ := valF_at cs r x hx (by simpa using e)
      refine ⟨j + 1, h1, fun m hm => ?_, ?_⟩
      · cases m with
        | zero => simpa using q
        | succ m => simpa using h2 m (by omega)
      · rw [valF_cons, if_neg q]
        exact h3
theorem merge_no {k : Key} : ∀ (more kvs : List (Key × V)), (∀ p ∈ more, p.1 ≠ k) → valV (mergeK kvs more) k = valV kvs k
  | [], kvs, _ => rfl
  | p :: more, kvs, h => by
    have ih := merge_no more (putK kvs p.1 p.2) fun q hq => h q (List.mem_cons_of_mem _ hq)
    have e : mergeK kvs (p :: more) = mergeK (putK kvs p.1 p.2) more := rfl
    rw [e, ih, valV_put, if_neg (Ne.symm (h p List.mem_cons_self))]
def rowKV (cs : List Str) (r : List Int) : List (Key × V) := (cs.map Sum.inr).zip (r.map V.int)
theorem valF_dict : ∀ (cs : List Str) (r : List Int) (x : Str) (kvs : List (Key × V)), cs.Nodup → x ∈ cs → cs.length = r.length → valV (mergeK kvs (rowKV cs r)) (Sum.inr x) = some (.int (valF cs r x))
  | [], r, x, _, _, h, _ => absurd h (by simp)
  | c :: cs, [], x, _, _, h, e => by simp at e
  | c :: cs, v :: r, x, kvs, hn, h, e => by
    rw [List.nodup_cons] at hn
    have em : mergeK kvs (rowKV (c :: cs) (v :: r)) = mergeK (putK kvs (Sum.inr c) (.int v)) (rowKV cs r) := rfl
    rw [em]
    by_cases q : c = x
    · subst q
      rw [merge_no _ _ fun p hp => ?_, valV_put, if_pos rfl]
      · rw [valF_cons, if_pos rfl]
      · intro z
        obtain ⟨a, b⟩ := p
        have := (List.of_mem_zip hp).1
        obtain ⟨y, hy, e2⟩ := List.mem_map.mp this
        simp only at z
        rw [z] at e2
        cases e2
        exact hn.1 hy
    · have hx : x ∈ cs := by
        rcases List.mem_cons.mp h with z | z
        · exact absurd z.symm q
        · exact z
      rw [valF_dict cs r x _ hn.2 hx (by simpa using e)]
      rw [valF_cons, if_neg q]
/-- the row keeps all these bounds -/
def inB (cs : List Str) (r : List Int) (L : List Tr) : Bool := L.all fun t => decide (val cs r t.1 - val cs r t.2.1 ≤ t.2.2)
theorem inB_iff {cs : List Str} {r : List Int} {L : List Tr} : inB cs r L = true ↔ ZM.okR L (val cs r) := by
  unfold inB ZM.okR
  rw [List.all_eq_true]
  exact ⟨fun h t ht => of_decide_eq_true (h t ht), fun h t ht => decide_eq_true (h t ht)⟩

abbrev sVi : Stmt := topS 26
theorem scVi : FnScope ["worths", "name"] ["worths", "name"] (defScope sVi) := ⟨rfl, rfl, rfl, by decide +kernel, rfl, by decide +kernel, by decide +kernel⟩
abbrev sZn : Stmt := topS 27
theorem scZn : FnScope ["columns", "zone", "values", "worths", "one", "other", "k"] ["columns", "zone", "values"] (defScope sZn) := ⟨rfl, rfl, rfl, by decide +kernel, rfl, by decide +kernel, by decide +kernel⟩
abbrev sVl : Stmt := topS 73
theorem scVl : FnScope ["columns", "values", "one"] ["columns", "values", "one"] (defScope sVl) := ⟨rfl, rfl, rfl, by decide +kernel, rfl, by decide +kernel, by decide +kernel⟩
abbrev sIs : Stmt := topS 74
theorem scIs : FnScope ["columns", "bounds", "values", "one", "other", "k"] ["columns", "bounds", "values"] (defScope sIs) := ⟨rfl, rfl, rfl, by decide +kernel, rfl, by decide +kernel, by decide +kernel⟩
section
variable {P : Program} {w : World} {K : PySem.W.Frag} {mg : Str → Option Value} {base : Heap}
def spVi : Sp := fun vs H Q _ => ∃ (d : Addr) (z : Str) (kvs : List (Key × V)) (v : Int), vs = [.ref d, .str z] ∧ H d = some (.dK kvs) ∧ ((z = "" ∧ v = 0) ∨ (z ≠ "" ∧ valV kvs (Sum.inr z) = some (.int v))) ∧ Q (.int v) H
theorem ok_vi {f : Addr} {fd : FuncData} (F : Fun K "value_in" "value_in" sVi f fd) (G : Gn mg) : FnOk P w K mg base CX0 1 f fd ["worths", "name"] spVi := by
  refine F.ok scVi (fun vs H Q E h => ?_) (fun cdv A outer s H vs Q E hr h => ?_)
  · obtain ⟨d, z, kvs, v, rfl, _⟩ := h
    rfl
  · obtain ⟨d, z, kvs, v, rfl, hd, hv, q⟩ := h
    have hu := hu_of hr
    obtain ⟨tN, eN⟩ := G.nothing
    refine ⟨_, pss_one (ps_ret (pe_ifExp (pt_cmpR op_eq (pv 1) (pe_glob (v := .str ("" : Str)) (by rfl) eN ⟨tN, rfl⟩) (nomark _)) pe_int (pe_dget hu (pv 0) (pv 1) (fun _ _ => rfl)))), ?_⟩
    refine ⟨.str z, rfl, rfl, _, rfl, ?_⟩
    rcases hv with ⟨rfl, rfl⟩ | ⟨n, e⟩
    · exact ite2 (fun _ => q) fun h => absurd rfl h
    · refine ite2 (fun h => absurd (by simpa using h) n) fun _ => ?_
      exact ⟨.ref d, rfl, .str z, rfl, d, .int v, rfl, .inl ⟨kvs, Sum.inr z, .inl hd, rfl, e.symm⟩, q⟩
/-- the row at v: a tuple of ints -/
def RowAt (K : PySem.W.Frag) (H : Hp) (a : Addr) (r : List Int) : Prop := H a = some (.tup (r.map V.int))
def spVl (K : PySem.W.Frag) : Sp := fun vs H Q _ => ∃ (a v : Addr) (cs : List Str) (r : List Int) (z : Str), vs = [.ref a, .ref v, .str z] ∧ Cols H a cs ∧ SqT K H v (r.map V.int) ∧ cs.length = r.length ∧ (z = "" ∨ z ∈ cs) ∧ Q (.int (val cs r z)) H
theorem ok_vl {f : Addr} {fd : FuncData} (F : Fun K "_law_value" "_law_value" sVl f fd) : FnOk P w K mg base CX0 1 f fd ["columns", "values", "one"] (spVl K) := by
  refine F.ok scVl (fun vs H Q E h => ?_) (fun cdv A outer s H vs Q E hr h => ?_)
  · obtain ⟨a, v, cs, r, z, rfl, _⟩ := h
    rfl
  · obtain ⟨a, v, cs, r, z, rfl, hA, hV, hl, hz, q⟩ := h
    refine ⟨_, pss_one (ps_ret (pe_ifExp (pt_cmpR op_eq (pv 2) pe_str (nomark _)) pe_int (pe_ix ix_seq (pv 1) (pe_tix (pv 0) (pa_cons (pv 2) pa_nil)) (fun _ _ => rfl)))), ?_⟩
    refine ⟨.str z, rfl, rfl, _, rfl, ?_⟩
    by_cases e : z = ""
    · subst e
      exact ite2 (fun _ => q) fun h => absurd rfl h
    · have hm : z ∈ cs := by
        rcases hz with h | h
        · exact absurd h e
        · exact h
      refine ite2 (fun h => absurd (by simpa using h) e) fun _ => ?_
      obtain ⟨j, h1, h2, h3⟩ := valF_at cs r z hm hl
      have hA2 := hA
      obtain ⟨o, ea, eo⟩ := hA2
      unfold val at q
      rw [if_neg e] at q
      refine ⟨.ref v, rfl, .ref a, rfl, ⟨a, o, _, rfl, ea, eo⟩, .str z, rfl, a, cs, z, j, rfl, rfl, hA.sq, h1, h2, ?_⟩
      exact .inr (.inl ⟨v, _, j, .int (valF cs r z), rfl, rfl, hV, atI_nat (by rw [List.getElem?_map, h3]; rfl), q⟩)
def spIs (K : PySem.W.Frag) : Sp := fun vs H Q _ => ∃ (a b v : Addr) (cs : List Str) (r : List Int) (L : List Tr), vs = [.ref a, .ref b, .ref v] ∧ Cols H a cs ∧ Bds H b L ∧ H v = some (.tup (r.map V.int)) ∧ cs.length = r.length ∧ ZM.Bok (("" : Str) :: cs) L ∧ Q (.bl (inB cs r L)) H
theorem name_or {cs : List Str} {z : Str} (h : z ∈ (("" : Str) :: cs)) : z = "" ∨ z ∈ cs := List.mem_cons.mp h
theorem ok_is {f : Addr} {fd : FuncData} (F : Fun K "_law_is_in" "_law_is_in" sIs f fd) (cVl : Cal P w K mg base "_law_value" ["columns", "values", "one"] 1 (spVl K)) : FnOk P w K mg base CX0 2 f fd ["columns", "bounds", "values"] (spIs K) := by
  refine F.ok scIs (fun vs H Q E h => ?_) (fun cdv A outer s H vs Q E hr h => ?_)
  · obtain ⟨a, b, v, cs, r, L, rfl, _⟩ := h
    rfl
  · obtain ⟨a, b, v, cs, r, L, rfl, hA, hB, hV, hl, hO, q⟩ := h
    have nd := scIs.nd
    refine ⟨_, pss_cons (ps_if (pt_cmpR op_isN (pv 1) pe_non (nomark _)) (pss_one (ps_ret pe_bl)) pss_nil)
      (pss_cons (ps_for PassesOwn.never rfl (pi_tup (pv 1)) (pg_tup rfl (pgs_cons (pg_name (i := 3) nd rfl (.inl rfl)) (pgs_cons (pg_name (i := 4) nd rfl (.inl rfl)) (pgs_cons (pg_name (i := 5) nd rfl (.inl rfl)) pgs_nil))))
        (pss_one (ps_if (pt_cmpR op_gt (pe_op op_sub (pe_own cVl hr (pa_cons (pv 0) (pa_cons (pv 2) (pa_cons (pv 3) pa_nil)))) (pe_own cVl hr (pa_cons (pv 0) (pa_cons (pv 2) (pa_cons (pv 4) pa_nil))))) (pv 5) (nomark _)) (pss_one (ps_ret pe_bl)) pss_nil)))
      (pss_one (ps_ret pe_bl))), ?_⟩
    refine ⟨.ref b, rfl, rfl, _, rfl, ite2 (fun z => by simp at z) fun _ => ?_⟩
    obtain ⟨xs, hb, hxs⟩ := hB
    refine ⟨.ref b, rfl, b, rfl, ⟨xs, SqT.of hb⟩, for_tup (xs := xs) (fun i σ H' => H' = H ∧ (∃ y3 y4 y5, σ = [some (.ref a), some (.ref b), some (.ref v), y3, y4, y5]) ∧ inB cs r (L.take i) = true) ?_ ?_ ?_ ?_⟩
    · exact ⟨rfl, ⟨_, _, _, rfl⟩, rfl⟩
    · rintro i σ H' _ ⟨rfl, _⟩
      exact SqT.of hb
    · rintro i x σ H' hx ⟨rfl, ⟨y3, y4, y5, rfl⟩, hall⟩
      obtain ⟨t, ht, p, rfl, hp⟩ := hxs.get hx
      obtain ⟨o1, o2, o3⟩ := hO t (List.mem_of_getElem? ht)
      refine ⟨p, _, rfl, SqT.of hp, rfl, _, _, rfl, _, _, rfl, _, _, rfl, rfl, ?_⟩
      refine ⟨.ref a, rfl, .ref v, rfl, _, rfl, a, v, cs, r, t.1, rfl, hA, SqT.of hV, hl, name_or o1, ?_⟩
      refine ⟨.ref a, rfl, .ref v, rfl, _, rfl, a, v, cs, r, t.2.1, rfl, hA, SqT.of hV, hl, name_or o2, ?_⟩
      refine ⟨_, _, rfl, rfl, _, rfl, _, _, rfl, rfl, _, rfl, ite2 (fun hc => ?_) (fun hc => ?_)⟩
      · have : inB cs r L = false := by
          unfold inB
          rw [List.all_eq_false]
          refine ⟨t, List.mem_of_getElem? ht, ?_⟩
          have := of_decide_eq_true hc
          simp only [decide_eq_true_eq]
          omega
        rw [this] at q
        exact q
      · refine ⟨rfl, ⟨_, _, _, rfl⟩, ?_⟩
        unfold inB at hall ⊢
        rw [List.take_add_one, ht, Option.toList_some, List.all_append, hall]
        simp only [decide_eq_true_eq] at hc
        simp
        omega
    · rintro σ H' ⟨rfl, _, hall⟩
      rw [hxs.len, List.take_length] at hall
      rw [hall] at q
      exact q
end
end K92

namespace K92
open PySem PySem.Spec PyProof.Rows L2
open ZM (getT putT)
section
variable {P : Program} {w : World} {K : PySem.W.Frag} {mg : Str → Option Value} {base : Heap}
def zoneB (cs : List Str) (r : List Int) : Option (List Tr) → Bool
  | none => false
  | some L => inB cs r L
def zoneOk (cs : List Str) : Option (List Tr) → Prop
  | none => True
  | some L => ZM.Bok (("" : Str) :: cs) L ∧ L.length ≤ 1000
def spZn (K : PySem.W.Frag) : Sp := fun vs H Q _ => ∃ (a : Addr) (z : V) (v : Addr) (cs : List Str) (r : List Int) (o : Option (List Tr)), vs = [.ref a, z, .ref v] ∧ SqT K H a (cs.map V.str) ∧ cs.Nodup ∧ BdsO H z o ∧ H v = some (.tup (r.map V.int)) ∧ cs.length = r.length ∧ zoneOk cs o ∧
  ∀ H', Sm [] H H' → Q (.bl (zoneB cs r o)) H'
theorem ok_zn {f : Addr} {fd : FuncData} (F : Fun K "is_in_zone" "is_in_zone" sZn f fd) (B : Bn mg) (cVi : Cal P w K mg base "value_in" ["worths", "name"] 1 spVi) : FnOk P w K mg base CX0 2 f fd ["columns", "zone", "values"] (spZn K) := by
  refine F.ok scZn (fun vs H Q E h => ?_) (fun cdv A outer s H vs Q E hr h => ?_)
  · obtain ⟨a, z, v, cs, r, o, rfl, _⟩ := h
    rfl
  · obtain ⟨a, z, v, cs, r, o, rfl, hA, hN, hZ, hV, hl, hO, q⟩ := h
    have nd := scZn.nd
    refine ⟨_, pss_cons (ps_if (pt_cmpR op_isN (pv 1) pe_non (nomark _)) (pss_one (ps_ret pe_bl)) pss_nil)
      (pss_cons (ps_set (i := 3) nd rfl (.inr rfl) (ZT.pe_dictZip rfl (by rfl) B.dict (by rfl) B.zip (pa_cons (pv 0) (pa_cons (pv 2) pa_nil))))
      (pss_one (ps_ret (pe_callB (cr_all rfl) (by rfl) B.all boot_all (pa_cons
        (pe_lc (own := [("one", 4), ("other", 5), ("k", 6)]) (g := gTup K 3 (gCons (gName 4) (gCons (gName 5) (gCons (gName 6) gNil)))) (tt := tYes)
          (te := tOp (rI0 fun i j => .bl (decide (i ≤ j))) (tCall spVi [] E0 (tCons (tVar 3) (tCons (tVar 4) tNil))) (tOp (rI0 fun i j => .int (i + j)) (tCall spVi [] E0 (tCons (tVar 3) (tCons (tVar 5) tNil))) (tVar 6))) rfl nd (pi_tup (pv 1)) (blkOk_by (N := ["columns", "zone", "values", "worths", "one", "other", "k"]) (sc := defScope sZn) (by decide +kernel))
          (fun _ _ _ _ _ => pg_tup rfl (pgs_cons (pg_name (i := 4) nd rfl (.inl rfl)) (pgs_cons (pg_name (i := 5) nd rfl (.inl rfl)) (pgs_cons (pg_name (i := 6) nd rfl (.inl rfl)) pgs_nil))))
          (fun _ _ _ _ _ => pts_nil) (fun _ _ _ _ _ => pe_cmpR op_le (pe_own cVi hr (pa_cons (pv 3) (pa_cons (pv 4) pa_nil))) (pe_op op_add (pe_own cVi hr (pa_cons (pv 3) (pa_cons (pv 5) pa_nil))) (pv 6)) (by first | exact nomark _ | rfl))) pa_nil))))), ?_⟩
    rcases hZ with ⟨rfl, rfl⟩ | ⟨L, zb, rfl, rfl, hB⟩
    · exact ⟨.non, rfl, rfl, _, rfl, ite2 (fun _ => q H Sm.refl) (fun z => absurd rfl z)⟩
    · refine ⟨.ref zb, rfl, rfl, _, rfl, ite2 (fun z => by simp at z) fun _ => ?_⟩
      obtain ⟨hO, hL⟩ := hO
      have hAk : SqT K H a ((cs.map Sum.inr).map kV) := by
        rw [List.map_map]
        exact hA
      refine ⟨.ref a, rfl, .ref v, rfl, a, v, cs.map Sum.inr, r.map V.int, rfl, hAk, SqT.of hV, by rw [List.length_map, List.length_map]; exact hl, fun d hd => ?_⟩
      have s1 : Sm [] H (upd H d (.dK (mergeK [] (rowKV cs r)))) := Sm.refl.new hd
      have e1 : (upd H d (.dK (mergeK [] (rowKV cs r)))) d = some (.dK (mergeK [] (rowKV cs r))) := upd_same
      show _
      have hB1 := hB.kp s1.kp
      generalize hH1 : upd H d (.dK (mergeK [] (rowKV cs r))) = H1 at s1 e1 hB1
      have hH1' : upd H d (.dK (mergeK [] ((cs.map Sum.inr).zip (r.map V.int)))) = H1 := hH1
      rw [hH1']
      obtain ⟨xs, hb, hxs⟩ := hB1
      refine ⟨.ref zb, rfl, zb, rfl, ⟨xs, SqT.of hb⟩, fun D hD => ?_⟩
      have kpD : ∀ {H' l l'}, H' D = some (.lst l) → Kp H' (upd H' D (.lst l')) := fun {H' l l'} hl b xs e => by
        rw [upd_ne (ne_of e hl (by intro z; cases z))]
        exact e
      refine lc_tup (K := K) (a := zb) (xs := xs) (fun i H' => ∃ bs : List Bool, H' D = some (.lst (bs.map V.bl)) ∧ Sm [] H1 H' ∧ bs.length = i ∧ bs.all id = inB cs r (L.take i)) ?_ ?_ ?_ ?_
      · exact ⟨[], upd_same, Sm.refl.new hD, rfl, rfl⟩
      · rintro i H' _ ⟨bs, h1, h2, h3, h4⟩
        exact SqT.of (h2.keep hb)
      · rintro i x H' hx ⟨bs, h1, h2, h3, h4⟩
        obtain ⟨t, ht, p, rfl, hp⟩ := hxs.get hx
        obtain ⟨o1, o2, o3⟩ := hO t (List.mem_of_getElem? ht)
        refine ⟨p, _, rfl, SqT.of (h2.keep hp), rfl, _, _, rfl, _, _, rfl, _, _, rfl, rfl, rfl, ?_⟩
        have look : ∀ {x : Str}, x ∈ (("" : Str) :: cs) → ((x = "" ∧ val cs r x = 0) ∨ (x ≠ "" ∧ valV (mergeK [] (rowKV cs r)) (Sum.inr x) = some (.int (val cs r x)))) := fun {x} hx => by
          unfold val
          by_cases e : x = ""
          · rw [if_pos e]
            exact .inl ⟨e, rfl⟩
          · rw [if_neg e]
            have : x ∈ cs := by
              rcases name_or hx with z | z
              · exact absurd z e
              · exact z
            exact .inr ⟨e, valF_dict cs r x [] hN this hl⟩
        refine ⟨.ref d, rfl, .str t.1, rfl, d, t.1, _, val cs r t.1, rfl, h2.keep e1, look o1, ?_⟩
        refine ⟨.ref d, rfl, .str t.2.1, rfl, d, t.2.1, _, val cs r t.2.1, rfl, h2.keep e1, look o2, ?_⟩
        refine ⟨_, rfl, _, _, rfl, rfl, _, _, rfl, rfl, ?_⟩
        have il : i < L.length := (List.getElem?_eq_some_iff.mp ht).1
        refine ⟨_, h1, ?_, bs ++ [decide (val cs r t.1 ≤ val cs r t.2.1 + t.2.2)], ?_, ?_, ?_, ?_⟩
        · rw [List.length_map]
          exact small1000 (by omega)
        · rw [upd_same, List.map_append]
          rfl
        · exact h2.own hD
        · rw [List.length_append, h3]
          rfl
        · unfold inB at h4 ⊢
          rw [List.take_add_one, ht, Option.toList_some, List.all_append, List.all_append, h4]
          congr 1
          simp only [List.all_cons, List.all_nil, Bool.and_true, id]
          rw [decide_eq_decide]
          omega
      · rintro H' ⟨bs, h1, h2, h3, h4⟩
        refine ⟨D, bs, rfl, SqL.of h1, ?_⟩
        rw [hxs.len, List.take_length] at h4
        rw [h4]
        exact q H' (s1.trans h2)
end
end K92

namespace K92
open PySem PySem.Spec PyProof.Rows L2
open ZM (getT putT)

/-- the law's own names -/
def nmL (cs : List Str) : List Str := cs ++ [("" : Str)]
theorem nmL_len (cs : List Str) : (nmL cs).length = cs.length + 1 := by
  unfold nmL
  rw [List.length_append]
  rfl
theorem nmL_mem {cs : List Str} {x : Str} : x ∈ nmL cs ↔ x ∈ (("" : Str) :: cs) := by
  unfold nmL
  simp only [List.mem_append, List.mem_cons, List.not_mem_nil, or_false]
  exact Or.comm
theorem sqt_sm {K : PySem.W.Frag} {H H' : Hp} {a : Addr} {xs : List V} (h : SqT K H a xs) (s : Sm [] H H') : SqT K H' a xs := by
  rcases h with (h | ⟨o, h⟩) | h
  · exact .inl (.inl (s.keep h))
  · exact .inl (.inr ⟨o, s.keep h⟩)
  · exact .inr h
/-- the names and the empty name after them, as a term -/
theorem names_rd {K : PySem.W.Frag} {σ : L2.St} {H : Hp} {R : VK} {a : Addr} {cs : List Str} {i : Nat} (h0 : σ[i]? = some (some (.ref a))) (hA : SqT K H a (cs.map V.str)) (hc : cs ≠ []) (hl : cs.length ≤ 3)
    (q : ∀ nA H2, Sm [] H H2 → H nA = none → H2 nA = some (.tup ((nmL cs).map V.str)) → R (.ref nA) H2) : tOp (rCatA K) (tVar i) (tTup (tCons (tC (.str ("" : Str))) tNil)) σ H R := by
  refine ⟨.ref a, h0, (by show 1 ≤ sizeLine; decide), fun p hp => ?_⟩
  have s1 : Sm [] H (upd H p (.tup [.str ("" : Str)])) := Sm.refl.new hp
  have e1 : (upd H p (.tup [.str ("" : Str)])) p = some (.tup [.str ("" : Str)]) := upd_same
  have a1 : SqT K (upd H p (.tup [.str ("" : Str)])) a (cs.map V.str) := sqt_sm hA s1
  generalize upd H p (.tup [.str ("" : Str)]) = H1 at s1 e1 a1
  refine ⟨a, p, _, _, rfl, rfl, a1, SqT.of e1, ?_, fun z => ?_, fun _ z => ?_, fun _ _ nA hn => ?_⟩
  · rw [List.length_map]
    have := small16 (n := cs.length + 1) (by omega)
    show cs.length + 1 ≤ sizeLine
    omega
  · exact absurd (List.map_eq_nil_iff.mp z) hc
  · cases z
  · refine q nA _ (s1.new hn) (s1.free hn (by simp)) ?_
    rw [upd_same]
    unfold nmL
    rw [List.map_append]
    rfl
/-- while the law's table is made -/
structure Fk (H : Hp) (d : Addr) (M : Tb) (H' : Hp) : Prop where
  sm : Sm [] H H'
  tab : TabAt H' d M
  new : H d = none
theorem Fk.more {H H' H2 : Hp} {d : Addr} {M : Tb} (f : Fk H d M H') (s : Sm [] H' H2) : Fk H d M H2 := ⟨f.sm.trans s, s.keep f.tab, f.new⟩
theorem Fk.add {H H' : Hp} {d : Addr} {M : Tb} (f : Fk H d M H') {p : Addr} {o : HO} (hp : H' p = none) : Fk H d M (upd H' p o) := f.more (Sm.refl.new hp)
theorem Fk.put {H H' : Hp} {d : Addr} {M M' : Tb} (f : Fk H d M H') : Fk H d M' (upd H' d (.dT (dTb M'))) := ⟨f.sm.own f.new, upd_same, f.new⟩
abbrev rMin2 : List V → Hp → VK → Prop := fun xs H Q => ∃ i j, xs = [.int i, .int j] ∧ Q (.int (if j < i then j else i)) H
/-- an entry goes down to k, if that is less -/
theorem min_putL {D : Ends} {σ : L2.St} {H H' : Hp} {d : Addr} {M : Tb} {i j : Str} {k : Int} {n1 n2 n3 n4 : Nat} (f : Fk H d M H') (hl : M.length ≤ 16) (h1 : σ[n1]? = some (some (.ref d))) (h2 : σ[n2]? = some (some (.str i))) (h3 : σ[n3]? = some (some (.str j)))
    (h4 : σ[n4]? = some (some (.int k))) (q : ∀ H2, Fk H d (ZM.low M (i, j) k) H2 → (∀ b xs, H' b = some (.tup xs) → H2 b = some (.tup xs)) → D.nx σ H2) :
    sDPut (tVar n1) (tTup (tCons (tVar n2) (tCons (tVar n3) tNil))) (tCB rMin2 (tCons (tVar n4) (tCons (tDGet2 (tVar n1) (tTup (tCons (tVar n2) (tCons (tVar n3) tNil))) (tVar n4)) tNil))) D σ H' := by
  refine ⟨.int k, h4, .ref d, h1, d, rfl, .inr ⟨_, .inl f.tab⟩, .str i, h2, .str j, h3, (by show 2 ≤ sizeLine; decide), fun p hp => ?_⟩
  have f1 : Fk H d M (upd H' p (.tup [.str i, .str j])) := f.add hp
  have e1 : (upd H' p (.tup [.str i, .str j])) p = some (.tup [.str i, .str j]) := upd_same
  have k1 : Kp H' (upd H' p (.tup [.str i, .str j])) := Kp.refl.new hp
  generalize upd H' p (.tup [.str i, .str j]) = H1 at f1 e1 k1
  refine ⟨.int k, h4, _, get_tab (p := (i, j)) f1.tab e1, ?_⟩
  rw [getD_int]
  refine ⟨k, _, rfl, ?_⟩
  rw [min_if]
  refine ⟨.ref d, h1, .str i, h2, .str j, h3, (by show 2 ≤ sizeLine; decide), fun p2 hp2 => ?_⟩
  have f2 : Fk H d M (upd H1 p2 (.tup [.str i, .str j])) := f1.add hp2
  have e2 : (upd H1 p2 (.tup [.str i, .str j])) p2 = some (.tup [.str i, .str j]) := upd_same
  have k2 : Kp H1 (upd H1 p2 (.tup [.str i, .str j])) := Kp.refl.new hp2
  generalize upd H1 p2 (.tup [.str i, .str j]) = H2 at f2 e2 k2
  refine ⟨d, _, rfl, put_tab (p := (i, j)) f2.tab e2 hl, q _ f2.put fun b xs e => ?_⟩
  rw [upd_ne (ne_of (k2 _ _ (k1 _ _ e)) f2.tab (by intro z; cases z))]
  exact k2 _ _ (k1 _ _ e)
/-- known[x, y], there -/
theorem get_rd {σ : L2.St} {H : Hp} {d : Addr} {M : Tb} {i j : Str} {v : Int} {n1 n2 n3 : Nat} {R : VK} (h : TabAt H d M) (h1 : σ[n1]? = some (some (.ref d))) (h2 : σ[n2]? = some (some (.str i))) (h3 : σ[n3]? = some (some (.str j)))
    (g : getT M (i, j) = some v) (q : ∀ p H2, H p = none → H2 = upd H p (.tup [.str i, .str j]) → R (.int v) H2) : tDGet (tVar n1) (tTup (tCons (tVar n2) (tCons (tVar n3) tNil))) σ H R := by
  refine ⟨.ref d, h1, .str i, h2, .str j, h3, (by show 2 ≤ sizeLine; decide), fun p hp => ?_⟩
  have e1 : (upd H p (.tup [.str i, .str j])) p = some (.tup [.str i, .str j]) := upd_same
  have t1 : TabAt (upd H p (.tup [.str i, .str j])) d M := by
    show upd H p (.tup [.str i, .str j]) d = _
    rw [upd_ne (ne_of_none h hp)]
    exact h
  have g2 := get_tab (p := (i, j)) t1 e1
  rw [g] at g2
  exact ⟨d, _, rfl, g2, q p _ hp rfl⟩
/-- (x, y) in known -/
theorem in_rd {σ : L2.St} {H : Hp} {d : Addr} {M : Tb} {i j : Str} {n1 n2 n3 : Nat} {R : VK} (h : TabAt H d M) (h1 : σ[n1]? = some (some (.ref d))) (h2 : σ[n2]? = some (some (.str i))) (h3 : σ[n3]? = some (some (.str j)))
    (q : ∀ p H2, H p = none → H2 = upd H p (.tup [.str i, .str j]) → R (.bl (getT M (i, j)).isSome) H2) : tDIn (tTup (tCons (tVar n2) (tCons (tVar n3) tNil))) (tVar n1) σ H R := by
  refine ⟨.str i, h2, .str j, h3, (by show 2 ≤ sizeLine; decide), fun p hp => ?_⟩
  have e1 : (upd H p (.tup [.str i, .str j])) p = some (.tup [.str i, .str j]) := upd_same
  have t1 : TabAt (upd H p (.tup [.str i, .str j])) d M := by
    show upd H p (.tup [.str i, .str j]) d = _
    rw [upd_ne (ne_of_none h hp)]
    exact h
  have g2 := get_tab (p := (i, j)) t1 e1
  refine ⟨.ref d, h1, d, _, rfl, g2, ?_⟩
  have := q p _ hp rfl
  cases g : getT M (i, j) with
  | none => rw [g] at this; exact this
  | some v => rw [g] at this; exact this
theorem diag_merge : ∀ (ns : List Str) (M : Tb), mergeT (dTb M) (ns.map fun x => (encP (x, x), V.int 0)) = dTb (ns.foldl (fun M x => putT M (x, x) 0) M)
  | [], M => rfl
  | x :: ns, M => by
    have ih := diag_merge ns (putT M (x, x) 0)
    have e : mergeT (dTb M) ((x :: ns).map fun x => (encP (x, x), V.int 0)) = mergeT (putK (dTb M) (encP (x, x)) (.int 0)) (ns.map fun x => (encP (x, x), V.int 0)) := rfl
    rw [e, dTb_put, ih]
    rfl
end K92

namespace K92
open PySem PySem.Spec PyProof.Rows L2
open ZM (getT putT)
abbrev sTo : Stmt := topS 71
abbrev nTo : List Str := ["columns", "bounds", "one", "known", "other", "k", "mid", "way"]
theorem scTo : FnScope ["columns", "bounds", "one", "known", "other", "k", "mid", "way"] ["columns", "bounds"] (defScope sTo) := ⟨rfl, rfl, rfl, by decide +kernel, rfl, by decide +kernel, by decide +kernel⟩
abbrev tNames (K : PySem.W.Frag) (i : Nat) : TE := tOp (rCatA K) (tVar i) (tTup (tCons (tC (.str ("" : Str))) tNil))
theorem if_in {t : TT} {a b : TS} {D : Ends} {σ : L2.St} {H : Hp} (h : t σ H fun c H1 => if c = true then a D σ H1 else b D σ H1) : tIfS t a b D σ H := h
theorem and_in {t u : TT} {σ : L2.St} {H : Hp} {Q : Bool → Hp → Prop} (h : t σ H fun c H1 => if c = true then u σ H1 Q else Q false H1) : tAnd t u σ H Q := h
theorem b_in {t : TE} {σ : L2.St} {H : Hp} {Q : Bool → Hp → Prop} (h : t σ H fun x H1 => ∃ d, x = .bl d ∧ Q d H1) : tB t σ H Q := h
theorem op_in {rd : R2} {t u : TE} {σ : L2.St} {H : Hp} {Q : VK} (h : t σ H fun x H1 => u σ H1 fun y H2 => rd x y H2 Q) : tOp rd t u σ H Q := h
theorem test_in {t : TE} {σ : L2.St} {H : Hp} {Q : Bool → Hp → Prop} (h : t σ H fun x H1 => ∃ k, x = .bl k ∧ Q k H1) : tTest t σ H Q := h
theorem seq_in {t u : TS} {D : Ends} {σ : L2.St} {H : Hp} (h : t { D with nx := fun σ' H' => u D σ' H' } σ H) : tSeq t u D σ H := h
theorem asg_in {te : TE} {g : TG} {D : Ends} {σ : L2.St} {H : Hp} (h : te σ H fun v H1 => g v σ H1 D.nx) : tAsg te g D σ H := h
section
variable {P : Program} {w : World} {K : PySem.W.Frag} {mg : Str → Option Value} {base : Heap}
def spTo (K : PySem.W.Frag) : Sp := fun vs H Q _ => ∃ (a b : Addr) (cs : List Str) (B : List Tr), vs = [.ref a, .ref b] ∧ SqT K H a (cs.map V.str) ∧ Bds H b B ∧ ZM.Bok (nmL cs) B ∧ cs ≠ [] ∧ cs.length ≤ 3 ∧
  (ZM.negD (nmL cs) (ZM.ltab (nmL cs) B) = true → ∀ H', Sm [] H H' → Q .non H') ∧
  (ZM.negD (nmL cs) (ZM.ltab (nmL cs) B) = false → ∀ d H', Sm [] H H' → H d = none → TabAt H' d (ZM.ltab (nmL cs) B) → Q (.ref d) H')
abbrev Lk (a b d : Addr) (y2 y4 y5 y6 y7 : Option V) : L2.St := [some (.ref a), some (.ref b), y2, some (.ref d), y4, y5, y6, y7]
theorem ok_to {f : Addr} {fd : FuncData} (F : Fun K "_law_table_of" "_law_table_of" sTo f fd) (B : Bn mg) : FnOk P w K mg base CX0 1 f fd ["columns", "bounds"] (spTo K) := by
  refine F.ok scTo (fun vs H Q E h => ?_) (fun cdv A outer s H vs Q E hr h => ?_)
  · obtain ⟨a, b, cs, L, rfl, _⟩ := h
    rfl
  · obtain ⟨a, b, cs, L, rfl, hA, hB, hO, hc, hl, qN, qT⟩ := h
    have nd := scTo.nd
    have hu := hu_of hr
    refine ⟨_, pss_cons (ps_if (pt_cmpR op_isN (pv 1) pe_non (nomark _)) (pss_one (ps_ret pe_non)) pss_nil)
      (pss_cons (ps_set (i := 3) nd rfl (.inr rfl) (pe_callTy (call_dictT rfl (un8_of hr)) (by rfl) B.dict boot_dict (pa_cons
        (pe_lc (own := [("one", 2)]) (g := gName 2) (tt := tYes) (te := tTup (tCons (tTup (tCons (tVar 2) (tCons (tVar 2) tNil))) (tCons (tC (.int 0)) tNil))) rfl nd (pi_tup (pe_op op_catA (pv 0) (pe_tup (pa_cons pe_str pa_nil)))) (blkOk_by (N := nTo) (sc := defScope sTo) (by decide +kernel))
          (fun _ _ _ _ _ => pg_name (i := 2) nd rfl (.inl rfl)) (fun _ _ _ _ _ => pts_nil) (fun _ _ _ _ _ => pe_tup (pa_cons (pe_tup (pa_cons (pv 2) (pa_cons (pv 2) pa_nil))) (pa_cons pe_int pa_nil)))) pa_nil)))
      (pss_cons (ps_for PassesOwn.never rfl (pi_tup (pv 1)) (pg_tup rfl (pgs_cons (pg_name (i := 2) nd rfl (.inl rfl)) (pgs_cons (pg_name (i := 4) nd rfl (.inl rfl)) (pgs_cons (pg_name (i := 5) nd rfl (.inl rfl)) pgs_nil))))
        (pss_one (ps_dput hu (pv 3) (pe_tup (pa_cons (pv 2) (pa_cons (pv 4) pa_nil))) (pe_callB (call_min2 rfl) (by rfl) B.min boot_min (pa_cons (pv 5) (pa_cons (pe_dget2 hu (pv 3) (pe_tup (pa_cons (pv 2) (pa_cons (pv 4) pa_nil))) (pv 5) ⟨by rfl, by rfl, by rfl, by rfl⟩) pa_nil))) (by rfl))))
      (pss_cons (ps_for PassesOwn.never rfl (pi_tup (pe_op op_catA (pv 0) (pe_tup (pa_cons pe_str pa_nil)))) (pg_name (i := 6) nd rfl (.inl rfl))
        (pss_one (ps_for PassesOwn.never rfl (pi_tup (pe_op op_catA (pv 0) (pe_tup (pa_cons pe_str pa_nil)))) (pg_name (i := 2) nd rfl (.inl rfl))
          (pss_one (ps_for PassesOwn.never rfl (pi_tup (pe_op op_catA (pv 0) (pe_tup (pa_cons pe_str pa_nil)))) (pg_name (i := 4) nd rfl (.inl rfl))
            (pss_one (ps_if (PW.pt (pw_and (pt_cmp (pc_din hu (pe_tup (pa_cons (pv 2) (pa_cons (pv 6) pa_nil))) (pv 3))) (pw_and1 (pt_cmp (pc_din hu (pe_tup (pa_cons (pv 6) (pa_cons (pv 4) pa_nil))) (pv 3))))))
              (pss_cons (ps_set (i := 7) nd rfl (.inl rfl) (pe_op op_add (pe_dget hu (pv 3) (pe_tup (pa_cons (pv 2) (pa_cons (pv 6) pa_nil))) (fun _ _ => rfl)) (pe_dget hu (pv 3) (pe_tup (pa_cons (pv 6) (pa_cons (pv 4) pa_nil))) (fun _ _ => rfl))))
              (pss_one (ps_dput hu (pv 3) (pe_tup (pa_cons (pv 2) (pa_cons (pv 4) pa_nil))) (pe_callB (call_min2 rfl) (by rfl) B.min boot_min (pa_cons (pv 7) (pa_cons (pe_dget2 hu (pv 3) (pe_tup (pa_cons (pv 2) (pa_cons (pv 4) pa_nil))) (pv 7) ⟨by rfl, by rfl, by rfl, by rfl⟩) pa_nil))) (by rfl)))) pss_nil)))))))
      (pss_one (ps_ret (pe_ifExp (pt_cmpR (op_neD hr.units) (pe_lc (own := [("one", 2)]) (g := gName 2) (tt := tTest (tOp (rI0 fun i j => .bl (decide (i < j))) (tDGet (tVar 3) (tTup (tCons (tVar 2) (tCons (tVar 2) tNil)))) (tC (.int 0)))) (te := tC (.int 1)) rfl nd
            (pi_tup (pe_op op_catA (pv 0) (pe_tup (pa_cons pe_str pa_nil)))) (blkOk_by (N := nTo) (sc := defScope sTo) (by decide +kernel))
          (fun _ _ _ _ _ => pg_name (i := 2) nd rfl (.inl rfl)) (fun _ _ _ _ _ => pts_one (pt_cmpR op_lt (pe_dget hu (pv 3) (pe_tup (pa_cons (pv 2) (pa_cons (pv 2) pa_nil))) (fun _ _ => rfl)) pe_int (nomark _))) (fun _ _ _ _ _ => pe_int)) (pe_lst pa_nil) (nomark _)) pe_non (pv 3))))))), ?_⟩
    refine ⟨.ref b, rfl, rfl, _, rfl, ite2 (fun z => by simp at z) fun _ => ?_⟩
    have h4 : (nmL cs).length ≤ 4 := by rw [nmL_len]; omega
    refine names_rd rfl hA hc hl fun nA H1 s1 hn0 n1 => ⟨nA, rfl, ⟨_, SqT.of n1⟩, fun D hD => ?_⟩
    refine lc_tup (K := K) (a := nA) (xs := (nmL cs).map V.str) (fun i H' => ∃ L' : List Pr, H' D = some (.lst (L'.map fun q => V.ref q.t)) ∧ Sm [] H1 H' ∧ (∀ q ∈ L', q.ok H') ∧ L'.map (fun q => (q.key, q.v)) = ((nmL cs).take i).map (fun x => (encP (x, x), V.int 0))) ?_ ?_ ?_ ?_
    · exact ⟨[], upd_same, Sm.refl.new hD, fun q h => absurd h (by simp), rfl⟩
    · rintro i H' _ ⟨L', h1, h2, h3, h4⟩
      exact SqT.of (h2.keep n1)
    · rintro i x H' hx ⟨L', h1, h2, h3, h5⟩
      obtain ⟨z, hz, rfl⟩ := str_at hx
      refine ⟨rfl, ?_⟩
      refine ⟨.str z, rfl, .str z, rfl, (by show 2 ≤ sizeLine; decide), fun p1 hp1 => ?_⟩
      refine ⟨(by show 2 ≤ sizeLine; decide), fun p2 hp2 => ?_⟩
      have s2 : Sm [] H' (upd (upd H' p1 (.tup [.str z, .str z])) p2 (.tup [.ref p1, .int 0])) := (Sm.refl.new hp1).new hp2
      have e1 : (upd (upd H' p1 (.tup [.str z, .str z])) p2 (.tup [.ref p1, .int 0])) p1 = some (.tup [.str z, .str z]) := by
        rw [upd_ne (ne_of_none upd_same hp2)]
        exact upd_same
      have e2 : (upd (upd H' p1 (.tup [.str z, .str z])) p2 (.tup [.ref p1, .int 0])) p2 = some (.tup [.ref p1, .int 0]) := upd_same
      show ∃ acc, (upd (upd H' p1 (.tup [.str z, .str z])) p2 (.tup [.ref p1, .int 0])) D = some (.lst acc) ∧ _
      generalize upd (upd H' p1 (.tup [.str z, .str z])) p2 (.tup [.ref p1, .int 0]) = H2 at s2 e1 e2
      have kp : Kp H2 (upd H2 D (.lst (L'.map (fun q => V.ref q.t) ++ [.ref p2]))) := fun b xs e => by
        rw [upd_ne (ne_of e (s2.keep h1) (by intro z; cases z))]
        exact e
      have il : i < (nmL cs).length := (List.getElem?_eq_some_iff.mp hz).1
      have hlen : L'.length = i := by
        have := congrArg List.length h5
        rw [List.length_map, List.length_map, List.length_take] at this
        omega
      refine ⟨_, s2.keep h1, by rw [List.length_map]; exact small16 (by omega), L' ++ [⟨p2, p1, encP (z, z), .int 0⟩], ?_, ?_, ?_, ?_⟩
      · rw [upd_same, List.map_append]
        rfl
      · exact (h2.trans s2).own hD
      · intro q hq
        rcases List.mem_append.mp hq with hq | hq
        · obtain ⟨a1, a2⟩ := h3 q hq
          exact ⟨kp _ _ (s2.keep a1), kp _ _ (s2.keep a2)⟩
        · rw [List.mem_singleton] at hq
          subst hq
          exact ⟨kp _ _ e2, kp _ _ e1⟩
      · rw [List.take_add_one, hz, List.map_append, h5, List.map_append]
        rfl
    rintro H2 ⟨L', h1, h2, h3, h5⟩
    refine ⟨D, L', rfl, SqL.of h1, h3, fun d hd => ?_⟩
    rw [List.length_map, List.take_length] at h5
    rw [h5, show ([] : List (List Key × V)) = dTb [] from rfl, diag_merge]
    have f0 : Fk H d (ZM.diag (nmL cs)) (upd H2 d (.dT (dTb (ZM.diag (nmL cs))))) := ⟨(s1.trans h2).new hd, upd_same, (s1.trans h2).free hd (by simp)⟩
    show tSeq _ _ _ _ (upd H2 d (.dT (dTb (ZM.diag (nmL cs)))))
    generalize upd H2 d (.dT (dTb (ZM.diag (nmL cs)))) = H3 at f0
    clear h1 h2 h3 h5 s1 n1 hD hd
    obtain ⟨xs, hb, hxs⟩ := hB
    have hlx := hxs.len
    generalize hns : nmL cs = ns at *
    -- the bounds
    refine ⟨.ref b, rfl, b, rfl, ⟨xs, SqT.of (f0.sm.keep hb)⟩, for_tup (xs := xs) (fun i σ H' => ∃ M y2 y4 y5 y6 y7, σ = Lk a b d y2 y4 y5 y6 y7 ∧ Fk H d M H' ∧ M = (L.take i).foldl ZM.addB (ZM.diag ns) ∧ ZM.Inv true ns L M) ?_ ?_ ?_ ?_⟩
    · exact ⟨_, none, none, none, none, none, rfl, f0, rfl, ZM.diag_inv⟩
    · rintro i σ H' _ ⟨M, y2, y4, y5, y6, y7, rfl, f, _⟩
      exact SqT.of (f.sm.keep hb)
    · rintro i x σ H' hx ⟨M, y2, y4, y5, y6, y7, rfl, f, rfl, I⟩
      obtain ⟨t, ht, p, rfl, hp⟩ := hxs.get hx
      refine ⟨p, _, rfl, SqT.of (f.sm.keep hp), rfl, _, _, rfl, _, _, rfl, _, _, rfl, rfl, ?_⟩
      have hm : t ∈ L := List.mem_of_getElem? ht
      obtain ⟨o1, o2, o3⟩ := hO t hm
      refine min_putL (i := t.1) (j := t.2.1) (k := t.2.2) f (inv_len I h4) rfl rfl rfl rfl fun H3 f3 _ => ?_
      refine ⟨_, _, _, _, _, _, rfl, f3, ?_, I.low (.inl (.one hm)) ⟨o1, o2, .inr o3⟩⟩
      rw [fold_take ht]
      rfl
    rintro σ H4 ⟨M, y2, y4, y5, y6, y7, rfl, f, rfl, I⟩
    have hxl : L.take xs.length = L := by rw [hlx, List.take_length]
    rw [hxl] at f I
    generalize hM0 : L.foldl ZM.addB (ZM.diag ns) = M0 at f I
    have tl : ns.take (ns.map V.str).length = ns := by rw [List.length_map, List.take_length]
    have hAs : ∀ {M H'}, Fk H d M H' → SqT K H' a (cs.map V.str) := fun f => sqt_sm hA f.sm
    -- the middles
    refine names_rd rfl (hAs f) hc hl fun nA H5 s5 _ n5 => ⟨nA, rfl, ⟨_, SqT.of n5⟩, ?_⟩
    rw [hns] at n5
    refine for_tup (xs := ns.map V.str) (fun i σ H' => ∃ M y2 y4 y5 y6 y7, σ = Lk a b d y2 y4 y5 y6 y7 ∧ Fk H d M H' ∧ Kp H5 H' ∧ M = ZM.fwF true (ns.take i) ns M0 ∧ ZM.Inv true ns L M) ?_ ?_ ?_ ?_
    · exact ⟨M0, y2, y4, y5, y6, y7, rfl, f.more s5, Kp.refl, rfl, I⟩
    · rintro i σ H' _ ⟨M, y2, y4, y5, y6, y7, rfl, f, kp, _⟩
      exact SqT.of (kp _ _ n5)
    · rintro im x σ H6 hx ⟨M1, y2, y4, y5, y6, y7, rfl, f, kp, hM1, I⟩
      obtain ⟨m, hm, rfl⟩ := str_at hx
      refine names_rd rfl (hAs f) hc hl fun nB H7 s7 _ n7 => ⟨nB, rfl, ⟨_, SqT.of n7⟩, ?_⟩
      rw [hns] at n7
      refine for_tup (xs := ns.map V.str) (fun i σ H' => ∃ M y2 y4 y7, σ = Lk a b d y2 y4 y5 (some (.str m)) y7 ∧ Fk H d M H' ∧ Kp H7 H' ∧ M = (ns.take i).foldl (fun M i => ZM.rowF true m i ns M) M1 ∧ ZM.Inv true ns L M) ?_ ?_ ?_ ?_
      · exact ⟨M1, y2, y4, y7, rfl, f.more s7, Kp.refl, rfl, I⟩
      · rintro i σ H' _ ⟨M, y2, y4, y7, rfl, f, kp, _⟩
        exact SqT.of (kp _ _ n7)
      · rintro ii x σ H8 hx ⟨M2, y2, y4, y7, rfl, f, kp2, hM2, I⟩
        obtain ⟨i, hi, rfl⟩ := str_at hx
        refine names_rd rfl (hAs f) hc hl fun nC H9 s9 _ n9 => ⟨nC, rfl, ⟨_, SqT.of n9⟩, ?_⟩
        rw [hns] at n9
        refine for_tup (xs := ns.map V.str) (fun n σ H' => ∃ M y4 y7, σ = Lk a b d (some (.str i)) y4 y5 (some (.str m)) y7 ∧ Fk H d M H' ∧ Kp H9 H' ∧ M = (ns.take n).foldl (fun M j => ZM.stp true m i j M) M2 ∧ ZM.Inv true ns L M) ?_ ?_ ?_ ?_
        · exact ⟨M2, y4, y7, rfl, f.more s9, Kp.refl, rfl, I⟩
        · rintro n σ H' _ ⟨M, y4, y7, rfl, f, kp, _⟩
          exact SqT.of (kp _ _ n9)
        · rintro ij x σ H' hx ⟨M3, y4, y7, rfl, f, kp3, hM3, I⟩
          obtain ⟨j, hj, rfl⟩ := str_at hx
          have stepE : (ns.take (ij + 1)).foldl (fun M j => ZM.stp true m i j M) M2 = ZM.stp true m i j M3 := by
            rw [fold_take hj, ← hM3]
          have I2 := I.stp m i j
          have stay : ∀ {σ' H'}, σ' = Lk a b d (some (.str i)) (some (.str j)) y5 (some (.str m)) y7 → Fk H d M3 H' → Kp H9 H' → ZM.stp true m i j M3 = M3 → ∃ M y4 y7, σ' = Lk a b d (some (.str i)) y4 y5 (some (.str m)) y7 ∧ Fk H d M H' ∧ Kp H9 H' ∧ M = (ns.take (ij + 1)).foldl (fun M j => ZM.stp true m i j M) M2 ∧ ZM.Inv true ns L M := fun e f kp es =>
            ⟨M3, _, _, e, f, kp, by rw [stepE, es], I⟩
          have stp_eq : ZM.stp true m i j M3 = match getT M3 (i, m), getT M3 (m, j) with | some a, some b => ZM.low M3 (i, j) (a + b) | _, _ => M3 := by
            unfold ZM.stp
            rw [if_pos (by simp)]
            all_goals rfl
          show tIfS _ _ _ _ (Lk a b d (some (.str i)) (some (.str j)) y5 (some (.str m)) y7) H'
          refine if_in (and_in (b_in ?_))
          refine in_rd (M := M3) (i := i) (j := m) f.tab rfl rfl rfl fun p1 Ha hp1 ea => ⟨_, rfl, ?_⟩
          have f1 : Fk H d M3 Ha := by rw [ea]; exact f.add hp1
          have k1 : Kp H9 Ha := by rw [ea]; exact kp3.new hp1
          cases g1 : getT M3 (i, m) with
          | none =>
            refine ite2 (fun z => by cases z) fun _ => ite2 (fun z => by cases z) fun _ => ?_
            exact stay rfl f1 k1 (by rw [stp_eq, g1])
          | some va =>
            refine ite2 (fun _ => ?_) (fun z => absurd rfl z)
            refine b_in ?_
            refine in_rd (M := M3) (i := m) (j := j) f1.tab rfl rfl rfl fun p2 Hb hp2 eb => ⟨_, rfl, ?_⟩
            have f2 : Fk H d M3 Hb := by rw [eb]; exact f1.add hp2
            have k2 : Kp H9 Hb := by rw [eb]; exact k1.new hp2
            cases g2 : getT M3 (m, j) with
            | none =>
              refine ite2 (fun z => by cases z) fun _ => ?_
              exact stay rfl f2 k2 (by rw [stp_eq, g1, g2])
            | some vb =>
              refine ite2 (fun _ => ?_) (fun z => absurd rfl z)
              refine seq_in (asg_in (op_in ?_))
              refine get_rd (M := M3) (i := i) (j := m) f2.tab rfl rfl rfl g1 fun p3 Hc hp3 ec => ?_
              have f3 : Fk H d M3 Hc := by rw [ec]; exact f2.add hp3
              have k3 : Kp H9 Hc := by rw [ec]; exact k2.new hp3
              refine get_rd (M := M3) (i := m) (j := j) f3.tab rfl rfl rfl g2 fun p4 Hd hp4 ed => ?_
              have f4 : Fk H d M3 Hd := by rw [ed]; exact f3.add hp4
              have k4 : Kp H9 Hd := by rw [ed]; exact k3.new hp4
              refine ⟨va, vb, rfl, rfl, ?_⟩
              show sDPut (tVar 3) (tTup (tCons (tVar 2) (tCons (tVar 4) tNil))) (tCB rMin2 (tCons (tVar 7) (tCons (tDGet2 (tVar 3) (tTup (tCons (tVar 2) (tCons (tVar 4) tNil))) (tVar 7)) tNil))) _ (Lk a b d (some (.str i)) (some (.str j)) y5 (some (.str m)) (some (.int (va + vb)))) Hd
              refine min_putL (i := i) (j := j) (k := va + vb) f4 (inv_len I h4) rfl rfl rfl rfl fun He f5 k5 => ?_
              refine ⟨_, _, _, rfl, f5, fun b xs e => k5 _ _ (k4 _ _ e), ?_, ?_⟩
              · rw [stepE, stp_eq, g1, g2]
              · rw [stp_eq, g1, g2] at I2
                exact I2
        · rintro σ H' ⟨M, y4, y7, rfl, f, k9, hM, I⟩
          rw [tl] at hM
          refine ⟨M, _, _, _, rfl, f, (kp2.trans s9.kp).trans k9, ?_, I⟩
          rw [fold_take hi, ← hM2]
          exact hM
      · rintro σ H' ⟨M, y2, y4, y7, rfl, f, k7, hM, I⟩
        rw [tl] at hM
        refine ⟨M, _, _, _, _, _, rfl, f, (kp.trans s7.kp).trans k7, ?_, I⟩
        unfold ZM.fwF at hM1 ⊢
        rw [fold_take hm, ← hM1]
        exact hM
    rintro σ H6 ⟨M, y2, y4, y5, y6, y7, rfl, f, kp, hM, I⟩
    rw [tl] at hM
    have hT : M = ZM.ltab ns L := by
      rw [hM]
      unfold ZM.ltab
      rw [hM0]
    subst hT
    -- the answer
    refine names_rd rfl (hAs f) hc hl fun nA2 H7 s7 _ n7 => ⟨nA2, rfl, ⟨_, SqT.of n7⟩, fun D hD => ?_⟩
    rw [hns] at n7
    have fT := f.more s7
    refine lc_tup (K := K) (a := nA2) (xs := ns.map V.str) (fun i H' => ∃ ones : List Int, H' D = some (.lst (ones.map V.int)) ∧ Sm [] H7 H' ∧ ones.length ≤ i ∧ (ones = [] ↔ ∀ x ∈ ns.take i, ∀ v, getT (ZM.ltab ns L) (x, x) = some v → ¬ v < 0)) ?_ ?_ ?_ ?_
    · exact ⟨[], upd_same, Sm.refl.new hD, Nat.le_refl _, ⟨fun _ x h => absurd h (by simp), fun _ => rfl⟩⟩
    · rintro i H' _ ⟨ones, h1, h2, h3, h5⟩
      exact SqT.of (h2.keep n7)
    · rintro i x H' hx ⟨ones, h1, h2, h3, h5⟩
      obtain ⟨z, hz, rfl⟩ := str_at hx
      refine ⟨rfl, ?_⟩
      obtain ⟨v, g, _⟩ := ZM.ltab_diag hO (List.mem_of_getElem? hz)
      have il : i < ns.length := (List.getElem?_eq_some_iff.mp hz).1
      have mem1 : ∀ y, y ∈ ns.take (i + 1) ↔ y ∈ ns.take i ∨ y = z := fun y => by
        rw [List.take_add_one, hz]
        simp
      refine test_in (op_in ?_)
      refine get_rd (M := ZM.ltab ns L) (i := z) (j := z) (h2.keep fT.tab) rfl rfl rfl g fun p H8 hp e8 => ?_
      have s8 : Sm [] H' H8 := by rw [e8]; exact Sm.refl.new hp
      refine ⟨v, 0, rfl, rfl, _, rfl, ite2 (fun hlt => ?_) (fun hlt => ?_)⟩
      · have hlt' : v < 0 := of_decide_eq_true hlt
        refine ⟨_, s8.keep h1, by rw [List.length_map]; exact small16 (by omega), ones ++ [1], ?_, ?_, ?_, ?_⟩
        · rw [upd_same, List.map_append]
          rfl
        · exact (h2.trans s8).own hD
        · rw [List.length_append]
          show ones.length + 1 ≤ i + 1
          omega
        · refine ⟨fun h => absurd h (by simp), fun h => ?_⟩
          exact absurd hlt' (h z ((mem1 z).mpr (.inr rfl)) v g)
      · refine ⟨ones, s8.keep h1, h2.trans s8, by omega, ?_⟩
        rw [h5]
        refine ⟨fun h x hx => ?_, fun h x hx => h x ((mem1 x).mpr (.inl hx))⟩
        rcases (mem1 x).mp hx with hx | rfl
        · exact h x hx
        · intro v' e
          rw [g] at e
          cases e
          simpa using hlt
    rintro H8 ⟨ones, h1, h2, h3, h5⟩
    rw [tl] at h5
    refine ⟨Nat.zero_le _, fun p hp => ?_⟩
    have s9 : Sm [] H8 (upd H8 p (.lst [])) := Sm.refl.new hp
    have e9 : (upd H8 p (.lst [])) p = some (.lst []) := upd_same
    show rNeD _ _ _ (upd H8 p (.lst [])) _
    generalize upd H8 p (.lst []) = H9 at s9 e9
    have f9 := (fT.more h2).more s9
    refine ⟨_, _, Dp.lst (SqL.of (s9.keep h1)) (ints_dp ones), Dp.lst (SqL.of e9) .nil, ints_shaped ones, by decide, _, rfl, ?_⟩
    rw [ints_eqv_nil]
    have hneg : ZM.negD ns (ZM.ltab ns L) = !decide (ones = []) := by
      cases e : ZM.negD ns (ZM.ltab ns L) with
      | false =>
        have : ones = [] := h5.mpr fun x hx v g hv => by
          unfold ZM.negD at e
          rw [List.any_eq_false] at e
          have := e x hx
          rw [g] at this
          simp at this
          omega
        rw [this]
        rfl
      | true =>
        have : ones ≠ [] := fun z => by
          unfold ZM.negD at e
          obtain ⟨x, hx, h⟩ := List.any_eq_true.mp e
          cases g : getT (ZM.ltab ns L) (x, x) with
          | none => rw [g] at h; cases h
          | some v =>
            rw [g] at h
            exact h5.mp z x hx v g (of_decide_eq_true h)
        rw [decide_eq_false this]
        rfl
    refine ite2 (fun hb2 => ?_) (fun hb2 => ?_)
    · exact qN (hneg.trans hb2) _ f9.sm
    · refine ⟨.ref d, rfl, ?_⟩
      exact qT (hneg.trans (by simpa using hb2)) d _ f9.sm f9.new f9.tab
end
end K92

namespace K92
open PySem PySem.Spec PyProof.Rows L2
open ZM (getT putT)
abbrev sTi : Stmt := topS 72
theorem scTi : FnScope ["columns", "bounds", "known", "one", "other"] ["columns", "bounds"] (defScope sTi) := ⟨rfl, rfl, rfl, by decide +kernel, rfl, by decide +kernel, by decide +kernel⟩
section
variable {P : Program} {w : World} {K : PySem.W.Frag} {mg : Str → Option Value} {base : Heap}
def tightO (cs : List Str) (B : List Tr) : Option (List Tr) := if ZM.negD (nmL cs) (ZM.ltab (nmL cs) B) = true then none else some (sortT (ZM.trs (ZM.offD (ZM.ltab (nmL cs) B))))
def spTi (K : PySem.W.Frag) : Sp := fun vs H Q _ => ∃ (a b : Addr) (cs : List Str) (B : List Tr), vs = [.ref a, .ref b] ∧ SqT K H a (cs.map V.str) ∧ Bds H b B ∧ ZM.Bok (nmL cs) B ∧ cs ≠ [] ∧ cs.length ≤ 3 ∧
  ∀ v H', Sm [] H H' → BdsO H' v (tightO cs B) → Q v H'
theorem offD_app (M : Tb) (x : Pk × Int) : ZM.trs (ZM.offD (M ++ [x])) = ZM.trs (ZM.offD M) ++ (if x.1.1 = x.1.2 then [] else [(x.1.1, x.1.2, x.2)]) := by
  unfold ZM.offD ZM.trs
  rw [List.filter_append, List.map_append]
  congr 1
  by_cases h : x.1.1 = x.1.2
  · rw [if_pos h, List.filter_cons_of_neg (by rw [decide_eq_true_eq]; exact fun z => z h)]
    rfl
  · rw [if_neg h, List.filter_cons_of_pos (by rw [decide_eq_true_eq]; exact h)]
    rfl
theorem ok_ti {f : Addr} {fd : FuncData} (F : Fun K "_law_tight" "_law_tight" sTi f fd) (B : Bn mg) (cTo : Cal P w K mg base "_law_table_of" ["columns", "bounds"] 1 (spTo K)) : FnOk P w K mg base CX0 2 f fd ["columns", "bounds"] (spTi K) := by
  refine F.ok scTi (fun vs H Q E h => ?_) (fun cdv A outer s H vs Q E hr h => ?_)
  · obtain ⟨a, b, cs, L, rfl, _⟩ := h
    rfl
  · obtain ⟨a, b, cs, L, rfl, hA, hB, hO, hc, hl, q⟩ := h
    have nd := scTi.nd
    have hu := hu_of hr
    refine ⟨_, pss_cons (ps_set (i := 2) nd rfl (.inr rfl) (pe_own cTo hr (pa_cons (pv 0) (pa_cons (pv 1) pa_nil))))
      (pss_cons (ps_if (pt_cmpR op_isN (pv 2) pe_non (nomark _)) (pss_one (ps_ret pe_non)) pss_nil)
      (pss_one (ps_ret (pe_lock (pe_callTy call_tuple_of (by rfl) B.tuple boot_tuple (pa_cons (pe_callB (cr_sortT (un8_of hr)) (by rfl) B.sorted boot_sorted (pa_cons
        (pe_lc (own := [("one", 3), ("other", 4)]) (g := gTup K 2 (gCons (gName 3) (gCons (gName 4) gNil))) (tt := tTest (tOp rNe (tVar 3) (tVar 4)))
          (te := tTup (tCons (tVar 3) (tCons (tVar 4) (tCons (tDGet (tVar 2) (tTup (tCons (tVar 3) (tCons (tVar 4) tNil)))) tNil)))) rfl nd (pi_keys (pv 2)) (blkOk_by (N := ["columns", "bounds", "known", "one", "other"]) (sc := defScope sTi) (by decide +kernel))
          (fun _ _ _ _ _ => pg_tup rfl (pgs_cons (pg_name (i := 3) nd rfl (.inl rfl)) (pgs_cons (pg_name (i := 4) nd rfl (.inl rfl)) pgs_nil)))
          (fun _ _ _ _ _ => pts_one (pt_cmpR op_ne (pv 3) (pv 4) (nomark _))) (fun _ _ _ _ _ => pe_tup (pa_cons (pv 3) (pa_cons (pv 4) (pa_cons (pe_dget hu (pv 2) (pe_tup (pa_cons (pv 3) (pa_cons (pv 4) pa_nil))) (fun _ _ => rfl)) pa_nil))))) pa_nil)) pa_nil)))))), ?_⟩
    refine ⟨.ref a, rfl, .ref b, rfl, a, b, cs, L, rfl, hA, hB, hO, hc, hl, fun hn H' s1 => ?_, fun hn d H1 s1 hd0 hT => ?_⟩
    · refine ⟨.non, rfl, rfl, _, rfl, ite2 (fun _ => ?_) (fun z => absurd rfl z)⟩
      refine q .non H' s1 (.inl ⟨?_, rfl⟩)
      unfold tightO
      rw [if_pos hn]
    · refine ⟨.ref d, rfl, rfl, _, rfl, ite2 (fun z => by simp at z) fun _ => ?_⟩
      have ec : tightO cs L = some (sortT (ZM.trs (ZM.offD (ZM.ltab (nmL cs) L)))) := by
        unfold tightO
        rw [if_neg (by rw [hn]; simp)]
      have I : ZM.Inv true (nmL cs) L (ZM.ltab (nmL cs) L) := ZM.ltab_inv hO
      have hM16 : (ZM.ltab (nmL cs) L).length ≤ 16 := inv_len I (by rw [nmL_len]; omega)
      generalize ZM.ltab (nmL cs) L = M at *
      refine ⟨d, .dT (dTb M), hT, trivial, fun od => ?_⟩
      refine ⟨.ref d, rfl, d, od, rfl, .inr ⟨_, upd_same, fun D hD => ?_⟩⟩
      have hDd : d ≠ D := fun e => by rw [← e, upd_same] at hD; cases hD
      have hD1 : H1 D = none := by rw [upd_ne hDd.symm] at hD; exact hD
      refine lc_it walk_keysT (fun i H' => ∃ acc, H' D = some (.lst acc) ∧ H' d = some (.frz od (.dT (dTb M))) ∧ Sm [d] H1 H' ∧ TrAll H' acc (ZM.trs (ZM.offD (M.take i))) ∧ acc.length ≤ i) ?_ ?_ ?_ ?_
      · refine ⟨[], upd_same, ?_, ?_, .nil, Nat.le_refl _⟩
        · rw [upd_ne hDd, upd_same]
        · exact (Sm.refl.put (by simp)).own hD1
      · rintro i H' _ ⟨acc, h1, h2, h3, h4⟩
        exact h2
      · rintro i x H5 H4 hi ⟨acc, h1, h2, h3, h4, h5⟩ ⟨rfl, k, v, q', hkv, rfl, hq⟩
        obtain ⟨x, hx, rfl, rfl⟩ := dTb_at hkv
        have q4 : H4 q' = some (.tup [.str x.1.1, .str x.1.2]) := hq
        have hi16 : i < 16 := by
          rw [dTb_len] at hi
          omega
        refine ⟨q', _, rfl, SqT.of q4, rfl, _, _, rfl, _, _, rfl, rfl, ?_⟩
        refine ⟨rfl, ?_⟩
        refine ⟨_, rfl, _, rfl, rfl, _, rfl, ite2 (fun hne => ?_) (fun heq => ?_)⟩
        · have hne' : x.1.1 ≠ x.1.2 := by simpa using hne
          refine ⟨_, rfl, _, rfl, .ref d, rfl, .str x.1.1, rfl, .str x.1.2, rfl, (by show 2 ≤ sizeLine; decide), fun p1 hp1 => ?_⟩
          have s5 : Sm [d] H1 (upd H4 p1 (.tup [.str x.1.1, .str x.1.2])) := h3.new hp1
          have d5 : (upd H4 p1 (.tup [.str x.1.1, .str x.1.2])) d = some (.frz od (.dT (dTb M))) := by
            rw [upd_ne (ne_of_none h2 hp1)]; exact h2
          have D5 : (upd H4 p1 (.tup [.str x.1.1, .str x.1.2])) D = some (.lst acc) := by
            rw [upd_ne (ne_of_none h1 hp1)]; exact h1
          have e5 : (upd H4 p1 (.tup [.str x.1.1, .str x.1.2])) p1 = some (.tup [.str x.1.1, .str x.1.2]) := upd_same
          have k5 : Kp H4 (upd H4 p1 (.tup [.str x.1.1, .str x.1.2])) := Kp.refl.new hp1
          generalize upd H4 p1 (.tup [.str x.1.1, .str x.1.2]) = H6 at s5 d5 D5 e5 k5
          have g5 := get_tabF (p := (x.1.1, x.1.2)) d5 e5
          rw [show getT M (x.1.1, x.1.2) = some x.2 from (ZM.mem_get I.nod).mp (List.mem_of_getElem? hx)] at g5
          refine ⟨d, _, rfl, g5, (by show 3 ≤ sizeLine; decide), fun p hp => ?_⟩
          have D6 : (upd H6 p (.tup [.str x.1.1, .str x.1.2, .int x.2])) D = some (.lst acc) := by
            rw [upd_ne (ne_of_none D5 hp)]; exact D5
          refine ⟨acc, D6, small16 (by omega), acc ++ [.ref p], upd_same, ?_, ?_, ?_, ?_⟩
          · rw [upd_ne hDd, upd_ne (ne_of_none d5 hp)]; exact d5
          · exact (s5.new hp).own hD1
          · have kp2 : Kp H6 (upd H6 p (.tup [.str x.1.1, .str x.1.2, .int x.2])) := Kp.refl.new hp
            have e6 : (upd H6 p (.tup [.str x.1.1, .str x.1.2, .int x.2])) p = some (.tup (trV (x.1.1, x.1.2, x.2))) := upd_same
            generalize upd H6 p (.tup [.str x.1.1, .str x.1.2, .int x.2]) = H7 at D6 kp2 e6
            have kp3 : Kp H7 (upd H7 D (.lst (acc ++ [.ref p]))) := fun b xs e => by
              rw [upd_ne (ne_of e D6 (by intro z; cases z))]
              exact e
            rw [List.take_add_one, hx, Option.toList_some, offD_app, if_neg hne']
            exact (h4.kp ((k5.trans kp2).trans kp3)).app (.cons ⟨p, rfl, kp3 _ _ e6⟩ .nil)
          · rw [List.length_append]
            show acc.length + 1 ≤ i + 1
            omega
        · have heq' : x.1.1 = x.1.2 := by simpa using heq
          refine ⟨acc, h1, h2, h3, ?_, by omega⟩
          rw [List.take_add_one, hx, Option.toList_some, offD_app, if_pos heq', List.append_nil]
          exact h4
      · rintro H' ⟨acc, h1, h2, h3, h4, _⟩
        rw [dTb_len, List.take_length] at h4
        refine sortTail (Q := fun v H' => H' d = some (.frz od (.dT (dTb M))) ∧ Q v (upd H' d (.dT (dTb M)))) h1 h4 fun t H6 s6 hb => ?_
        refine ⟨s6.keep h2, ?_⟩
        have kpd : Kp H6 (upd H6 d (.dT (dTb M))) := fun b xs e => by
          rw [upd_ne (ne_of e (s6.keep h2) (by intro z; cases z))]
          exact e
        refine q (.ref t) _ ?_ (.inr ⟨_, t, ec, rfl, hb.kp kpd⟩)
        exact s1.trans (((h3.trans s6.nil).put (by simp)).back hT upd_same)
end
end K92

namespace K92
open PySem PySem.Spec PyProof.Rows L2
open ZM (getT putT)
abbrev sLb : Stmt := topS 76
theorem scLb : FnScope ["deck", "columns", "many", "far", "found", "names", "turn", "one", "other", "name"] ["deck", "columns", "many", "far"] (defScope sLb) := ⟨rfl, rfl, rfl, by decide +kernel, rfl, by decide +kernel, by decide +kernel⟩
/-- no deck stands where something else does -/
theorem Deck.out {H : Hp} {d c : Addr} {n : Nat} (D : Deck H d c n) {a : Addr} {o : HO} (h : H a = some o) (n1 : ∀ kvs, o ≠ .dK kvs) (n2 : ∀ xs, o ≠ .lst xs) : a ∉ [d, c] := fun z => by
  obtain ⟨cs, b, e1, e2, _⟩ := D.ex
  rcases List.mem_cons.mp z with rfl | z
  · rw [h] at e1
    cases e1
    exact n1 _ rfl
  · rcases List.mem_cons.mp z with rfl | z
    · rw [h] at e2
      cases e2
      exact n2 _ rfl
    · cases z
theorem Deck.outN {H : Hp} {d c : Addr} {n : Nat} (D : Deck H d c n) {a : Addr} (h : H a = none) : a ∉ [d, c] := fun z => by
  obtain ⟨cs, b, e1, e2, _⟩ := D.ex
  rcases List.mem_cons.mp z with rfl | z
  · rw [h] at e1
    cases e1
  · rcases List.mem_cons.mp z with rfl | z
    · rw [h] at e2
      cases e2
    · cases z
theorem Cols.out {H : Hp} {a : Addr} {cs : List Str} (h : Cols H a cs) {d c : Addr} {n : Nat} (D : Deck H d c n) : a ∉ [d, c] := by
  obtain ⟨o, h, _⟩ := h
  exact D.out h (fun _ z => by cases z) fun _ z => by cases z
/-- the names of a draw of columns -/
structure Nms (cs : List Str) : Prop where
  ne : cs ≠ []
  le : cs.length ≤ 3
  nd : cs.Nodup
  full : ("" : Str) ∉ cs
theorem Nms.other {cs : List Str} (h : Nms cs) (z : Str) : ∃ y ∈ nmL cs, y ≠ z := by
  by_cases e : z = ""
  · obtain ⟨c, r, rfl⟩ := List.exists_cons_of_ne_nil h.ne
    refine ⟨c, nmL_mem.mpr (List.mem_cons_of_mem _ List.mem_cons_self), fun q => h.full ?_⟩
    rw [← e, ← q]
    exact List.mem_cons_self
  · exact ⟨"", nmL_mem.mpr List.mem_cons_self, Ne.symm e⟩
def bigB : Int := 1000000000
section
variable {P : Program} {w : World} {K : PySem.W.Frag} {mg : Str → Option Value} {base : Heap}
def spLb (K : PySem.W.Frag) : Sp := fun vs H Q _ => ∃ (d c a : Addr) (n : Nat) (many far : Int) (cs : List Str), vs = [.ref d, .ref a, .int many, .int far] ∧ Deck H d c n ∧ n + 100 < 2 ^ 40 ∧ Cols H a cs ∧ Nms cs ∧ 0 ≤ many ∧ many ≤ 9 ∧ 3 ≤ far ∧ far ≤ 500000000 ∧
  ∀ (t : Addr) (L : List Tr) (m : Nat) H', Sm [d, c] H H' → Deck H' d c m → m ≤ n + 27 → Bds H' t L → ZM.Bok (nmL cs) L → L.length ≤ 9 → (∀ x ∈ L, -bigB ≤ x.2.2 ∧ x.2.2 ≤ bigB) → Q (.ref t) H'
theorem ok_lb {f : Addr} {fd : FuncData} (F : Fun K "_law_bounds" "_law_bounds" sLb f fd) (B : Bn mg) (cDraw : Cal P w K mg base "_law_draw" ["deck", "ways"] 1 spDraw) (cPick : Cal P w K mg base "_law_pick" ["deck", "some"] 2 spPick) : FnOk P w K mg base CX0 3 f fd ["deck", "columns", "many", "far"] (spLb K) := by
  refine F.ok scLb (fun vs H Q E h => ?_) (fun cdv A outer s H vs Q E hr h => ?_)
  · obtain ⟨d, c, a, n, many, far, cs, rfl, _⟩ := h
    rfl
  · obtain ⟨d, c, a, n, many, far, cs, rfl, hD, hn, hA, hC, m0, m1, f0, f1, q⟩ := h
    have nd := scLb.nd
    refine ⟨_, pss_cons (ps_par (i := 4) (j := 5) rfl nd rfl rfl (by decide) rfl rfl (pa_cons (pe_lst pa_nil) (pa_cons (pe_op op_catA (pv 1) (pe_tup (pa_cons pe_str pa_nil))) pa_nil)) (by rfl))
      (pss_cons (ps_for PassesOwn.never rfl (pi_range1 (by rfl) B.range (pa_cons (pv 2) pa_nil)) (pg_name (i := 6) nd rfl (.inl rfl))
        (pss_cons (ps_set (i := 7) nd rfl (.inr rfl) (pe_own (cPick.mono (by decide)) hr (pa_cons (pv 0) (pa_cons (pv 5) pa_nil))))
        (pss_cons (ps_set (i := 8) nd rfl (.inl rfl) (pe_own (cPick.mono (by decide)) hr (pa_cons (pv 0) (pa_cons
          (pe_lc (own := [("name", 9)]) (g := gName 9) (tt := tTest (tOp rNe (tVar 9) (tVar 7))) (te := tVar 9) rfl nd (pi_tup (pv 5)) (blkOk_by (N := ["deck", "columns", "many", "far", "found", "names", "turn", "one", "other", "name"]) (sc := defScope sLb) (by decide +kernel))
            (fun _ _ _ _ _ => pg_name (i := 9) nd rfl (.inl rfl)) (fun _ _ _ _ _ => pts_one (pt_cmpR op_ne (pv 9) (pv 7) (nomark _))) (fun _ _ _ _ _ => pv 9)) pa_nil))))
        (pss_one (ps_expr (pe_bm PySem.F.plainAttrs_list PySem.F.slot_list_append PySem.F.type_list_append mt_append (pv 4) (pa_cons (pe_tup (pa_cons (pv 7) (pa_cons (pv 8) (pa_cons
          (pe_op op_sub (pe_own (cDraw.mono (by decide)) hr (pa_cons (pv 0) (pa_cons (pe_op op_add (pe_op op_mul pe_int (pv 3)) pe_int) pa_nil))) (pe_op op_fdiv (pv 3) pe_int)) pa_nil)))) pa_nil)))))))
      (pss_one (ps_ret (pe_callTy call_tuple_of (by rfl) B.tuple boot_tuple (pa_cons (pv 4) pa_nil))))), ?_⟩
    refine ⟨Nat.zero_le _, fun Fa hFa => ?_⟩
    have s1 : Sm [] H (upd H Fa (.lst [])) := Sm.refl.new hFa
    have eF1 : (upd H Fa (.lst [])) Fa = some (.lst []) := upd_same
    generalize upd H Fa (.lst []) = H1 at s1 eF1
    refine names_rd rfl (sqt_sm hA.sq s1) hC.ne hC.le fun nA H2 s2 hnA1 n2 => ⟨_, _, rfl, ?_⟩
    have nFnA : Fa ≠ nA := ne_of_none eF1 hnA1
    have hnA : H nA = none := s1.free hnA1 (by simp)
    have s12 := s1.trans s2
    refine ⟨.int many, rfl, many, rfl, by omega, by omega, for_range (fun i σ H' => ∃ (y6 y7 y8 : Option V) (fl : List V) (L : List Tr) (m : Nat), σ = [some (.ref d), some (.ref a), some (.int many), some (.int far), some (.ref Fa), some (.ref nA), y6, y7, y8, none] ∧ Sm [d, c] H H' ∧ Deck H' d c m ∧ m ≤ n + 3 * i ∧ H' Fa = some (.lst fl) ∧ H' nA = some (.tup ((nmL cs).map V.str)) ∧ TrAll H' fl L ∧ L.length = i ∧ ZM.Bok (nmL cs) L ∧ ∀ x ∈ L, -bigB ≤ x.2.2 ∧ x.2.2 ≤ bigB) ?_ ?_ ?_⟩
    · exact ⟨none, none, none, [], [], n, rfl, s12.nil, hD.keep s12, Nat.le_refl _, s2.keep eF1, n2, .nil, rfl, fun x h => absurd h (by simp), fun x h => absurd h (by simp)⟩
    · rintro i σ H' hi ⟨y6, y7, y8, fl, L, m, rfl, s3, D3, hm, eF, eN, hT, hL, hB, hX⟩
      have hi9 : i < 9 := by omega
      refine ⟨.ref d, rfl, .ref nA, rfl, d, c, m, .ref nA, _, rfl, D3, by omega, .inr (.inl ⟨nA, rfl, eN⟩), ?_, ?_, fun j x H4 hx s4 D4 => ?_⟩
      · rw [List.length_map, nmL_len]; omega
      · rw [List.length_map, nmL_len]; have := hC.le; omega
      obtain ⟨z, hz, rfl⟩ := str_at hx
      have hzm : z ∈ nmL cs := List.mem_of_getElem? hz
      have kp4 := s4.kpD D3.nt
      refine ⟨.ref d, rfl, .ref nA, rfl, nA, rfl, ⟨_, SqT.of (kp4 _ _ eN)⟩, fun E' hE => ?_⟩
      have eN4 := kp4 _ _ eN
      refine lc_tup (K := K) (a := nA) (xs := (nmL cs).map V.str) (fun k H' => ∃ l : List Str, H' E' = some (.lst (l.map V.str)) ∧ Sm [] H4 H' ∧ l = ((nmL cs).take k).filter fun y => decide (y ≠ z)) ?_ ?_ ?_ ?_
      · exact ⟨[], upd_same, Sm.refl.new hE, rfl⟩
      · rintro k H' _ ⟨l, h1, h2, h3⟩
        exact SqT.of (h2.keep eN4)
      · rintro k x H' hx ⟨l, h1, h2, h3⟩
        obtain ⟨y, hy, rfl⟩ := str_at hx
        have kl : k < (nmL cs).length := (List.getElem?_eq_some_iff.mp hy).1
        refine ⟨rfl, ?_⟩
        refine ⟨.str y, rfl, .str z, rfl, rfl, _, rfl, ite2 (fun hne => ?_) (fun heq => ?_)⟩
        · have hne' : y ≠ z := by simpa using hne
          refine ⟨.str y, rfl, _, h1, ?_, l ++ [y], ?_, ?_, ?_⟩
          · rw [List.length_map, h3]
            have := List.length_filter_le (fun y => decide (y ≠ z)) ((nmL cs).take k)
            rw [List.length_take, nmL_len] at this
            have := hC.le
            exact small16 (by omega)
          · rw [upd_same, List.map_append]
            rfl
          · exact h2.own hE
          · rw [List.take_add_one, hy, Option.toList_some, List.filter_append, ← h3, List.filter_cons_of_pos (by simpa using hne')]
            rfl
        · have heq' : y = z := by simpa using heq
          refine ⟨l, h1, h2, ?_⟩
          rw [List.take_add_one, hy, Option.toList_some, List.filter_append, ← h3, List.filter_cons_of_neg (by simpa using heq')]
          simp
      rintro H5 ⟨l, h1, h2, h3⟩
      rw [List.length_map, List.take_length] at h3
      have D5 := D4.keep h2
      have lpos : 1 ≤ l.length := by
        obtain ⟨y, hy, hne⟩ := hC.other z
        have : y ∈ l := by
          rw [h3, List.mem_filter]
          exact ⟨hy, decide_eq_true hne⟩
        exact List.length_pos_of_mem this
      have lle : l.length ≤ 4 := by
        rw [h3]
        have := List.length_filter_le (fun y => decide (y ≠ z)) (nmL cs)
        rw [nmL_len] at this
        have := hC.le
        omega
      refine ⟨d, c, m + 1, .ref E', _, rfl, D5, by omega, .inl ⟨E', rfl, h1, D4.outN hE⟩, by rw [List.length_map]; exact lpos, by rw [List.length_map]; omega, fun j2 x H6 hx2 s6 D6 => ?_⟩
      obtain ⟨y, hy, rfl⟩ := str_at hx2
      have hym : y ∈ nmL cs ∧ y ≠ z := by
        have := List.mem_of_getElem? hy
        rw [h3, List.mem_filter] at this
        exact ⟨this.1, of_decide_eq_true this.2⟩
      -- the draw
      refine ⟨.ref Fa, rfl, ?_, .str z, rfl, .str y, rfl, .ref d, rfl, .int far, rfl, 2, far, rfl, rfl, .inl ⟨by decide, by decide⟩, 2 * far, 1, rfl, rfl, d, c, m + 1 + 1, _, rfl, D6, by omega, by omega, by omega, fun r H7 r0 r1 s7 D7 => ?_⟩
      · refine .inl ⟨rfl, ?_⟩
        have nd3 : Fa ∉ [d, c] := hD.outN hFa
        exact ⟨fl, SqL.of ((s6 _ _ (h2.keep (s4 _ _ eF nd3)) nd3))⟩
      have nd3 : Fa ∉ [d, c] := hD.outN hFa
      have eF7 : H7 Fa = some (.lst fl) := s7 _ _ (s6 _ _ (h2.keep (s4 _ _ eF nd3)) nd3) nd3
      have kp7 : Kp H' H7 := ((kp4.trans h2.kp).trans (s6.kpD D5.nt)).trans (s7.kpD D6.nt)
      have s37 : Sm [d, c] H H7 := ((s3.trans s4).trans h2.nil).trans (s6.trans s7)
      refine ⟨.int far, rfl, far, 2, rfl, rfl, ⟨by decide, by decide⟩, r, far / 2, rfl, rfl, (by show 3 ≤ sizeLine; decide), fun p hp => ?_⟩
      have eF8 : (upd H7 p (.tup [.str z, .str y, .int (r - far / 2)])) Fa = some (.lst fl) := by
        rw [upd_ne (ne_of_none eF7 hp)]; exact eF7
      have s8 : Sm [d, c] H (upd H7 p (.tup [.str z, .str y, .int (r - far / 2)])) := s37.new hp
      have D8 : Deck (upd H7 p (.tup [.str z, .str y, .int (r - far / 2)])) d c (m + 1 + 1 + 1) := D7.keep (Sm.refl.new hp)
      have kp8 : Kp H' (upd H7 p (.tup [.str z, .str y, .int (r - far / 2)])) := kp7.new hp
      have e8 : (upd H7 p (.tup [.str z, .str y, .int (r - far / 2)])) p = some (.tup (trV (z, y, r - far / 2))) := upd_same
      generalize upd H7 p (.tup [.str z, .str y, .int (r - far / 2)]) = H8 at eF8 s8 D8 kp8 e8
      refine ⟨Fa, fl, .ref p, rfl, rfl, eF8, ?_, ?_⟩
      · rw [hT.len]
        exact small16 (by omega)
      have kp9 : Kp H8 (upd H8 Fa (.lst (fl ++ [.ref p]))) := fun b xs e => by
        rw [upd_ne (ne_of e eF8 (by intro z; cases z))]
        exact e
      refine ⟨_, _, _, fl ++ [.ref p], L ++ [(z, y, r - far / 2)], m + 1 + 1 + 1, rfl, s8.own hFa, ?_, by omega, upd_same, (kp8.trans kp9) _ _ eN, (hT.kp (kp8.trans kp9)).app (.cons ⟨p, rfl, kp9 _ _ e8⟩ .nil), ?_, ?_, ?_⟩
      · obtain ⟨cells, b, g1, g2, g3⟩ := D8.ex
        refine ⟨cells, b, ?_, ?_, g3⟩
        · rw [upd_ne (fun e => nd3 (by rw [← e]; simp))]; exact g1
        · rw [upd_ne (fun e => nd3 (by rw [← e]; simp))]; exact g2
      · rw [List.length_append, hL]
        rfl
      · intro t ht
        rcases List.mem_append.mp ht with ht | ht
        · exact hB t ht
        · rw [List.mem_singleton] at ht
          subst ht
          exact ⟨hzm, hym.1, Ne.symm hym.2⟩
      · intro t ht
        rcases List.mem_append.mp ht with ht | ht
        · exact hX t ht
        · rw [List.mem_singleton] at ht
          subst ht
          unfold bigB
          show -1000000000 ≤ r - far / 2 ∧ r - far / 2 ≤ 1000000000
          omega
    · rintro σ H' ⟨y6, y7, y8, fl, L, m, rfl, s3, D3, hm, eF, eN, hT, hL, hB, hX⟩
      refine ⟨.ref Fa, rfl, Fa, fl, rfl, .inl ⟨SqL.of eF, fun l hl => ?_⟩⟩
      exact q l L m _ (s3.new hl) (D3.keep (Sm.refl.new hl)) (by omega) ⟨fl, upd_same, hT.kp (Kp.refl.new hl)⟩ hB (by omega) hX
end
end K92

namespace K92
open PySem PySem.Spec PyProof.Rows L2
open ZM (getT putT)
/-! ### kinds -/
abbrev kinds7 : List String := ["NoneType", "bool", "int", "str", "tuple", "list", "dict"]
def kd (T C : String) : Bool := T == C || (T == "bool" && C == "int")
theorem kit7 : ∀ T ∈ kinds7, ∀ C ∈ ["int", "bool", "tuple", "list", "str"], kitB T C = some (kd T C) := by decide +kernel
/-- x is of that kind -/
structure Kn (K : PySem.W.Frag) (H : Hp) (x : V) (T : String) : Prop where
  ty : TyX K H x (.type T)
  m : T ∈ kinds7
section
variable {K : PySem.W.Frag}
abbrev tlV : List V := [.ty "tuple", .ty "list"]
abbrev tlU : List Value := [.type "tuple", .type "list"]
theorem clsTL : Paired ClsV tlV tlU := .cons (.ty _) (.cons (.ty _) .nil)
theorem kitTL {T : String} (m : T ∈ kinds7) : PySem.W.kitAny K (.type T) tlU = some (kd T "tuple" || kd T "list") := by
  have h1 := kit7 T m "tuple" (by decide)
  have h2 := kit7 T m "list" (by decide)
  refine kitAny_cons (kit_ty h1) (fun e => ?_) (fun e => by rw [e]; rfl)
  refine kitAny_cons (b := kd T "list") (kit_ty h2) (fun e2 => ?_) (fun e2 => by rw [e2, Bool.or_true])
  rw [e, e2]
  exact kitAny_nil
end
/-! ### alike -/
def flatV' : V → Bool
  | .non => true | .bl _ => true | .int _ => true | .str _ => true | _ => false
def Alk (H : Hp) : Nat → V → V → Prop
  | 0, x, y => x = y ∧ flatV' x = true
  | n + 1, x, y => (x = y ∧ flatV' x = true) ∨ ∃ a b xs ys, x = .ref a ∧ y = .ref b ∧ ((H a = some (.tup xs) ∧ H b = some (.tup ys)) ∨ (H a = some (.lst xs) ∧ H b = some (.lst ys))) ∧ xs.length = ys.length ∧
    ∀ (i : Nat) x y, xs[i]? = some x → ys[i]? = some y → Alk H n x y
theorem Alk.sm {H H' : Hp} (s : Sm [] H H') : ∀ (n : Nat) (x y : V), Alk H n x y → Alk H' n x y
  | 0, x, y, h => h
  | n + 1, x, y, h => by
    rcases h with h | ⟨a, b, xs, ys, e1, e2, h, hl, hi⟩
    · exact .inl h
    · refine .inr ⟨a, b, xs, ys, e1, e2, ?_, hl, fun i x y hx hy => Alk.sm s n x y (hi i x y hx hy)⟩
      rcases h with ⟨h1, h2⟩ | ⟨h1, h2⟩
      · exact .inl ⟨s.keep h1, s.keep h2⟩
      · exact .inr ⟨s.keep h1, s.keep h2⟩
theorem kn_flat {K : PySem.W.Frag} {H : Hp} {x : V} (h : flatV' x = true) : (x = .non ∧ Kn K H x "NoneType") ∨ (∃ b, x = .bl b ∧ Kn K H x "bool") ∨ (∃ z, x = .str z ∧ Kn K H x "str") ∨ ∃ i, x = .int i ∧ Kn K H x "int" := by
  cases x with
  | non => exact .inl ⟨rfl, TyX.non, by decide⟩
  | bl b => exact .inr (.inl ⟨b, rfl, TyX.bl b, by decide⟩)
  | int i => exact .inr (.inr (.inr ⟨i, rfl, TyX.int i, by decide⟩))
  | str z => exact .inr (.inr (.inl ⟨z, rfl, TyX.str z, by decide⟩))
  | _ => cases h
theorem walk_zipT' {K : PySem.W.Frag} {a b : Addr} {xs ys : List V} {n : Nat} (hn : n = min xs.length ys.length) : Walk (RZ.ItzT K a b) n (fun H => SqT K H a xs ∧ SqT K H b ys) (YPair (fun i => xs[i]?) (fun i => ys[i]?)) := by
  have le1 : n ≤ xs.length := hn ▸ Nat.min_le_left ..
  have le2 : n ≤ ys.length := hn ▸ Nat.min_le_right ..
  constructor
  · rintro i _ hi ⟨qa, qb⟩
    have ex := List.getElem?_eq_getElem (Nat.lt_of_lt_of_le hi le1)
    have ey := List.getElem?_eq_getElem (Nat.lt_of_lt_of_le hi le2)
    exact ⟨_, _, _, _, qa, qb, ex, ey⟩
  · rintro _ ⟨qa, qb⟩
    exact ⟨_, _, qa, qb, by omega⟩
  · rintro i H v H' _ ⟨qa, qb⟩ ⟨T, x, z, h1, h2, h3, h4, h5⟩
    exact ⟨T, x, z, h1, h2, h3, h4 _ qa, h5 _ qb⟩
theorem lc_in {wi : TI} {g : TG} {tt : TT} {te : TE} {vs : List Nat} {σ : L2.St} {H : Hp} {Q : VK} (h : wi σ H fun J H1 => ∀ D, H1 D = none → ∃ W : Nat → Nat → Hp → Prop, (∃ m, W 0 m (upd H1 D (.lst []))) ∧ ∀ i m H, W i m H →
    (J.stop i H ∧ Q (.ref D) H) ∨ (J.go i H ∧ ∃ Nx : Hp → Prop, (∀ H', Nx H' → ∃ m', m' < m ∧ W (i + 1) m' H') ∧ ∀ x H', J.yld i H x H' → g x (wipe σ vs) H' fun σ2 H2 => wipe σ2 vs = wipe σ vs ∧ tt σ2 H2 fun b H3 =>
      if b = true then te σ2 H3 fun y H4 => ∃ acc, H4 D = some (.lst acc) ∧ acc.length < sizeLine ∧ Nx (upd H4 D (.lst (acc ++ [y]))) else Nx H3)) : tLc wi g tt te vs σ H Q := h
theorem zipA_in {K : PySem.W.Frag} {σ : L2.St} {H : Hp} {R : It → Hp → Prop} {n1 n2 : Nat} {a b : Addr} {xs ys : List V} (h1 : σ[n1]? = some (some (.ref a))) (h2 : σ[n2]? = some (some (.ref b)))
    (h : (H a = some (.tup xs) ∧ H b = some (.tup ys)) ∨ (H a = some (.lst xs) ∧ H b = some (.lst ys))) (hl : xs.length = ys.length)
    (q : ∀ J G, Walk J xs.length G (YPair (fun i => xs[i]?) (fun i => ys[i]?)) → (∀ H', Sm [] H H' → G H') → R J H) : RZ.iZipA K (tCons (tVar n1) (tCons (tVar n2) tNil)) σ H R := by
  refine ⟨.ref a, h1, .ref b, h2, a, b, xs, ys, rfl, ?_⟩
  rcases h with ⟨e1, e2⟩ | ⟨e1, e2⟩
  · exact .inr ⟨SqT.of e1, SqT.of e2, q _ _ (walk_zipT' (by omega)) fun H' s => ⟨SqT.of (s.keep e1), SqT.of (s.keep e2)⟩⟩
  · exact .inl ⟨SqL.of e1, SqL.of e2, q _ _ (walk_zip (by omega)) fun H' s => ⟨SqL.of (s.keep e1), SqL.of (s.keep e2)⟩⟩
theorem next_in {D : Ends} {σ : L2.St} {H : Hp} (h : D.nx σ H) : tNext D σ H := h
theorem ret_in {te : TE} {D : Ends} {σ : L2.St} {H : Hp} (h : te σ H D.rt) : tRet te D σ H := h
theorem andV_in {ta tb : TE} {σ : L2.St} {H : Hp} {Q : VK} (h : ta σ H fun x H1 => ∃ c, x = .bl c ∧ if c = true then tb σ H1 Q else Q (.bl false) H1) : tAndV ta tb σ H Q := h
abbrev sSm : Stmt := topS 70
theorem scSm : FnScope ["told", "due", "one", "other"] ["told", "due"] (defScope sSm) := ⟨rfl, rfl, rfl, by decide +kernel, rfl, by decide +kernel, by decide +kernel⟩
section
variable {P : Program} {w : World} {K : PySem.W.Frag} {mg : Str → Option Value} {base : Heap}
def spSm (n : Nat) : Sp := fun vs H Q _ => ∃ x y m, vs = [x, y] ∧ n = m + 1 ∧ Alk H m x y ∧ ∀ H', Sm [] H H' → Q (.bl true) H'
theorem step_sm {f : Addr} {fd : FuncData} (F : Fun K "_law_same" "_law_same" sSm f fd) (B : Bn mg) (n : Nat) (C : Cal P w K mg base "_law_same" ["told", "due"] n (spSm n)) : FnOk P w K mg base CX0 (n + 1) f fd ["told", "due"] (spSm (n + 1)) := by
  refine F.ok scSm (fun vs H Q E h => ?_) (fun cdv A outer s H vs Q E hr h => ?_)
  · obtain ⟨x, y, m, rfl, _⟩ := h
    rfl
  · obtain ⟨x, y, m, rfl, hm, hA, q⟩ := h
    obtain rfl : n = m := by omega
    have nd := scSm.nd
    refine ⟨_, pss_cons (ps_if (pt_val (pe_callB call_isiT (by rfl) B.isinstance boot_isinstance (pa_cons (pv 1) (pa_cons (pe_tup (pa_cons (pe_bltn (v := .ty "tuple") (by rfl) B.tuple boot_tuple rfl) (pa_cons (pe_bltn (v := .ty "list") (by rfl) B.list boot_list rfl) pa_nil))) pa_nil))))
        (pss_cons (ps_if (PW.pt (pw_or (pt_cmpR op_ne (pe_is B B.tuple boot_tuple (pv 0)) (pe_is B B.tuple boot_tuple (pv 1)) (nomark _)) (pw_or1 (pt_cmpR op_ne (pe_is B B.list boot_list (pv 0)) (pe_is B B.list boot_list (pv 1)) (nomark _)))))
          (pss_one (ps_ret pe_bl)) pss_nil)
        (pss_one (ps_ret (pe_and (pe_cmpR op_eq (pe_callB call_len (by rfl) B.len boot_len (pa_cons (pv 0) pa_nil)) (pe_callB call_len (by rfl) B.len boot_len (pa_cons (pv 1) pa_nil)) (nomark _)) (pe_one (pe_cmpR (op_eqD hr.units)
          (pe_lc (own := [("one", 2), ("other", 3)]) (g := gTup K 2 (gCons (gName 2) (gCons (gName 3) gNil))) (tt := tNot (tB (tCall (spSm n) [] E0 (tCons (tVar 2) (tCons (tVar 3) tNil))))) (te := tC (.int 1)) rfl nd (RZ.pi_zipA (by rfl) B.zip (pa_cons (pv 0) (pa_cons (pv 1) pa_nil))) (blkOk_by (N := ["told", "due", "one", "other"]) (sc := defScope sSm) (by decide +kernel))
            (fun _ _ _ _ _ => pg_tup rfl (pgs_cons (pg_name (i := 2) nd rfl (.inl rfl)) (pgs_cons (pg_name (i := 3) nd rfl (.inl rfl)) pgs_nil)))
            (fun _ _ _ _ _ => pts_one (pt_not (pt_val (pe_own C hr (pa_cons (pv 2) (pa_cons (pv 3) pa_nil)))))) (fun _ _ _ _ _ => pe_int)) (pe_lst pa_nil) (nomark _))))))) pss_nil)
      (pss_cons (ps_if (PW.pt (pw_or (pt_cmpR op_isN (pv 1) pe_non (nomark _)) (pw_or1 (pt_val (pe_is B B.bool boot_bool (pv 1))))))
        (pss_one (ps_ret (pe_ifExp (pt_cmpR op_isN (pv 1) pe_non (nomark _)) (pe_cmpR op_isN (pv 0) pe_non (nomark _)) (pe_and (pe_is B B.bool boot_bool (pv 0)) (pe_one (pe_cmpR op_eq (pv 0) (pv 1) (nomark _))))))) pss_nil)
      (pss_cons (ps_if (pt_val (pe_is B B.str boot_str (pv 1))) (pss_one (ps_ret (pe_and (pe_is B B.str boot_str (pv 0)) (pe_one (pe_cmpR op_eq (pv 0) (pv 1) (nomark _)))))) pss_nil)
      (pss_one (ps_ret (pe_and (pe_is B B.int boot_int (pv 0)) (pe_and (pe_not (pe_is B B.bool boot_bool (pv 0))) (pe_one (pe_cmpR op_eq (pv 0) (pv 1) (nomark _))))))))), ?_⟩
    have yes : ∀ {p : Prop} [Decidable p] {H' : Hp}, p → Sm [] H H' → Q (.bl (decide p)) H' := fun hp s => by
      rw [decide_eq_true hp]
      exact q _ s
    have nb : ∀ {p : Addr} {xs : List V}, H p = none → Sm [] H (upd H p (.tup xs)) := fun hp => Sm.refl.new hp
    have flat : (x = y ∧ flatV' x = true) ∨ (∃ a b xs ys, x = .ref a ∧ y = .ref b ∧ ((H a = some (.tup xs) ∧ H b = some (.tup ys)) ∨ (H a = some (.lst xs) ∧ H b = some (.lst ys))) ∧ xs.length = ys.length ∧ ∃ m, n = m + 1 ∧ ∀ (i : Nat) x y, xs[i]? = some x → ys[i]? = some y → Alk H m x y) := by
      cases n with
      | zero => exact .inl hA
      | succ m =>
        rcases hA with h | ⟨a, b, xs, ys, e1, e2, h, hl, hi⟩
        · exact .inl h
        · exact .inr ⟨a, b, xs, ys, e1, e2, h, hl, m, rfl, hi⟩
    rcases flat with ⟨rfl, hf⟩ | ⟨a, b, xs, ys, rfl, rfl, h, hl, m, rfl, hi⟩
    · rcases kn_flat (K := K) (H := H) hf with ⟨rfl, _⟩ | ⟨bb, rfl, _⟩ | ⟨z, rfl, _⟩ | ⟨i, rfl, _⟩
      · refine ⟨.non, rfl, (by show 2 ≤ sizeLine; decide), fun p hp => ⟨_, p, _, .type "NoneType", tlU, _, rfl, upd_same, clsTL, TyX.non, kitTL (by decide), _, rfl, ite2 (fun z => absurd z (by decide)) fun _ => ?_⟩⟩
        refine ⟨.non, rfl, rfl, _, rfl, ite2 (fun _ => ite2 (fun _ => ?_) (fun z => absurd rfl z)) (fun z => absurd rfl z)⟩
        exact ⟨.non, rfl, rfl, _, rfl, ite2 (fun _ => ⟨.non, rfl, rfl, yes rfl (nb hp)⟩) (fun z => absurd rfl z)⟩
      · refine ⟨.bl bb, rfl, (by show 2 ≤ sizeLine; decide), fun p hp => ⟨_, p, _, .type "bool", tlU, _, rfl, upd_same, clsTL, (TyX.bl bb), kitTL (by decide), _, rfl, ite2 (fun z => absurd z (by decide)) fun _ => ?_⟩⟩
        refine ⟨.bl bb, rfl, rfl, _, rfl, ite2 (fun z => by simp at z) (fun _ => ⟨.bl bb, rfl, _, "bool", "bool", _, rfl, TyX.bl bb, kit7 "bool" (by decide) "bool" (by decide), _, rfl, ite2 (fun _ => ?_) (fun z => absurd z (by decide))⟩)⟩
        refine ⟨.bl bb, rfl, rfl, _, rfl, ite2 (fun z => by simp at z) (fun _ => ⟨.bl bb, rfl, _, "bool", "bool", _, rfl, TyX.bl bb, kit7 "bool" (by decide) "bool" (by decide), _, rfl, ite2 (fun _ => ?_) (fun z => absurd z (by decide))⟩)⟩
        exact ⟨.bl bb, rfl, .bl bb, rfl, rfl, yes rfl (nb hp)⟩
      · refine ⟨.str z, rfl, (by show 2 ≤ sizeLine; decide), fun p hp => ⟨_, p, _, .type "str", tlU, _, rfl, upd_same, clsTL, (TyX.str z), kitTL (by decide), _, rfl, ite2 (fun z => absurd z (by decide)) fun _ => ?_⟩⟩
        refine ⟨.str z, rfl, rfl, _, rfl, ite2 (fun z => by simp at z) (fun _ => ⟨.str z, rfl, _, "bool", "str", _, rfl, TyX.str z, kit7 "str" (by decide) "bool" (by decide), _, rfl, ite2 (fun z => absurd z (by decide)) (fun _ => ?_)⟩)⟩
        refine ⟨.str z, rfl, _, "str", "str", _, rfl, TyX.str z, kit7 "str" (by decide) "str" (by decide), _, rfl, ite2 (fun _ => ?_) (fun z => absurd z (by decide))⟩
        refine ⟨.str z, rfl, _, "str", "str", _, rfl, TyX.str z, kit7 "str" (by decide) "str" (by decide), _, rfl, ite2 (fun _ => ?_) (fun z => absurd z (by decide))⟩
        exact ⟨.str z, rfl, .str z, rfl, rfl, yes rfl (nb hp)⟩
      · refine ⟨.int i, rfl, (by show 2 ≤ sizeLine; decide), fun p hp => ⟨_, p, _, .type "int", tlU, _, rfl, upd_same, clsTL, (TyX.int i), kitTL (by decide), _, rfl, ite2 (fun z => absurd z (by decide)) fun _ => ?_⟩⟩
        refine ⟨.int i, rfl, rfl, _, rfl, ite2 (fun z => by simp at z) (fun _ => ⟨.int i, rfl, _, "bool", "int", _, rfl, TyX.int i, kit7 "int" (by decide) "bool" (by decide), _, rfl, ite2 (fun z => absurd z (by decide)) (fun _ => ?_)⟩)⟩
        refine ⟨.int i, rfl, _, "str", "int", _, rfl, TyX.int i, kit7 "int" (by decide) "str" (by decide), _, rfl, ite2 (fun z => absurd z (by decide)) (fun _ => ?_)⟩
        refine ⟨.int i, rfl, _, "int", "int", _, rfl, TyX.int i, kit7 "int" (by decide) "int" (by decide), _, rfl, ite2 (fun _ => ?_) (fun z => absurd z (by decide))⟩
        refine ⟨.int i, rfl, _, "bool", "int", _, rfl, TyX.int i, kit7 "int" (by decide) "bool" (by decide), _, rfl, _, rfl, ite2 (fun _ => ?_) (fun z => absurd z (by decide))⟩
        exact ⟨.int i, rfl, .int i, rfl, rfl, yes rfl (nb hp)⟩
    · obtain ⟨T, hT, hk, hTy⟩ : ∃ T, T ∈ kinds7 ∧ (kd T "tuple" || kd T "list") = true ∧ ∀ {H'}, Sm [] H H' → TyX K H' (.ref a) (.type T) ∧ TyX K H' (.ref b) (.type T) ∧ ((H' a = some (.tup xs) ∧ H' b = some (.tup ys)) ∨ (H' a = some (.lst xs) ∧ H' b = some (.lst ys))) := by
        rcases h with ⟨e1, e2⟩ | ⟨e1, e2⟩
        · exact ⟨"tuple", by decide, by decide, fun {H'} s => ⟨TyX.tup (s.keep e1), TyX.tup (s.keep e2), .inl ⟨s.keep e1, s.keep e2⟩⟩⟩
        · exact ⟨"list", by decide, by decide, fun {H'} s => ⟨TyX.lst (s.keep e1), TyX.lst (s.keep e2), .inr ⟨s.keep e1, s.keep e2⟩⟩⟩
      refine ⟨.ref b, rfl, (by show 2 ≤ sizeLine; decide), fun p hp => ?_⟩
      have s1 : Sm [] H (upd H p (.tup [.ty "tuple", .ty "list"])) := nb hp
      have e1 : (upd H p (.tup [.ty "tuple", .ty "list"])) p = some (.tup [.ty "tuple", .ty "list"]) := upd_same
      generalize upd H p (.tup [.ty "tuple", .ty "list"]) = H1 at s1 e1
      obtain ⟨ta, tb, hs⟩ := hTy s1
      refine ⟨_, p, _, .type T, tlU, _, rfl, e1, clsTL, tb, kitTL hT, _, rfl, ite2 (fun _ => ?_) (fun z => absurd hk z)⟩
      have kt := kit7 T hT "tuple" (by decide)
      have kl := kit7 T hT "list" (by decide)
      refine ⟨.ref a, rfl, _, "tuple", T, _, rfl, ta, kt, .ref b, rfl, _, "tuple", T, _, rfl, tb, kt, rfl, _, rfl, ite2 (fun z => by simp at z) (fun _ => ?_)⟩
      refine ⟨.ref a, rfl, _, "list", T, _, rfl, ta, kl, .ref b, rfl, _, "list", T, _, rfl, tb, kl, rfl, _, rfl, ite2 (fun z => by simp at z) (fun _ => ?_)⟩
      have lenA : LenV K (.ref a) H1 xs.length := by
        rcases hs with ⟨g, _⟩ | ⟨g, _⟩
        · exact .inr ⟨_, SqT.of g, rfl⟩
        · exact .inl ⟨_, SqL.of g, rfl⟩
      have lenB : LenV K (.ref b) H1 ys.length := by
        rcases hs with ⟨_, g⟩ | ⟨_, g⟩
        · exact .inr ⟨_, SqT.of g, rfl⟩
        · exact .inl ⟨_, SqL.of g, rfl⟩
      refine ⟨.ref a, rfl, _, xs.length, rfl, lenA, .ref b, rfl, _, ys.length, rfl, lenB, rfl, _, rfl, ite2 (fun _ => ?_) (fun z => absurd (by rw [hl]; simp) z)⟩
      refine op_in (lc_in ?_)
      refine zipA_in rfl rfl hs hl fun J G wk hG D hD => ?_
      refine lc_it wk (fun i H' => H' D = some (.lst []) ∧ Sm [] H1 H') ?_ ?_ ?_ ?_
      · exact ⟨upd_same, Sm.refl.new hD⟩
      · rintro i H' _ ⟨h1, h2⟩
        exact hG H' h2
      · rintro i x H' H2 hi2 ⟨h1, h2⟩ ⟨T2, u, v, rfl, hT2, rfl, hu, hv⟩
        have s2 : Sm [] H1 (upd H' T2 (.tup [u, v])) := h2.new hT2
        have d2 : (upd H' T2 (.tup [u, v])) D = some (.lst []) := by
          rw [upd_ne (ne_of_none h1 hT2)]
          exact h1
        refine ⟨T2, _, rfl, SqT.of upd_same, rfl, _, _, rfl, _, _, rfl, rfl, rfl, ?_⟩
        refine ⟨u, rfl, v, rfl, u, v, m, rfl, rfl, (hi i u v hu hv).sm (s1.trans s2), fun H3 s3 => ⟨_, rfl, ?_⟩⟩
        exact ite2 (fun z => by cases z) fun _ => ⟨s3.keep d2, s2.trans s3⟩
      · rintro H' ⟨h1, h2⟩
        refine ⟨Nat.zero_le _, fun p2 hp2 => ?_⟩
        refine ⟨_, _, Dp.lst (SqL.of (show (upd H' p2 (.lst [])) D = some (.lst []) by rw [upd_ne (ne_of_none h1 hp2)]; exact h1)) .nil, Dp.lst (SqL.of upd_same) .nil, by decide, by decide, ?_⟩
        have : PyData.eqv (.list []) (.list []) = true := by simp [PyData.eqv, PyData.eqvAll]
        rw [this]
        exact q _ ((s1.trans h2).new hp2)
/-- at each depth -/
theorem cal_sm {f : Addr} {fd : FuncData} (F : Fun K "_law_same" "_law_same" sSm f fd) (B : Bn mg) (hm : mg "_law_same" = some (.ref f)) (hb : Binds K fd ["told", "due"] []) : ∀ n, Cal P w K mg base "_law_same" ["told", "due"] n (spSm n)
  | 0 => ⟨f, fd, ⟨fun vs H Q E h => by obtain ⟨x, y, m, _, e, _⟩ := h; omega, fun A outer s H args us vs Q E _ _ _ _ h => by obtain ⟨x, y, m, _, e, _⟩ := h; omega⟩, hm, F.kp, hb⟩
  | n + 1 => ⟨f, fd, step_sm F B n (cal_sm F B hm hb n), hm, F.kp, hb⟩
end
end K92

namespace K92
open PySem PySem.Spec PyProof.Rows L2
open ZM (getT putT)
open TL (tl len_tl tl_append tl_join tl_ofString joinL join_eq)
/-! ### short texts -/
structure Sp0 (z : Str) (n : Nat) : Prop where
  len : z.length ≤ n
  ok : ∀ c ∈ tl z, (97 ≤ c ∧ c ≤ 122)
theorem Sp0.mono {z : Str} {n m : Nat} (h : Sp0 z n) (l : n ≤ m) : Sp0 z m := ⟨Nat.le_trans h.len l, h.ok⟩
theorem Sp0.app {x y : Str} {n m : Nat} (h : Sp0 x n) (k : Sp0 y m) : Sp0 (x ++ y) (n + m) := by
  refine ⟨?_, fun c hc => ?_⟩
  · have h1 := h.len
    have h2 := k.len
    rw [len_tl] at h1 h2 ⊢
    rw [tl_append, List.length_append]
    omega
  · rw [tl_append] at hc
    rcases List.mem_append.mp hc with hc | hc
    · exact h.ok c hc
    · exact k.ok c hc
theorem Sp0.one {c : Nat} (h : (97 ≤ c ∧ c ≤ 122)) : Sp0 ⟨#[c]⟩ 1 := ⟨Nat.le_refl _, fun x hx => by
  have : x = c := by simpa [tl] using hx
  rw [this]; exact h⟩
theorem tl_cut (z : Str) (lo hi : Option Int) : tl (cutS z lo hi) = ((tl z).drop (HT.sIx z.length 0 lo)).take (HT.sIx z.length z.length hi - HT.sIx z.length 0 lo) := rfl
theorem Sp0.cut {z : Str} {n : Nat} (h : Sp0 z n) (lo hi : Option Int) : Sp0 (cutS z lo hi) n := by
  refine ⟨?_, fun c hc => ?_⟩
  · have h1 := h.len
    rw [len_tl] at h1 ⊢
    rw [tl_cut, List.length_take, List.length_drop]
    omega
  · rw [tl_cut] at hc
    exact h.ok c (List.mem_of_mem_drop (List.mem_of_mem_take hc))
theorem ne_empty {z : Str} (h : tl z ≠ []) : z ≠ "" := fun e => h (by rw [e]; rfl)
/-- a name: short, of letters, not empty -/
structure Sh (z : Str) : Prop where
  sp : Sp0 z 8
  ne : z ≠ ""
theorem app_ne {x y : Str} (h : tl y ≠ []) : tl (x ++ y) ≠ [] := by
  rw [tl_append]
  intro z
  exact h (List.append_eq_nil_iff.mp z).2
theorem app_ne' {x y : Str} (h : tl x ≠ []) : tl (x ++ y) ≠ [] := by
  rw [tl_append]
  intro z
  exact h (List.append_eq_nil_iff.mp z).1
theorem joinL_nil : ∀ ps : List (List Nat), joinL [] ps = ps.flatten
  | [] => rfl
  | [p] => by simp [joinL]
  | p :: q :: r => by
    have := joinL_nil (q :: r)
    show p ++ ([] ++ joinL [] (q :: r)) = _
    rw [this]
    simp
theorem join_chars {ys : List Str} (h : ∀ y ∈ ys, ∃ c, y = ⟨#[c]⟩ ∧ (97 ≤ c ∧ c ≤ 122)) : (Txt.join "" ys).length = ys.length ∧ ∀ c ∈ tl (Txt.join "" ys), (97 ≤ c ∧ c ≤ 122) := by
  have e : tl (Txt.join "" ys) = (ys.map tl).flatten := by
    rw [join_eq, tl_join]
    exact joinL_nil _
  refine ⟨?_, fun c hc => ?_⟩
  · rw [len_tl, e]
    clear e
    induction ys with
    | nil => rfl
    | cons y ys ih =>
      obtain ⟨c, rfl, _⟩ := h y List.mem_cons_self
      rw [List.map_cons, List.flatten_cons, List.length_append, ih fun y hy => h y (List.mem_cons_of_mem _ hy)]
      show 1 + ys.length = ys.length + 1
      omega
  · rw [e] at hc
    obtain ⟨l, hl, hc⟩ := List.mem_flatten.mp hc
    obtain ⟨y, hy, rfl⟩ := List.mem_map.mp hl
    obtain ⟨d, rfl, hd⟩ := h y hy
    have : c = d := by simpa [tl] using hc
    rw [this]
    exact hd
theorem inV_str (z : Str) : ∀ fs : List Str, inV (.str z) (fs.map V.str) = decide (z ∈ fs)
  | [] => by simp [inV]
  | f :: fs => by
    have ih := inV_str z fs
    unfold inV at ih ⊢
    rw [List.map_cons, List.any_cons, ih]
    have e : eqV (.str f) (.str z) = (f == z) := rfl
    rw [e]
    by_cases h : f = z
    · subst h
      simp
    · have : (f == z) = false := by simpa using h
      rw [this, Bool.false_or, decide_eq_decide, List.mem_cons]
      exact ⟨.inr, fun q => q.resolve_left fun e => h e.symm⟩
theorem flat_strs (fs : List Str) : (fs.map V.str).all flatV = true := by
  rw [List.all_eq_true]
  intro x hx
  obtain ⟨z, _, rfl⟩ := List.mem_map.mp hx
  rfl
abbrev az : Str := "abcdefghijklmnopqrstuvwxyz"
theorem az_ok : (tl az).length = 26 ∧ ∀ c ∈ tl az, (97 ≤ c ∧ c ≤ 122) := by
  rw [show tl az = ("abcdefghijklmnopqrstuvwxyz" : String).toList.map Char.toNat from tl_ofString _]
  decide +kernel
abbrev wordsL : List Str := ["where", "to", "set", "tell", "from", "update", "delete", "insert", "then", "empty"]
theorem words_ok : ∀ z ∈ wordsL, Sh z := by
  have h : ∀ s ∈ (["where", "to", "set", "tell", "from", "update", "delete", "insert", "then", "empty"] : List String), Sh (Str.ofString s) := by
    intro s hs
    have g : ∀ s ∈ (["where", "to", "set", "tell", "from", "update", "delete", "insert", "then", "empty"] : List String), (s.toList.map Char.toNat).length ≤ 8 ∧ (∀ c ∈ s.toList.map Char.toNat, (97 ≤ c ∧ c ≤ 122)) ∧ (s.toList.map Char.toNat) ≠ [] := by decide +kernel
    obtain ⟨a, b, c⟩ := g s hs
    rw [← tl_ofString] at a b c
    exact ⟨⟨by rw [len_tl]; exact a, b⟩, ne_empty c⟩
  intro z hz
  rw [show wordsL = (["where", "to", "set", "tell", "from", "update", "delete", "insert", "then", "empty"] : List String).map Str.ofString from rfl] at hz
  obtain ⟨s, hs, rfl⟩ := List.mem_map.mp hz
  exact h s hs
theorem az_at : ∀ m, m < 26 → (tl az)[m]? = some (m + 97) := by
  rw [show tl az = ("abcdefghijklmnopqrstuvwxyz" : String).toList.map Char.toNat from tl_ofString _]
  decide +kernel
/-- the name that turn i offers -/
def elN (bs : Str) (way first at_ : Int) (i : Nat) : Str := match way.toNat with
  | 0 => ⟨#[((first + 7 * (0 + (i : Int))) % 26).toNat + 97]⟩
  | 1 => cutS bs none (some at_) ++ ⟨#[((first + 7 * (0 + (i : Int))) % 26).toNat + 97]⟩ ++ cutS bs (some (at_ + 1)) none
  | 2 => cutS bs none (some (1 + (0 + (i : Int)) % 7))
  | _ => wordsL.getD ((first + (0 + (i : Int))) % 10).toNat ""
theorem words_inj : ∀ a, a < 10 → ∀ b, b < 10 → wordsL.getD a "" = wordsL.getD b "" → a = b := by decide +kernel
theorem cut_len {bs : Str} (h : bs.length = 7) (i : Nat) : (cutS bs none (some (1 + (0 + (i : Int)) % 7))).length = 1 + i % 7 := by
  have e : (1 + (0 + (i : Int)) % 7) = ((1 + i % 7 : Nat) : Int) := by omega
  rw [len_tl, e, tl_cut, HT.sIx_none, HT.sIx_nat, List.drop_zero, Nat.sub_zero, List.length_take, ← len_tl, h]
  omega
theorem elN_inj {bs : Str} {way first at_ : Int} (h7 : bs.length = 7) (f0 : 0 ≤ first) {i j : Nat} (hi : i < 3) (hj : j < 3) (e : elN bs way first at_ i = elN bs way first at_ j) : i = j := by
  unfold elN at e
  have chr : ∀ {a b : Nat}, (⟨#[a]⟩ : Str) = ⟨#[b]⟩ → a = b := fun {a b} h => by
    have := congrArg tl h
    simpa [tl] using this
  split at e
  · have := chr e
    omega
  · have q := congrArg tl e
    rw [tl_append, tl_append, tl_append, tl_append] at q
    have q2 := List.append_cancel_left (List.append_cancel_right q)
    have q3 : ((first + 7 * (0 + (i : Int))) % 26).toNat + 97 = ((first + 7 * (0 + (j : Int))) % 26).toNat + 97 := by simpa [tl] using q2
    omega
  · have q := congrArg Str.length e
    rw [cut_len h7, cut_len h7] at q
    omega
  · have := words_inj _ (by omega) _ (by omega) e
    omega
theorem app_len {bs sg : Str} {at_ : Int} (h7 : bs.length = 7) (h1 : sg.length ≤ 1) (a0 : 0 ≤ at_) (a1 : at_ < 7) : (cutS bs none (some at_) ++ sg ++ cutS bs (some (at_ + 1)) none).length ≤ 8 := by
  obtain ⟨m, rfl⟩ : ∃ m : Nat, at_ = (m : Int) := ⟨at_.toNat, by omega⟩
  rw [len_tl] at h1
  rw [len_tl, tl_append, tl_append, tl_cut, tl_cut, show (m : Int) + 1 = ((m + 1 : Nat) : Int) by omega, HT.sIx_none, HT.sIx_none, HT.sIx_nat, HT.sIx_nat, List.length_append, List.length_append, List.length_take, List.length_take, List.length_drop, List.length_drop, ← len_tl, h7]
  omega
abbrev sNm : Stmt := topS 69
abbrev nNm : List Str := ["deck", "many", "letters", "way", "first", "k", "base", "at", "words", "found", "sign", "some"]
theorem scNm : FnScope ["deck", "many", "letters", "way", "first", "k", "base", "at", "words", "found", "sign", "some"] ["deck", "many"] (defScope sNm) := ⟨rfl, rfl, rfl, by decide +kernel, rfl, by decide +kernel, by decide +kernel⟩
section
variable {P : Program} {w : World} {K : PySem.W.Frag} {mg : Str → Option Value} {base : Heap}
/-- names that were drawn -/
structure NmL (many : Int) (cs : List Str) : Prop where
  ne : cs ≠ []
  le : (cs.length : Int) ≤ many
  nd : cs.Nodup
  sh : ∀ z ∈ cs, Sh z
  mo : 3 ≤ many → 3 ≤ cs.length
theorem NmL.nms {many : Int} {cs : List Str} (h : NmL many cs) (m : many ≤ 3) : Nms cs := ⟨h.ne, by have := h.le; omega, h.nd, fun z => (h.sh _ z).ne rfl⟩
def spNm : Sp := fun vs H Q _ => ∃ (d c : Addr) (n : Nat) (many : Int), vs = [.ref d, .int many] ∧ Deck H d c n ∧ n + 100 < 2 ^ 40 ∧ 1 ≤ many ∧ many ≤ 4 ∧
  ∀ (l : Addr) (cs : List Str) H', Sm [d, c] H H' → Deck H' d c (n + 10) → H l = none → H' l = some (.lst (cs.map V.str)) → NmL many cs → Q (.ref l) H'
theorem ok_nm {f : Addr} {fd : FuncData} (F : Fun K "_law_names" "_law_names" sNm f fd) (B : Bn mg) (cDraw : Cal P w K mg base "_law_draw" ["deck", "ways"] 1 spDraw) (cPick : Cal P w K mg base "_law_pick" ["deck", "some"] 2 spPick) : FnOk P w K mg base CX0 3 f fd ["deck", "many"] spNm := by
  refine F.ok scNm (fun vs H Q E h => ?_) (fun cdv A outer s H vs Q E hr h => ?_)
  · obtain ⟨d, c, n, many, rfl, _⟩ := h
    rfl
  · obtain ⟨d, c, n, many, rfl, hD, hn, m0, m1, q⟩ := h
    have nd := scNm.nd
    refine ⟨_, pss_cons (ps_asg (pe_tup (pa_cons pe_str (pa_cons (pe_own (cDraw.mono (by decide)) hr (pa_cons (pv 0) (pa_cons pe_int pa_nil))) (pa_cons (pe_own (cDraw.mono (by decide)) hr (pa_cons (pv 0) (pa_cons pe_int pa_nil))) pa_nil))))
        (pg_tup rfl (pgs_cons (pg_name (i := 2) nd rfl (.inr rfl) (.inl rfl)) (pgs_cons (pg_name (i := 3) nd rfl (.inl rfl)) (pgs_cons (pg_name (i := 4) nd rfl (.inl rfl)) pgs_nil)))))
      (pss_cons (ps_par (i := 6) (j := 7) rfl nd rfl rfl (by decide) rfl rfl (pa_cons (pe_join pe_str
          (pe_lc (own := [("k", 5)]) (g := gName 5) (tt := tYes) (te := tCall spPick [] E0 (tCons (tVar 0) (tCons (tVar 2) tNil))) rfl nd (pi_range1 (by rfl) B.range (pa_cons pe_int pa_nil)) (blkOk_by (N := nNm) (sc := defScope sNm) (by decide +kernel))
            (fun _ _ _ _ _ => pg_name (i := 5) nd rfl (.inl rfl)) (fun _ _ _ _ _ => pts_nil) (fun _ _ _ _ _ => pe_own (cPick.mono (by decide)) hr (pa_cons (pv 0) (pa_cons (pv 2) pa_nil))))) (pa_cons (pe_own (cDraw.mono (by decide)) hr (pa_cons (pv 0) (pa_cons pe_int pa_nil))) pa_nil)) (by rfl))
      (pss_cons (ps_set (i := 8) nd rfl (.inl rfl) (pe_lst (pa_cons pe_str (pa_cons pe_str (pa_cons pe_str (pa_cons pe_str (pa_cons pe_str (pa_cons pe_str (pa_cons pe_str (pa_cons pe_str (pa_cons pe_str (pa_cons pe_str pa_nil))))))))))))
      (pss_cons (ps_set (i := 9) nd rfl (.inl rfl) (pe_lst pa_nil))
      (pss_cons (ps_for PassesOwn.never rfl (pi_range1 (by rfl) B.range (pa_cons pe_int pa_nil)) (pg_name (i := 5) nd rfl (.inl rfl))
        (pss_cons (ps_set (i := 10) nd rfl (.inl rfl) (pe_ix ix_seq (pv 2) (pe_op op_mod (pe_op op_add (pv 4) (pe_op op_mul pe_int (pv 5))) pe_int) (fun _ _ => rfl)))
        (pss_cons (ps_set (i := 11) nd rfl (.inl rfl) (pe_lst (pa_cons (pv 10) (pa_cons (pe_op op_add_str (pe_op op_add_str (pe_slice sl_str (pv 6) po_none (po_some (pv 7))) (pv 10)) (pe_slice sl_str (pv 6) (po_some (pe_op op_add (pv 7) pe_int)) po_none))
            (pa_cons (pe_slice sl_str (pv 6) po_none (po_some (pe_op op_add pe_int (pe_op op_mod (pv 5) pe_int)))) (pa_cons (pe_ix ix_seq (pv 8) (pe_op op_mod (pe_op op_add (pv 4) (pv 5)) pe_int) (fun _ _ => rfl)) pa_nil))))))
        (pss_one (ps_if (pt_cmpR op_notIn_seq (pe_ix ix_seq (pv 11) (pv 3) (fun _ _ => rfl)) (pv 9) (by rfl))
          (pss_one (ps_expr (pe_bm PySem.F.plainAttrs_list PySem.F.slot_list_append PySem.F.type_list_append mt_append (pv 9) (pa_cons (pe_ix ix_seq (pv 11) (pv 3) (fun _ _ => rfl)) pa_nil)))) pss_nil)))))
      (pss_one (ps_ret (pe_slice sl_list (pv 9) po_none (po_some (pv 1))))))))), ?_⟩
    have lz : (tl az).length = 26 := az_ok.1
    have bl : ∀ {z : Str}, Sp0 z 16 → z.length ≤ sizeLine := fun {z} h => by
      have := h.len
      have h2 : (16 : Nat) ≤ sizeLine := by decide
      omega
    have azl : az.length ≤ sizeLine := by
      rw [len_tl, lz]
      decide
    -- letters, way, first
    refine ⟨.ref d, rfl, d, c, n, 4, rfl, hD, by omega, by omega, by omega, fun way H1 w0 w1 s1 D1 => ⟨.ref d, rfl, d, c, n + 1, 26, rfl, D1, by omega, by omega, by omega, fun first H2 f0 f1 s2 D2 => ⟨(by show 3 ≤ sizeLine; decide), fun p0 hp0 => ?_⟩⟩⟩
    have s3 : Sm [d, c] H (upd H2 p0 (.tup [.str az, .int way, .int first])) := (s1.trans s2).new hp0
    have D3 : Deck (upd H2 p0 (.tup [.str az, .int way, .int first])) d c (n + 2) := D2.keep (Sm.refl.new hp0)
    refine ⟨p0, _, rfl, SqT.of upd_same, rfl, _, _, rfl, _, _, rfl, _, _, rfl, rfl, ?_⟩
    generalize upd H2 p0 (.tup [.str az, .int way, .int first]) = H3 at s3 D3
    -- base
    refine ⟨⟨_, rfl⟩, 7, rfl, by decide, by decide, fun D hD0 => ?_⟩
    have nD : D ∉ [d, c] := D3.outN hD0
    have hDH : H D = none := s3.free hD0 nD
    refine lc_it (walk_range (lo := 0) (n := 7)) (fun i H' => ∃ ys : List Str, H' D = some (.lst (ys.map V.str)) ∧ ys.length = i ∧ (∀ y ∈ ys, ∃ ch, y = ⟨#[ch]⟩ ∧ (97 ≤ ch ∧ ch ≤ 122)) ∧ Sm [d, c] H H' ∧ Deck H' d c (n + 2 + i)) ?_ ?_ ?_ ?_
    · exact ⟨[], upd_same, rfl, fun y h => absurd h (by simp), s3.own hDH, D3.keep (Sm.refl.new hD0)⟩
    · intros
      trivial
    · rintro i x H' H'' hi ⟨ys, h1, h2, h3, h4, h5⟩ ⟨rfl, rfl⟩
      refine ⟨rfl, .ref d, rfl, .str az, rfl, d, c, n + 2 + i, .str az, _, rfl, h5, by omega, .inr (.inr ⟨az, rfl, azl, rfl⟩), ?_, ?_, fun j x H4 hx s4 D4 => ?_⟩
      · rw [List.length_map]
        show 1 ≤ (tl az).length
        omega
      · rw [List.length_map]
        show (tl az).length < 1073741824
        omega
      · obtain ⟨ch, hch, rfl⟩ : ∃ ch, (tl az)[j]? = some ch ∧ x = .str ⟨#[ch]⟩ := by
          rw [List.getElem?_map] at hx
          cases e : (tl az)[j]? with
          | none =>
            rw [show (az.cps.toList)[j]? = none from e] at hx
            cases hx
          | some ch =>
            rw [show (az.cps.toList)[j]? = some ch from e] at hx
            exact ⟨ch, rfl, (Option.some.inj hx).symm⟩
        refine ⟨_, s4 _ _ h1 nD, by rw [List.length_map]; exact small16 (by omega), ys ++ [⟨#[ch]⟩], ?_, ?_, ?_, (h4.trans s4).own hDH, ?_⟩
        · rw [upd_same, List.map_append]
          rfl
        · rw [List.length_append, h2]
          rfl
        · intro y hy
          rcases List.mem_append.mp hy with hy | hy
          · exact h3 y hy
          · rw [List.mem_singleton] at hy
            exact ⟨ch, hy, az_ok.2 ch (List.mem_of_getElem? hch)⟩
        · obtain ⟨cells, b, g1, g2, g3⟩ := D4.ex
          refine ⟨cells, b, ?_, ?_, g3⟩
          · rw [upd_ne (fun e => nD (by rw [← e]; simp))]; exact g1
          · rw [upd_ne (fun e => nD (by rw [← e]; simp))]; exact g2
    rintro H4 ⟨ys, h1, h2, h3, s4, D4⟩
    obtain ⟨jl, jo⟩ := join_chars h3
    have jsum : ∀ l : List Str, (∀ y ∈ l, ∃ ch, y = ⟨#[ch]⟩ ∧ (97 ≤ ch ∧ ch ≤ 122)) → (l.map (·.length)).sum = l.length := fun l hl => by
      induction l with
      | nil => rfl
      | cons y l ih =>
        obtain ⟨ch, rfl, _⟩ := hl y List.mem_cons_self
        rw [List.map_cons, List.sum_cons, ih fun y hy => hl y (List.mem_cons_of_mem _ hy)]
        show 1 + l.length = l.length + 1
        omega
    refine ⟨_, D, ys, rfl, rfl, .inl (SqL.of h1), ?_, ?_⟩
    · rw [jsum ys h3, h2]
      decide
    have bs0 : Sp0 (Txt.join "" ys) 7 := ⟨by rw [jl, h2]; decide, jo⟩
    have bs7 : (Txt.join "" ys).length = 7 := by rw [jl, h2]
    generalize Txt.join "" ys = bs at bs0 bs7
    refine ⟨.ref d, rfl, d, c, n + 9, 7, rfl, D4, by omega, by omega, by omega, fun at_ H5 a0 a1 s5 D5 => ⟨_, _, rfl, ?_⟩⟩
    have s45 := s4.trans s5
    -- words, found
    refine ⟨(by show 10 ≤ sizeLine; decide), fun Wd hW => ?_⟩
    have s6 : Sm [d, c] H (upd H5 Wd (.lst (wordsL.map V.str))) := s45.new hW
    have D6 : Deck (upd H5 Wd (.lst (wordsL.map V.str))) d c (n + 10) := D5.keep (Sm.refl.new hW)
    have eW : (upd H5 Wd (.lst (wordsL.map V.str))) Wd = some (.lst (wordsL.map V.str)) := upd_same
    have hWd : Wd ∉ [d, c] := D5.outN hW
    refine ⟨Nat.zero_le _, fun Fd hF => ?_⟩
    have s7 : Sm [d, c] H (upd (upd H5 Wd (.lst (wordsL.map V.str))) Fd (.lst [])) := s6.new hF
    have D7 : Deck (upd (upd H5 Wd (.lst (wordsL.map V.str))) Fd (.lst [])) d c (n + 10) := D6.keep (Sm.refl.new hF)
    have nFW : Wd ≠ Fd := ne_of_none eW hF
    have eW7 : (upd (upd H5 Wd (.lst (wordsL.map V.str))) Fd (.lst [])) Wd = some (.lst (wordsL.map V.str)) := by
      rw [upd_ne nFW]; exact eW
    have eF7 : (upd (upd H5 Wd (.lst (wordsL.map V.str))) Fd (.lst [])) Fd = some (.lst []) := upd_same
    have nF : Fd ∉ [d, c] := D6.outN hF
    have hFH : H Fd = none := s6.free hF nF
    refine ⟨12, rfl, by decide, by decide, for_range (fun i σ H' => ∃ (y5 y10 y11 : Option V) (fs : List Str), σ = [some (.ref d), some (.int many), some (.str az), some (.int way), some (.int first), y5, some (.str bs), some (.int at_), some (.ref Wd), some (.ref Fd), y10, y11] ∧ Sm [d, c] H H' ∧ Deck H' d c (n + 10) ∧ H' Wd = some (.lst (wordsL.map V.str)) ∧ H' Fd = some (.lst (fs.map V.str)) ∧ fs.Nodup ∧ (∀ z ∈ fs, Sh z) ∧ fs.length ≤ i ∧ (0 < i → fs ≠ []) ∧ (i ≤ 3 → fs = (List.range i).map (elN bs way first at_)) ∧ (3 ≤ i → 3 ≤ fs.length)) ?_ ?_ ?_⟩
    · exact ⟨none, none, none, [], rfl, s7, D7, eW7, eF7, List.nodup_nil, fun z h => absurd h (by simp), Nat.le_refl _, fun h => absurd h (by decide), fun _ => rfl, fun h => absurd h (by decide)⟩
    · rintro i σ H' hi ⟨y5, y10, y11, fs, rfl, s8, D8, eW8, eF8, hnd, hsh, hle, hne, hel, h3⟩
      have hi12 : i < 12 := hi
      obtain ⟨m, hm, hm26⟩ : ∃ m : Nat, (first + 7 * (0 + (i : Int))) % 26 = (m : Int) ∧ m < 26 := ⟨((first + 7 * (0 + (i : Int))) % 26).toNat, by omega, by omega⟩
      have hch : (tl az)[m]? = some ((tl az)[m]'(by omega)) := List.getElem?_eq_getElem (by omega)
      have hco : 97 ≤ (tl az)[m]'(by omega) ∧ (tl az)[m]'(by omega) ≤ 122 := az_ok.2 _ (List.getElem_mem _)
      generalize (tl az)[m]'(by omega) = ch at hch hco
      refine ⟨.str az, rfl, .int first, rfl, .int (0 + i), rfl, 7, 0 + i, rfl, rfl, .inl ⟨by decide, by decide⟩, first, 7 * (0 + i), rfl, rfl, _, 26, rfl, rfl, (show (0 : Int) < 26 by decide), .inr (.inr ⟨az, _, ch, rfl, rfl, azl, ?_, ?_⟩)⟩
      · rw [hm]
        exact atI_nat hch
      have k0 : Sp0 ⟨#[ch]⟩ 1 := Sp0.one hco
      have k0n : tl (⟨#[ch]⟩ : Str) ≠ [] := by intro z; cases z
      generalize hsg : (⟨#[ch]⟩ : Str) = sg at k0 k0n
      have kc : Sp0 (cutS bs none (some at_)) 7 := bs0.cut _ _
      have kd2 : Sp0 (cutS bs (some (at_ + 1)) none) 7 := bs0.cut _ _
      have kl : (cutS bs none (some at_) ++ sg ++ cutS bs (some (at_ + 1)) none).length ≤ 16 := (((kc.app k0).app kd2).mono (by decide)).len
      have z16 : ∀ {k : Nat}, k ≤ 16 → k ≤ sizeLine := fun h => by
        have h2 : (16 : Nat) ≤ sizeLine := by decide
        omega
      obtain ⟨m2, hm2, hm10⟩ : ∃ m : Nat, (first + (0 + (i : Int))) % 10 = (m : Int) ∧ m < 10 := ⟨((first + (0 + (i : Int))) % 10).toNat, by omega, by omega⟩
      have hwz : wordsL[m2]? = some (wordsL[m2]'(by show m2 < 10; omega)) := List.getElem?_eq_getElem (by show m2 < 10; omega)
      have hws : Sh (wordsL[m2]'(by show m2 < 10; omega)) := words_ok _ (List.getElem_mem _)
      generalize wordsL[m2]'(by show m2 < 10; omega) = wz at hwz hws
      refine ⟨.str sg, rfl, .str bs, rfl, .int at_, rfl, at_, rfl, bs, rfl, z16 (bs0.mono (by decide)).len, .str sg, rfl, _, _, rfl, rfl, z16 (by have := kc.len; have := k0.len; omega),
        .str bs, rfl, .int at_, rfl, at_, 1, rfl, rfl, _, rfl, bs, rfl, z16 (bs0.mono (by decide)).len, _, _, rfl, rfl, z16 (by have := (kc.app k0).len; have := kd2.len; omega),
        .str bs, rfl, .int (0 + i), rfl, 0 + i, 7, rfl, rfl, (show (0 : Int) < 7 by decide), 1, _, rfl, rfl, _, rfl, bs, rfl, z16 (bs0.mono (by decide)).len,
        .ref Wd, rfl, .int first, rfl, .int (0 + i), rfl, first, 0 + i, rfl, rfl, _, 10, rfl, rfl, (show (0 : Int) < 10 by decide), .inl ⟨Wd, wordsL.map V.str, _, .str wz, rfl, rfl, SqL.of eW8, ?_, (by show 4 ≤ sizeLine; decide), fun p hp => ?_⟩⟩
      · rw [hm2]
        exact atI_nat (by rw [List.getElem?_map, hwz]; rfl)
      have k1 : Sh (cutS bs none (some at_) ++ sg ++ cutS bs (some (at_ + 1)) none) := ⟨⟨app_len bs7 k0.len a0 a1, ((kc.app k0).app kd2).ok⟩, ne_empty (app_ne' (app_ne k0n))⟩
      have k2 : Sh (cutS bs none (some (1 + (0 + (i : Int)) % 7))) := by
        refine ⟨(bs0.cut _ _).mono (by decide), ne_empty fun z => ?_⟩
        have e : (1 + (0 + (i : Int)) % 7) = ((1 + i % 7 : Nat) : Int) := by omega
        rw [e, tl_cut, HT.sIx_none, HT.sIx_nat, List.drop_zero, Nat.sub_zero, bs7] at z
        have l := congrArg List.length z
        rw [List.length_take, ← len_tl, bs7] at l
        simp only [List.length_nil] at l
        omega
      have k00 : Sh sg := ⟨k0.mono (by decide), ne_empty k0n⟩
      generalize ht1 : cutS bs none (some at_) ++ sg ++ cutS bs (some (at_ + 1)) none = t1 at k1
      generalize ht2 : cutS bs none (some (1 + (0 + (i : Int)) % 7)) = t2 at k2
      have hts : ∀ z ∈ [sg, t1, t2, wz], Sh z := by
        intro z hz
        simp only [List.mem_cons, List.not_mem_nil, or_false] at hz
        rcases hz with rfl | rfl | rfl | rfl
        · exact k00
        · exact k1
        · exact k2
        · exact hws
      have s9 : Sm [d, c] H (upd H' p (.lst ([sg, t1, t2, wz].map V.str))) := s8.new hp
      have D9 : Deck (upd H' p (.lst ([sg, t1, t2, wz].map V.str))) d c (n + 10) := D8.keep (Sm.refl.new hp)
      have eW9 : (upd H' p (.lst ([sg, t1, t2, wz].map V.str))) Wd = some (.lst (wordsL.map V.str)) := by
        rw [upd_ne (ne_of_none eW8 hp)]; exact eW8
      have eF9 : (upd H' p (.lst ([sg, t1, t2, wz].map V.str))) Fd = some (.lst (fs.map V.str)) := by
        rw [upd_ne (ne_of_none eF8 hp)]; exact eF8
      have eS9 : (upd H' p (.lst ([sg, t1, t2, wz].map V.str))) p = some (.lst ([sg, t1, t2, wz].map V.str)) := upd_same
      have npF : p ≠ Fd := fun e => by rw [e, eF8] at hp; cases hp
      obtain ⟨m3, rfl⟩ : ∃ m : Nat, way = (m : Int) := ⟨way.toNat, by omega⟩
      have hm3 : m3 < [sg, t1, t2, wz].length := by show m3 < 4; omega
      have htw : [sg, t1, t2, wz][m3]? = some ([sg, t1, t2, wz][m3]) := List.getElem?_eq_getElem hm3
      have hsw : Sh ([sg, t1, t2, wz][m3]) := hts _ (List.getElem_mem _)
      generalize [sg, t1, t2, wz][m3] = tw at htw hsw
      have htwe : tw = elN bs (m3 : Int) first at_ i := by
        have az1 := az_at m hm26
        rw [hch] at az1
        have ech : ch = m + 97 := Option.some.inj az1
        have em : ((first + 7 * (0 + (i : Int))) % 26).toNat = m := by omega
        have em2 : ((first + (0 + (i : Int))) % 10).toNat = m2 := by omega
        unfold elN
        rw [em, em2, ← ech, hsg, ht1, ht2, Int.toNat_natCast]
        match m3, hm3, htw with
        | 0, _, e => exact (Option.some.inj e).symm
        | 1, _, e => exact (Option.some.inj e).symm
        | 2, _, e => exact (Option.some.inj e).symm
        | 3, _, e =>
          have e3 : wz = tw := Option.some.inj e
          show tw = wordsL.getD m2 ""
          rw [List.getD_eq_getElem?_getD, hwz, e3]
          rfl
      have at3 : atI ([sg, t1, t2, wz].map V.str) (m3 : Int) = some (.str tw) := atI_nat (by rw [List.getElem?_map, htw]; rfl)
      show tSeq _ _ _ _ (upd H' p (.lst ([sg, t1, t2, wz].map V.str)))
      generalize [sg, t1, t2, wz] = ts at *
      generalize upd H' p (.lst (ts.map V.str)) = H6 at s9 D9 eW9 eF9 eS9
      refine ⟨.ref p, rfl, .int m3, rfl, .inl ⟨p, _, _, .str tw, rfl, rfl, SqL.of eS9, at3, .ref Fd, rfl, Fd, _, rfl, .inl (SqL.of eF9), rfl, flat_strs fs, _, rfl, ?_⟩⟩
      rw [if_pos rfl, inV_str]
      by_cases hin : tw ∈ fs
      · rw [decide_eq_true hin]
        refine ite2 (fun z => by cases z) fun _ => ⟨_, _, _, fs, rfl, s9, D9, eW9, eF9, hnd, hsh, by omega, fun _ z => (by rw [z] at hin; cases hin), fun h => ?_, fun h => h3 (Nat.le_of_not_lt fun hlt => ?_)⟩
        · exfalso
          rw [hel (by omega), htwe] at hin
          obtain ⟨j, hj, ej⟩ := List.mem_map.mp hin
          rw [List.mem_range] at hj
          have := elN_inj bs7 f0 (by omega) (by omega) ej
          omega
        · rw [hel (by omega), htwe] at hin
          obtain ⟨j, hj, ej⟩ := List.mem_map.mp hin
          rw [List.mem_range] at hj
          have := elN_inj bs7 f0 (by omega) (by omega) ej
          omega
      · rw [decide_eq_false hin]
        refine ite2 (fun _ => ?_) (fun z => absurd rfl z)
        refine ⟨.ref Fd, rfl, .inl ⟨rfl, _, SqL.of eF9⟩, .ref p, rfl, .int m3, rfl, .inl ⟨p, _, _, .str tw, rfl, rfl, SqL.of eS9, at3, Fd, _, _, rfl, rfl, eF9, ?_, ?_⟩⟩
        · rw [List.length_map]
          exact small16 (by omega)
        · refine ⟨_, _, _, fs ++ [tw], rfl, s9.own hFH, ?_, ?_, ?_, ?_, ?_, ?_, fun _ z => absurd z (by simp), fun h => ?_, fun h => ?_⟩
          · obtain ⟨cells, b, g1, g2, g3⟩ := D9.ex
            refine ⟨cells, b, ?_, ?_, g3⟩
            · rw [upd_ne (fun e => nF (by rw [← e]; simp))]; exact g1
            · rw [upd_ne (fun e => nF (by rw [← e]; simp))]; exact g2
          · rw [upd_ne nFW]; exact eW9
          · rw [upd_same, List.map_append]
            rfl
          · rw [List.nodup_append]
            refine ⟨hnd, by simp, fun a ha b hb e => ?_⟩
            rw [List.mem_singleton] at hb
            rw [e, hb] at ha
            exact hin ha
          · intro z hz
            rcases List.mem_append.mp hz with hz | hz
            · exact hsh z hz
            · rw [List.mem_singleton] at hz
              rw [hz]
              exact hsw
          · rw [List.length_append]
            show fs.length + 1 ≤ i + 1
            omega
          · rw [List.range_succ, List.map_append, ← hel (by omega), htwe]
            rfl
          · rw [List.length_append]
            show 3 ≤ fs.length + 1
            by_cases h2 : i = 2
            · have := hel (by omega)
              rw [this, List.length_map, List.length_range]
              omega
            · have := h3 (by omega)
              omega
    · rintro σ H' ⟨y5, y10, y11, fs, rfl, s8, D8, eW8, eF8, hnd, hsh, hle, hne, hel, h3⟩
      have hne' := hne (by decide)
      refine ⟨.ref Fd, rfl, .int many, rfl, many, rfl, Fd, fs.map V.str, rfl, SqL.of eF8, fun l hl => ?_⟩
      obtain ⟨m, rfl⟩ : ∃ m : Nat, many = (m : Int) := ⟨many.toNat, by omega⟩
      have hcut : cutV (fs.map V.str) none (some (m : Int)) = (fs.take m).map V.str := by
        unfold cutV
        rw [HT.sIx_none, HT.sIx_nat, List.drop_zero, Nat.sub_zero, List.map_take]
        by_cases h : m ≤ (fs.map V.str).length
        · rw [Nat.min_eq_left h]
        · rw [Nat.min_eq_right (by omega), List.take_of_length_le (Nat.le_refl _), List.take_of_length_le (by omega)]
      rw [hcut]
      have hsub : ∀ z ∈ fs.take m, z ∈ fs := fun z hz => List.mem_of_mem_take hz
      refine q l (fs.take m) _ (s8.new hl) (D8.keep (Sm.refl.new hl)) (s8.free hl (D8.outN hl)) upd_same ⟨?_, ?_, hnd.sublist (List.take_sublist _ _), fun z hz => hsh z (hsub z hz), fun hm => ?_⟩
      · intro z
        have := congrArg List.length z
        rw [List.length_take] at this
        have p : 0 < fs.length := List.length_pos_iff.mpr hne'
        simp only [List.length_nil] at this
        omega
      · rw [List.length_take]
        omega
      · rw [List.length_take]
        have := h3 (by decide)
        omega
end
end K92

/-! plain laws: bounds that say as much, an edge more, a row found step by step -/
namespace ZM
variable {α : Type} [DecidableEq α]
/-- what B' asks follows from B -/
def Dom (B B' : Br α) : Prop := ∀ t ∈ B', ∃ v, W B t.1 t.2.1 v ∧ v ≤ t.2.2
theorem Dom.walk {B B' : Br α} (d : Dom B B') {i j : α} {v : Int} (w : W B' i j v) : ∃ u, W B i j u ∧ u ≤ v := by
  induction w with
  | one q => exact d _ q
  | cat _ _ a b =>
    obtain ⟨u, h1, h2⟩ := a
    obtain ⟨x, h3, h4⟩ := b
    exact ⟨u + x, .cat h1 h3, by omega⟩
theorem Dom.neg {B B' : Br α} (d : Dom B B') (n : Neg B') : Neg B := by
  obtain ⟨i, v, w, hv⟩ := n
  obtain ⟨u, h1, h2⟩ := d.walk w
  exact ⟨i, u, h1, by omega⟩
theorem Dom.row {B B' : Br α} (d : Dom B B') {x : α → Int} (h : okR B x) : okR B' x := fun t ht => by
  obtain ⟨u, h1, h2⟩ := d t ht
  have := h1.row h
  omega
theorem Dom.sub {B B' : Br α} (h : ∀ t ∈ B', t ∈ B) : Dom B B' := fun t ht => ⟨t.2.2, .one (h t ht), Int.le_refl _⟩
theorem Dom.app {B B' C C' : Br α} (d : Dom B B') (e : Dom C C') : Dom (B ++ C) (B' ++ C') := fun t ht => by
  rcases List.mem_append.mp ht with h | h
  · obtain ⟨u, h1, h2⟩ := d t h
    exact ⟨u, h1.mono fun t q => .one (List.mem_append_left _ q), h2⟩
  · obtain ⟨u, h1, h2⟩ := e t h
    exact ⟨u, h1.mono fun t q => .one (List.mem_append_right _ q), h2⟩
theorem Dom.trans {A B C : Br α} (d : Dom A B) (e : Dom B C) : Dom A C := fun t ht => by
  obtain ⟨u, h1, h2⟩ := e t ht
  obtain ⟨x, h3, h4⟩ := d.walk h1
  exact ⟨x, h3, by omega⟩
theorem Dom.swap {A B : Br α} : Dom (A ++ B) (B ++ A) := .sub fun t ht => by
  rcases List.mem_append.mp ht with h | h
  · exact List.mem_append_right _ h
  · exact List.mem_append_left _ h
theorem ctab_off {ns : List α} {B : Br α} (h : Bok ns B) (i : α) : getT (ctab ns B) (i, i) = none := by
  cases q : getT (ctab ns B) (i, i) with
  | none => rfl
  | some v =>
    rcases ((ctab_inv h).dom _ _ _ q).2.2 with z | z
    · cases z
    · exact absurd rfl z
theorem dom_get {ns ns' : List α} {B B' : Br α} (hB : Bok ns B) (hB' : Bok ns' B') (hn : ¬ Neg B) (d : Dom B B') (e : Dom B' B) (i j : α) : getT (ctab ns B) (i, j) = getT (ctab ns' B') (i, j) := by
  have hn' : ¬ Neg B' := fun n => hn (d.neg n)
  have c := ctab_cl hB (neg_false (negP_iff hB) hn)
  have c' := ctab_cl hB' (neg_false (negP_iff hB') hn')
  by_cases q : i = j
  · subst q
    rw [ctab_off hB, ctab_off hB']
  · have go : ∀ {ns ns' : List α} {B B' : Br α}, Bok ns B → Bok ns' B' → Cl B' (ctab ns' B') → Dom B' B → ∀ {v}, getT (ctab ns B) (i, j) = some v → ∃ u, getT (ctab ns' B') (i, j) = some u ∧ u ≤ v := fun {ns ns' B B'} h h' c' e {v} ev => by
      obtain ⟨u, w, hu⟩ := e.walk (ctab_snd h i j v q ev)
      obtain ⟨x, ex, hx⟩ := (c'.walk h'.ne w).1 q
      exact ⟨x, ex, by omega⟩
    cases e1 : getT (ctab ns B) (i, j) with
    | some v =>
      obtain ⟨u, e2, hu⟩ := go hB hB' c' e e1
      obtain ⟨x, e3, hx⟩ := go hB' hB c d e2
      rw [e1] at e3
      cases e3
      rw [e2, Int.le_antisymm hx hu]
    | none =>
      cases e2 : getT (ctab ns' B') (i, j) with
      | none => rfl
      | some u =>
        obtain ⟨x, e3, _⟩ := go hB' hB c d e2
        rw [e1] at e3
        cases e3
theorem dom_perm {ns ns' : List α} {B B' : Br α} (hB : Bok ns B) (hB' : Bok ns' B') (hn : ¬ Neg B) (d : Dom B B') (e : Dom B' B) : (trs (ctab ns B)).Perm (trs (ctab ns' B')) :=
  perm_trs (ctab_inv hB).nod (ctab_inv hB').nod (dom_get hB hB' hn d e)
/-- one edge more: a walk goes without it, or once over it -/
theorem edge_walk {B : Br α} {i o : α} {k : Int} (h : ∀ u, Z B o i u → 0 ≤ u + k) {a b : α} {w : Int} (x : W (B ++ [(i, o, k)]) a b w) : (∃ u, Z B a b u ∧ u ≤ w) ∨ ∃ p q, Z B a i p ∧ Z B o b q ∧ p + k + q ≤ w := by
  induction x with
  | one t =>
    rcases List.mem_append.mp t with t | t
    · exact .inl ⟨_, .edge t, Int.le_refl _⟩
    · rw [List.mem_singleton] at t
      cases t
      exact .inr ⟨0, 0, .inl ⟨rfl, rfl⟩, .inl ⟨rfl, rfl⟩, by omega⟩
  | cat _ _ r s =>
    rcases r with ⟨u, r1, r2⟩ | ⟨p, q, r1, r2, r3⟩
    · rcases s with ⟨u', s1, s2⟩ | ⟨p', q', s1, s2, s3⟩
      · exact .inl ⟨_, r1.cat s1, by omega⟩
      · exact .inr ⟨_, _, r1.cat s1, s2, by omega⟩
    · rcases s with ⟨u', s1, s2⟩ | ⟨p', q', s1, s2, s3⟩
      · exact .inr ⟨_, _, r1, r2.cat s1, by omega⟩
      · have := h _ (r2.cat s1)
        exact .inr ⟨_, _, r1, s2, by omega⟩
theorem edge_neg {B : Br α} {i o : α} {k : Int} (n : ¬ Neg B) (h : ∀ u, Z B o i u → 0 ≤ u + k) : ¬ Neg (B ++ [(i, o, k)]) := fun ⟨a, w, x, hw⟩ => by
  rcases edge_walk h x with ⟨u, r1, r2⟩ | ⟨p, q, r1, r2, r3⟩
  · have := r1.self n
    omega
  · have := h _ (r2.cat r1)
    omega
/-- what is put for a column -/
def valF (low high : Option Int) : Int := match low, high with
  | some l, _ => 0 - l
  | none, some h => h
  | none, none => 0
theorem Cl.z {B : Br α} {f : Tb α} (c : Cl B f) (hB : ∀ t ∈ B, t.1 ≠ t.2.1) {i j : α} (n : i ≠ j) {v : Int} (z : Z B i j v) : ∃ u, getT f (i, j) = some u ∧ u ≤ v := by
  rcases z with ⟨e, _⟩ | w
  · exact absurd e n
  · exact (c.walk hB w).1 n
theorem fix_neg {ns : List α} {B : Br α} (hB : Bok ns B) (n : ¬ Neg B) {c o : α} (ne : c ≠ o) {v : Int} (hv : v = valF (getT (ctab ns B) (o, c)) (getT (ctab ns B) (c, o))) : ¬ Neg (B ++ [(c, o, v), (o, c, 0 - v)]) := by
  have cl := ctab_cl hB (neg_false (negP_iff hB) n)
  have s1 : ∀ u, Z B o c u → 0 ≤ u + v := fun u z => by
    obtain ⟨l, e, hl⟩ := cl.z hB.ne (Ne.symm ne) z
    rw [e] at hv
    have : v = 0 - l := hv
    omega
  have n1 := edge_neg n s1
  have s2 : ∀ u, Z (B ++ [(c, o, v)]) c o u → 0 ≤ u + (0 - v) := fun u z => by
    have fin : ∀ u', Z B c o u' → v ≤ u' := fun u' z' => by
      obtain ⟨h, e, hh⟩ := cl.z hB.ne ne z'
      cases e2 : getT (ctab ns B) (o, c) with
      | some l =>
        rw [e2] at hv
        have q : v = 0 - l := hv
        have := cl.nc o c l h e2 e
        omega
      | none =>
        rw [e2, e] at hv
        have q : v = h := hv
        omega
    rcases z with ⟨e, _⟩ | w
    · exact absurd e ne
    · rcases edge_walk s1 w with ⟨u', r1, r2⟩ | ⟨p, q, r1, r2, r3⟩
      · have := fin _ r1
        omega
      · have := r1.self n
        have := r2.self n
        omega
  have := edge_neg n1 s2
  rwa [List.append_assoc] at this
/-- a row whose values are fixed keeps the bounds -/
theorem fixed_row {B : Br α} {o : α} {x : α → Int} (n : ¬ Neg B) (x0 : x o = 0) {A : Br α} (hA : ∀ t ∈ A, t ∈ B ∧ (t.1 = o ∨ ((t.1, o, x t.1) ∈ B ∧ (o, t.1, 0 - x t.1) ∈ B)) ∧ (t.2.1 = o ∨ ((t.2.1, o, x t.2.1) ∈ B ∧ (o, t.2.1, 0 - x t.2.1) ∈ B))) : okR A x := fun t ht => by
  obtain ⟨h1, h2, h3⟩ := hA t ht
  obtain ⟨i, j, k⟩ := t
  simp only at h2 h3 ⊢
  have z2 : Z B o i (0 - x i) := by
    rcases h2 with e | e
    · exact .inl ⟨e.symm, by rw [e, x0]; rfl⟩
    · exact .edge e.2
  have z3 : Z B j o (x j) := by
    rcases h3 with e | e
    · exact .inl ⟨e, by rw [e, x0]⟩
    · exact .edge e.1
  have := (((Z.edge h1).cat z3).cat z2).self n
  omega
end ZM

/-! {k: v for ..} whose keys are tuples -/
namespace K92
open PySem PySem.Spec PyProof.Rows L2
/-- an entry is put by a comprehension, the key a tuple -/
theorem put_in {X : Cx} {pins : List (Addr × Obj)} {σ : L2.St} {H : Hp} {s : Shared} {E : Value → Shared → Prop} {d b : Addr} {M : List (List Key × V)} {k : List Key} {v : V} {r : Value} {Q : Unit → Shared → Prop} (room : X.A.units < cLine) (I : Inv X pins σ H s)
    (hd : H d = some (.dT M)) (hb : H b = some (.tup (k.map kV))) (few : M.length < sizeLine) (rv : RelV v r) (go : ∀ s', Inv X pins σ (upd H d (.dT (putK M k v))) s' → Q () s') : wpAny (model X.prog X.w) X.A (dictSet d (.ref b) r) Q E s := by
  obtain ⟨z, sm, xs, rel, at_⟩ := dt_of I.hok hd
  refine wpAny_dictSet_heap (knd := tupleKind (mixKind X.prog X.w)) (hsz := by rw [← Paired.length rel]; exact z) room (key_of I.hok hb) at_ fun g new but => go _ ?_
  obtain ⟨o, es, ep, e1, e2, e3, e4, _, e5⟩ := new
  refine d_write I (by rw [hd]; exact True.intro) but ⟨o, e1⟩ ⟨by have := length_putK M k v; omega, sm, _, (rel.put k hb rv).keeps fun c ys ec => ?_, o, es, ep, e1, e2, e3, e4, e5⟩
  rw [upd_ne (ne_of ec hd (by intro w; cases w))]
  exact ec
/-- what a turn of the comprehension asks once its item stands: the tests, the key, the value, and the entry put -/
def turnT (d : Addr) (tt : TT) (tk tv : TE) (σ : L2.St) (H : Hp) (Nx : Hp → Prop) : Prop := tt σ H fun b H3 => if b = true then tk σ H3 fun y H4 => tv σ H4 fun z H5 => ∃ (M : List (List Key × V)) (k : List Key) (p : Addr), y = .ref p ∧ H5 d = some (.dT M) ∧ H5 p = some (.tup (k.map kV)) ∧ M.length < sizeLine ∧ Nx (upd H5 d (.dT (putK M k z))) else Nx H3
def tDcT (wi : TI) (g : TG) (tt : TT) (tk tv : TE) (vs : List Nat) : TE := fun σ H Q => wi σ H fun J H1 => ∀ d, H1 d = none → ∃ W : Nat → Nat → Hp → Prop, (∃ m, W 0 m (upd H1 d (.dT []))) ∧ ∀ i m H, W i m H →
  (J.stop i H ∧ Q (.ref d) H) ∨ (J.go i H ∧ ∃ Nx : Hp → Prop, (∀ H', Nx H' → ∃ m', m' < m ∧ W (i + 1) m' H') ∧ ∀ x H', J.yld i H x H' → g x (wipe σ vs) H' fun σ2 H2 => wipe σ2 vs = wipe σ vs ∧ turnT d tt tk tv σ2 H2 Nx)
section
variable {X : Cx}
theorem pe_dcT {kx vx tg iter : Expr} {ifs : List Expr} {scope : Scope} {own : List (Str × Nat)} {pos : Pos} {wi : TI} {g : TG} {tt : TT} {tk tv : TE} (room : X.A.units < cLine) (hc : X.calm = true) (hN : X.N.Nodup) (hi : PI X tg iter wi) (ok : BlkOk X.N X.env.scope scope own)
    (hg : ∀ s H C cl fp, PG (X.blk s H scope (compEnvC scope cl C X.env) fp) tg g) (ht : ∀ s H C cl fp, PTs (X.blk s H scope (compEnvC scope cl C X.env) fp) ifs tt)
    (hk : ∀ s H C cl fp, PE (X.blk s H scope (compEnvC scope cl C X.env) fp) kx tk) (he : ∀ s H C cl fp, PE (X.blk s H scope (compEnvC scope cl C X.env) fp) vx tv) (hs : ∀ x, foldedSetIterable iter X.env x = pure x := by intro _; rfl) :
    PE X (.DictComp kx vx [⟨tg, iter, ifs, 0⟩] scope pos) (tDcT wi g tt tk tv (own.map (·.2))) := by
  refine ⟨fun pins s σ H Q I ask => ?_⟩
  rw [arm_eval_DictComp]
  have free : ∀ y ∈ scope.names, y.2 = .free → ∃ c, X.env.cells.lookup y.1 = some c := fun y hy e => I.ok.has _ (ok.free y hy e)
  refine wpAny_comprehension_free (use := none) rfl hs (closure_ok free) ok.kind (fun y hy e => by rw [ok.uniq y hy, e]) (thn (hi.run pins s σ H _ I ask) fun xv s1 hx => thn hx fun itv s2 got => ?_)
  obtain ⟨it, fp, tn, J, H2, rfl, I2, T, now, far, q⟩ := got
  refine wpAny_newObj_type (newEnv_comp ?_)
  obtain ⟨W, ⟨m0, w0⟩, turn⟩ := q s2.heap.objs.size (I2.hok.fresh (Nat.le_refl _))
  generalize ed : s2.heap.objs.size = d at w0 turn ⊢
  generalize eb : ({ s2 with heap := s2.heap.push { cls := .type "dict", data := .dict #[] } } : Shared) = b3
  have hb3 : b3.heap = s2.heap.push { cls := .type "dict", data := .dict #[] } := by rw [← eb]
  have I3 : Inv X pins σ (upd H2 d (.dT [])) b3 := by
    rw [← eb]
    exact I2.laid (t' := s2.toks) (fun b o e => Heap.get?_push_of_some _ e) (Nat.le_of_eq ed) (by rw [← ed]; exact dt_empty s2.heap I2.big)
  have there : ∀ b ∈ fp, FpOk X pins (upd H2 d (.dT [])) b ∧ b < b3.heap.objs.size := fun b hb => by
    obtain ⟨o, e, _⟩ := T.obj _ _ now b hb
    have lt := Heap.lt_size e
    refine ⟨⟨?_, (far b hb).2⟩, by rw [hb3, Heap.size_push]; exact Nat.lt_succ_of_lt lt⟩
    rw [upd_ne (by rw [← ed]; exact Nat.ne_of_lt lt)]
    exact (far b hb).1
  have now3 : tn 0 b3.heap := T.keep _ _ _ now fun b _ o e => by rw [hb3]; exact Heap.get?_push_of_some _ e
  have I4 := block_start I3 ok hN there
  generalize eH : upd H2 d (.dT []) = H3 at w0 I3 I4 there
  have bare : ∀ b ∈ fp, H3 b = none := fun b hb => (there b hb).1.1
  generalize ecl : cellsFrom (b3.heap.objs.size + 1) scope.names (cloFrom X.env.cells scope.names []) = cl at I4 ⊢
  have pg := hg b3 H3 b3.heap.objs.size cl fp
  have pt := ht b3 H3 b3.heap.objs.size cl fp
  have pk := hk b3 H3 b3.heap.objs.size cl fp
  have pv := he b3 H3 b3.heap.objs.size cl fp
  show codeAny _ _ (.compStart (.DictComp kx vx [⟨tg, iter, ifs, 0⟩] scope pos) 0 (.ref it) (.ref d) (compEnvC scope cl b3.heap.objs.size X.env)) (compPost (model X.prog X.w) X.A X.xe none (EP X pins σ Q) (.ref d) b3.heap.objs.size) { b3 with heap := pushCells (b3.heap.push { cls := .type "dict", data := .dict #[] }) scope.names }
  generalize ece : compEnvC scope cl b3.heap.objs.size X.env = ce at I4 pg pt pk pv ⊢
  have cL : ce.locals = b3.heap.objs.size := by subst ece; rfl
  generalize e4 : ({ b3 with heap := pushCells (b3.heap.push { cls := .type "dict", data := .dict #[] }) scope.names } : Shared) = b4 at I4 ⊢
  have now4 : tn 0 b4.heap := T.keep _ _ _ now3 fun b _ o e => by rw [← e4]; exact pushCells_keeps _ _ _ _ (Heap.get?_push_of_some _ e)
  have pinned : ∀ {σ' : L2.St} {H' : Hp} {s' : Shared}, Inv (X.blk b3 H3 scope ce fp) [] σ' H' s' → (∀ b ∈ fp, H' b = none) → ∀ b ∈ fp, FpOk (X.blk b3 H3 scope ce fp) [] H' b := fun {σ' H' s'} I' hn b hb =>
    ⟨hn b hb, (I'.ok.exf b hb).1, I'.ok.exfs b hb, .inl hb, fun x c e => (I'.ok.exf b hb).2 x c e, fun p hp => absurd (show p ∈ ([] : List (Addr × Obj)) ++ [] from hp) (by simp)⟩
  have loop : codeAny (model X.prog X.w) X.A (.compLoop (.DictComp kx vx [⟨tg, iter, ifs, 0⟩] scope pos) 0 (.ref it) (.ref d) ce) (compPost (model X.prog X.w) X.A X.xe none (EP X pins σ Q) (.ref d) b3.heap.objs.size) b4 := by
    refine compLoop_anyD (fun n s' => ∃ i H', Inv (X.blk b3 H3 scope ce fp) [] (wipe σ (own.map (·.2))) H' s' ∧ tn i s'.heap ∧ (∀ b ∈ fp, H' b = none) ∧ W i n H') ?_ m0 ⟨0, H3, I4, now4, bare, w0⟩
    rintro n s5 ⟨i, H5, I5, st5, n5, w5⟩
    rcases turn i n H5 w5 with ⟨stop, qq⟩ | ⟨goes, Nx, hNx, step⟩
    · refine thnF (T.done (X.blk b3 H3 scope ce fp) rfl rfl rfl hc i [] s5 _ H5 (fun _ _ => False) I5 (pinned I5 n5) st5 stop) fun r s6 ⟨hr, I6⟩ => ?_
      subst hr
      have I7 : Inv X pins σ H5 s6 := I3.call' (ch := fp) I6.os I6.base I6.hok I6.bare fun b hb => ⟨(there b hb).1.2.2.2.1, (there b hb).1.2.1, (there b hb).1.2.2.2.2.1, (there b hb).1.2.2.2.2.2⟩
      have gone : H5 b3.heap.objs.size = none := by
        rw [← cL]
        exact I6.free
      obtain ⟨m, names, _⟩ := I6.loc
      obtain ⟨f0, f1, f2, f3, f4, f5⟩ := I3.fpOk (Nat.le_refl _) gone
      exact ⟨m, by rw [← cL]; exact names, fun h'' sb => ⟨.ref d, H5, I7.turned (t' := s6.toks) (fun b o hb e => (sb.2 b hb).trans e) f0 f1 f3 f4 f5, rfl, qq⟩⟩
    · refine thnF (T.item (X.blk b3 H3 scope ce fp) rfl rfl rfl hc i [] s5 _ H5 (fun _ _ => False) I5 (pinned I5 n5) st5 goes) fun r s6 ⟨u, hr, h6⟩ => ?_
      subst hr
      refine thnF h6 fun _ s7 ⟨x, H7, I7, r7, y7, st7, n7⟩ => ?_
      refine thnF (pg.run _ s7 _ H7 x u _ (I7.pinned (pinned I7 n7) (T.obj _ _ st7)) r7 (step x H7 y7)) fun _ s8 ⟨σ8, H8, I8, same, q8⟩ => ?_
      refine thnF (pt.run _ s8 σ8 H8 _ I8 q8) fun b s9 ⟨H9, I9, q9⟩ => ?_
      have last : ∀ {s' : Shared} {H' : Hp}, Inv (X.blk b3 H3 scope ce fp) ([] ++ pinsAt fp s7.heap) σ8 H' s' → Nx H' → ∃ m, m < n ∧ ∃ i H', Inv (X.blk b3 H3 scope ce fp) [] (wipe σ (own.map (·.2))) H' s' ∧ tn i s'.heap ∧ (∀ b ∈ fp, H' b = none) ∧ W i m H' := fun {s' H'} I' nx => by
        obtain ⟨m', less, w'⟩ := hNx H' nx
        have still : ∀ b ∈ fp, ∀ o, s7.heap.get? b = some o → s'.heap.get? b = some o ∧ H' b = none := fun b hb o e => by
          have z := I'.pin (b, o) (List.mem_append_right _ (List.mem_append_right _ (mem_pinsAt hb e)))
          exact ⟨z.1, z.2.1⟩
        refine ⟨m', less, i + 1, H', (I'.unpinned (pins := [])).weak (by rw [← same, wipe_length]) (fun j v e => ?_), T.keep _ _ _ st7 fun b hb o e => (still b hb o e).1, fun b hb => ?_, w'⟩
        · rw [← same] at e
          exact (wipe_some e).1
        · obtain ⟨o, e, _⟩ := T.obj _ _ st7 b hb
          exact (still b hb o e).2
      cases b with
      | false => exact last I9 q9
      | true =>
        refine thnF (pk.run _ s9 σ8 H9 _ I9 q9) fun kv s10 ⟨yk, H10, I10, r10, q10⟩ => ?_
        refine thnF (pv.run _ s10 σ8 H10 _ I10 q10) fun vv s11 ⟨yv, H11, I11, r11, M, k, p, ek, hd, hp, few, nx⟩ => ?_
        subst ek
        cases (show kv = Value.ref p from r10)
        exact put_in (X := X.blk b3 H3 scope ce fp) room I11 hd hp few r11 fun s12 I12 => last I12 nx
  exact codeAny_compStart_dict loop (T.self X.A 0 _ _ _ now4 loop)
end
end K92

namespace K92
open PySem PySem.Spec PyProof.Rows L2
open ZM (getT putT)
/-- a walk that stands for the comprehension's turns -/
theorem dct_it {J : It} {n : Nat} {G : Hp → Prop} {Y : Nat → Hp → V → Hp → Prop} (wk : Walk J n G Y) {g : TG} {tt : TT} {tk tv : TE} {vs : List Nat} {σ : L2.St} {H1 : Hp} {d : Addr} {R : Hp → Prop} (Pv : Nat → Hp → Prop) (first : Pv 0 (upd H1 d (.dT []))) (hG : ∀ i H, i ≤ n → Pv i H → G H)
    (turn : ∀ i x H H', i < n → Pv i H → Y i H x H' → g x (wipe σ vs) H' fun σ2 H2 => wipe σ2 vs = wipe σ vs ∧ turnT d tt tk tv σ2 H2 (Pv (i + 1))) (last : ∀ H, Pv n H → R H) :
    ∃ W : Nat → Nat → Hp → Prop, (∃ m, W 0 m (upd H1 d (.dT []))) ∧ ∀ i m H, W i m H →
      (J.stop i H ∧ R H) ∨ (J.go i H ∧ ∃ Nx : Hp → Prop, (∀ H', Nx H' → ∃ m', m' < m ∧ W (i + 1) m' H') ∧ ∀ x H', J.yld i H x H' → g x (wipe σ vs) H' fun σ2 H2 => wipe σ2 vs = wipe σ vs ∧ turnT d tt tk tv σ2 H2 Nx) := by
  refine ⟨fun i m H => m + i = n ∧ Pv i H, ⟨n, rfl, first⟩, ?_⟩
  rintro i m H ⟨sum, p⟩
  cases m with
  | zero =>
    have e : i = n := by omega
    subst e
    exact .inl ⟨wk.stops H (hG i H (Nat.le_refl _) p), last H p⟩
  | succ m =>
    have lt : i < n := by omega
    have st := hG i H (Nat.le_of_lt lt) p
    exact .inr ⟨wk.goes i H lt st, Pv (i + 1), fun H' p' => ⟨m, Nat.lt_succ_self m, by omega, p'⟩, fun x H' y => turn i x H H' lt p (wk.yields i H x H' lt st y)⟩
/-- the triples as a table -/
def tabL (B : List Tr) : Tb := B.foldl (fun M t => putT M (t.1, t.2.1) t.2.2) []
theorem putT_len (M : Tb) (p : Pk) (v : Int) : (putT M p v).length ≤ M.length + 1 := by
  unfold putT
  split
  · rw [List.length_map]
    omega
  · rw [List.length_append]
    exact Nat.le_refl _
theorem tabL_len (B : List Tr) : (tabL B).length ≤ B.length := by
  have go : ∀ (B : List Tr) (M : Tb), (B.foldl (fun M t => putT M (t.1, t.2.1) t.2.2) M).length ≤ M.length + B.length := by
    intro B
    induction B with
    | nil => intro M; exact Nat.le_refl _
    | cons t B ih =>
      intro M
      have h1 := ih (putT M (t.1, t.2.1) t.2.2)
      have h2 := putT_len M (t.1, t.2.1) t.2.2
      rw [List.foldl_cons, List.length_cons]
      omega
  have h := go B []
  rw [List.length_nil, Nat.zero_add] at h
  exact h
theorem tabL_app (B : List Tr) (t : Tr) : tabL (B ++ [t]) = putT (tabL B) (t.1, t.2.1) t.2.2 := by
  unfold tabL
  rw [List.foldl_append]
  rfl
abbrev gTri (K : PySem.W.Frag) : TG := gTup K 3 (gCons (gName 4) (gCons (gName 5) (gCons (gName 6) gNil)))
abbrev tThere (K : PySem.W.Frag) (n : Nat) : TE := tDcT (iTup K (tVar n)) (gTri K) tYes (tTup (tCons (tVar 4) (tCons (tVar 5) tNil))) (tVar 6) [4, 5, 6]
theorem there_rd {K : PySem.W.Frag} {x0 x1 : V} {y2 y3 y4 y5 y6 : Option V} {n : Nat} {H : Hp} {b : Addr} {B : List Tr} {R : VK} (hn : ([some x0, some x1, y2, y3, y4, y5, y6] : L2.St)[n]? = some (some (.ref b))) (hB : Bds H b B) (few : B.length ≤ 16)
    (q : ∀ d H2, Sm [] H H2 → H d = none → TabAt H2 d (tabL B) → R (.ref d) H2) : tThere K n [some x0, some x1, y2, y3, y4, y5, y6] H R := by
  obtain ⟨xs, hb, hxs⟩ := hB
  refine ⟨.ref b, hn, b, rfl, ⟨xs, SqT.of hb⟩, fun d hd => ?_⟩
  refine dct_it (walk_tup (xs := xs)) (fun i H' => Sm [] H H' ∧ TabAt H' d (tabL (B.take i))) ⟨Sm.refl.new hd, upd_same⟩ ?_ ?_ ?_
  · rintro i H' _ ⟨s, _⟩
    exact SqT.of (s.keep hb)
  · rintro i x H3 H4 hi ⟨s, t⟩ ⟨rfl, hx⟩
    obtain ⟨tr, ht, p, rfl, hp⟩ := hxs.get hx
    refine ⟨p, _, rfl, SqT.of (s.keep hp), rfl, _, _, rfl, _, _, rfl, _, _, rfl, rfl, rfl, ?_⟩
    refine ⟨.str tr.1, rfl, .str tr.2.1, rfl, (by show 2 ≤ sizeLine; decide), fun c hc => ?_⟩
    have s5 := s.new (o := .tup [.str tr.1, .str tr.2.1]) hc
    have t5 : TabAt (upd H4 c (.tup [.str tr.1, .str tr.2.1])) d (tabL (B.take i)) := by
      show upd H4 c _ d = _
      rw [upd_ne (ne_of_none t hc)]
      exact t
    have c5 : (upd H4 c (.tup [.str tr.1, .str tr.2.1])) c = some (.tup [.str tr.1, .str tr.2.1]) := upd_same
    generalize upd H4 c (.tup [.str tr.1, .str tr.2.1]) = H5 at s5 t5 c5
    refine ⟨.int tr.2.2, rfl, dTb (tabL (B.take i)), encP (tr.1, tr.2.1), c, rfl, t5, c5, ?_, ?_⟩
    · rw [dTb_len]
      refine small16 ?_
      have := tabL_len (B.take i)
      rw [List.length_take] at this
      omega
    · refine ⟨s5.own hd, ?_⟩
      rw [dTb_put, List.take_add_one, ht, Option.toList_some, tabL_app]
      exact upd_same
  · rintro H' ⟨s, t⟩
    rw [hxs.len, List.take_length] at t
    exact q d H' s hd t

abbrev sJn : Stmt := topS 29
abbrev nJn : List Str := ["zone", "other", "there", "found", "one", "two", "k"]
theorem scJn : FnScope ["zone", "other", "there", "found", "one", "two", "k"] ["zone", "other"] (defScope sJn) := ⟨rfl, rfl, rfl, by decide +kernel, rfl, by decide +kernel, by decide +kernel⟩
section
variable {P : Program} {w : World} {K : PySem.W.Frag} {mg : Str → Option Value} {base : Heap}
/-- the greater ones of what both have -/
def joinL (Z Y : List Tr) : List Tr := Z.filterMap fun t => (getT (tabL Y) (t.1, t.2.1)).map fun u => (t.1, t.2.1, max t.2.2 u)
def joinO : Option (List Tr) → Option (List Tr) → Option (List Tr)
  | none, o => o
  | some Z, none => some Z
  | some Z, some Y => some (sortT (joinL Z Y))
def few (o : Option (List Tr)) : Prop := ∀ Z, o = some Z → Z.length ≤ 16
def spJn : Sp := fun vs H Q _ => ∃ (x y : V) (o p : Option (List Tr)), vs = [x, y] ∧ BdsO H x o ∧ BdsO H y p ∧ few o ∧ few p ∧ ∀ v H', Sm [] H H' → BdsO H' v (joinO o p) → Q v H'
theorem max_if (k v : Int) : (if v > k then v else k) = max k v := by
  by_cases h : v > k
  · rw [if_pos h]; omega
  · rw [if_neg h]; omega
theorem ok_jn {f : Addr} {fd : FuncData} (F : Fun K "joined" "joined" sJn f fd) (B : Bn mg) : FnOk P w K mg base CX0 1 f fd ["zone", "other"] spJn := by
  refine F.ok scJn (fun vs H Q E h => ?_) (fun cdv A outer s H vs Q E hr h => ?_)
  · obtain ⟨x, y, o, p, rfl, _⟩ := h
    rfl
  · obtain ⟨x, y, o, p, rfl, ho, hp, fo, fp, q⟩ := h
    have nd := scJn.nd
    have hu := hu_of hr
    refine ⟨_, pss_cons (ps_if (PW.pt (pw_or (pt_cmpR op_isN (pv 0) pe_non (nomark _)) (pw_or1 (pt_cmpR op_isN (pv 1) pe_non (nomark _))))) (pss_one (ps_ret (pe_ifExp (pt_cmpR op_isN (pv 0) pe_non (nomark _)) (pv 1) (pv 0)))) pss_nil)
      (pss_cons (ps_set (i := 2) nd rfl (.inr rfl) (pe_dcT (own := [("one", 4), ("two", 5), ("k", 6)]) (g := gTri K) (tt := tYes) (tk := tTup (tCons (tVar 4) (tCons (tVar 5) tNil))) (tv := tVar 6) (by have := un8_of hr; exact Nat.lt_of_le_of_lt (Nat.le_add_right _ 8) this) rfl nd (pi_tup (pv 1)) (blkOk_by (N := nJn) (sc := defScope sJn) (by decide +kernel))
          (fun _ _ _ _ _ => pg_tup rfl (pgs_cons (pg_name (i := 4) nd rfl (.inl rfl)) (pgs_cons (pg_name (i := 5) nd rfl (.inl rfl)) (pgs_cons (pg_name (i := 6) nd rfl (.inl rfl)) pgs_nil))))
          (fun _ _ _ _ _ => pts_nil) (fun _ _ _ _ _ => pe_tup (pa_cons (pv 4) (pa_cons (pv 5) pa_nil))) (fun _ _ _ _ _ => pv 6)))
      (pss_cons (ps_setLc (i := 3) (own := [("one", 4), ("two", 5), ("k", 6)]) (g := gTri K) (tt := tB (tDIn (tTup (tCons (tVar 4) (tCons (tVar 5) tNil))) (tVar 2)))
          (te := tTup (tCons (tVar 4) (tCons (tVar 5) (tCons (tCB (fun xs H Q => ∃ i j, xs = [.int i, .int j] ∧ Q (.int (if j > i then j else i)) H) (tCons (tVar 6) (tCons (tDGet (tVar 2) (tTup (tCons (tVar 4) (tCons (tVar 5) tNil)))) tNil))) tNil)))) rfl nd rfl rfl (sw_true rfl rfl rfl rfl) (pi_tup (pv 0)) (blkOk_by (N := nJn) (sc := defScope sJn) (by decide +kernel))
          (fun _ _ _ _ _ => pg_tup rfl (pgs_cons (pg_name (i := 4) nd rfl (.inl rfl)) (pgs_cons (pg_name (i := 5) nd rfl (.inl rfl)) (pgs_cons (pg_name (i := 6) nd rfl (.inl rfl)) pgs_nil))))
          (fun _ _ _ _ _ => pts_one (pt_cmp (pc_din hu (pe_tup (pa_cons (pv 4) (pa_cons (pv 5) pa_nil))) (pv 2))))
          (fun _ _ _ _ _ => pe_tup (pa_cons (pv 4) (pa_cons (pv 5) (pa_cons (pe_callB (call_max2 rfl) (by rfl) B.max boot_max (pa_cons (pv 6) (pa_cons (pe_dget hu (pv 2) (pe_tup (pa_cons (pv 4) (pa_cons (pv 5) pa_nil))) (fun _ _ => rfl)) pa_nil))) pa_nil)))))
      (pss_one (ps_ret (pe_callTy call_tuple_of (by rfl) B.tuple boot_tuple (pa_cons (pe_callB (cr_sortT (un8_of hr)) (by rfl) B.sorted boot_sorted (pa_cons (pv 3) pa_nil)) pa_nil)))))), ?_⟩
    rcases ho with ⟨rfl, rfl⟩ | ⟨Z, a, rfl, rfl, hZ⟩
    · refine ⟨.non, rfl, rfl, _, rfl, ite2 (fun _ => ite2 (fun _ => ?_) fun z => absurd rfl z) fun z => absurd rfl z⟩
      exact ⟨.non, rfl, rfl, _, rfl, ite2 (fun _ => ⟨y, rfl, q y H Sm.refl hp⟩) fun z => absurd rfl z⟩
    · refine ⟨.ref a, rfl, rfl, _, rfl, ite2 (fun z => by simp at z) fun _ => ?_⟩
      rcases hp with ⟨rfl, rfl⟩ | ⟨Y, b, rfl, rfl, hY⟩
      · refine ⟨.non, rfl, rfl, _, rfl, ite2 (fun _ => ?_) fun z => absurd rfl z⟩
        exact ⟨.ref a, rfl, rfl, _, rfl, ite2 (fun z => by simp at z) fun _ => ⟨.ref a, rfl, q _ H Sm.refl (.inr ⟨Z, a, rfl, rfl, hZ⟩)⟩⟩
      · refine ⟨.ref b, rfl, rfl, _, rfl, ite2 (fun z => by simp at z) fun _ => ?_⟩
        refine next_in ?_
        dsimp only
        refine seq_in (asg_in ?_)
        refine there_rd (n := 1) rfl hY (fp _ rfl) fun d H1 s1 d0 t1 => ?_
        obtain ⟨xs, ha, hxs⟩ := hZ
        have ha1 := s1.keep ha
        have hz16 : Z.length ≤ 16 := fo _ rfl
        refine ⟨.ref a, rfl, a, rfl, ⟨xs, SqT.of ha1⟩, fun D hD => ?_⟩
        have hDd : d ≠ D := fun e => by rw [← e, t1] at hD; cases hD
        refine lc_it (walk_tup (xs := xs)) (fun i H' => ∃ acc, H' D = some (.lst acc) ∧ Sm [] H1 H' ∧ TrAll H' acc (joinL (Z.take i) Y) ∧ acc.length ≤ i) ⟨[], upd_same, Sm.refl.new hD, .nil, Nat.le_refl _⟩ ?_ ?_ ?_
        · rintro i H' _ ⟨acc, h1, h2, h3, h4⟩
          exact SqT.of (h2.keep ha1)
        · rintro i x H3 H4 hi ⟨acc, h1, h2, h3, h4⟩ ⟨rfl, hx⟩
          obtain ⟨t, ht, p, rfl, hp⟩ := hxs.get hx
          have t4 : TabAt H4 d (tabL Y) := h2.keep t1
          have step : joinL (Z.take (i + 1)) Y = joinL (Z.take i) Y ++ ((getT (tabL Y) (t.1, t.2.1)).map fun u => (t.1, t.2.1, max t.2.2 u)).toList := by
            unfold joinL
            rw [List.take_add_one, ht, Option.toList_some, List.filterMap_append]
            congr 1
            all_goals cases getT (tabL Y) (t.1, t.2.1) <;> rfl
          refine ⟨p, _, rfl, SqT.of (h2.keep (s1.keep hp)), rfl, _, _, rfl, _, _, rfl, _, _, rfl, rfl, rfl, ?_⟩
          refine b_in (in_rd t4 rfl rfl rfl fun c H5 hc e5 => ⟨_, rfl, ?_⟩)
          have s5 : Sm [] H4 H5 := by rw [e5]; exact Sm.refl.new hc
          have D5 : H5 D = some (.lst acc) := s5.keep h1
          have t5 : TabAt H5 d (tabL Y) := s5.keep t4
          cases g : getT (tabL Y) (t.1, t.2.1) with
          | none =>
            rw [g] at step
            refine ite2 (fun z => by cases z) fun _ => ⟨acc, D5, h2.trans s5, ?_, by omega⟩
            rw [step]
            show TrAll H5 acc (_ ++ [])
            rw [List.append_nil]
            exact h3.kp s5.kp
          | some u =>
            rw [g] at step
            refine ite2 (fun _ => ?_) fun z => absurd rfl z
            refine ⟨.str t.1, rfl, .str t.2.1, rfl, .int t.2.2, rfl, ?_⟩
            refine get_rd t5 rfl rfl rfl g fun c2 H6 hc2 e6 => ⟨t.2.2, u, rfl, ?_⟩
            rw [max_if]
            have s6 : Sm [] H5 H6 := by rw [e6]; exact Sm.refl.new hc2
            refine ⟨(by show 3 ≤ sizeLine; decide), fun r hr2 => ?_⟩
            have D7 : (upd H6 r (.tup [.str t.1, .str t.2.1, .int (max t.2.2 u)])) D = some (.lst acc) := by
              rw [upd_ne (ne_of_none (s6.keep D5) hr2)]
              exact s6.keep D5
            have hxl := hxs.len
            refine ⟨acc, D7, small16 (by omega), acc ++ [.ref r], upd_same, ((h2.trans s5).trans (s6.new hr2)).own (by
              cases q1 : H1 D with
              | none => rfl
              | some o1 => rw [q1] at hD; cases hD), ?_, ?_⟩
            · have kp2 : Kp H6 (upd H6 r (.tup [.str t.1, .str t.2.1, .int (max t.2.2 u)])) := Kp.refl.new hr2
              have r7 : (upd H6 r (.tup [.str t.1, .str t.2.1, .int (max t.2.2 u)])) r = some (.tup (trV (t.1, t.2.1, max t.2.2 u))) := upd_same
              generalize upd H6 r (.tup [.str t.1, .str t.2.1, .int (max t.2.2 u)]) = H7 at D7 kp2 r7
              have kp3 : Kp H7 (upd H7 D (.lst (acc ++ [.ref r]))) := fun b xs e => by
                rw [upd_ne (ne_of e D7 (by intro z; cases z))]
                exact e
              rw [step]
              exact (h3.kp (((s5.trans s6).kp.trans kp2).trans kp3)).app (.cons ⟨r, rfl, kp3 _ _ r7⟩ .nil)
            · rw [List.length_append]
              show acc.length + 1 ≤ i + 1
              omega
        · rintro H' ⟨acc, h1, h2, h3, h4⟩
          rw [hxs.len, List.take_length] at h3
          refine ⟨.ref D, rfl, ?_⟩
          refine sortTail (Q := Q) h1 h3 fun t H6 s6 hb => ?_
          exact q (.ref t) H6 ((s1.trans h2).trans s6) (.inr ⟨_, t, rfl, rfl, hb⟩)
end
end K92

namespace K92
open PySem PySem.Spec PyProof.Rows L2
open ZM (getT putT)
/-- two tuples of bounds, one behind the other -/
theorem cat_rd {K : PySem.W.Frag} {H : Hp} {a b : Addr} {A B : List Tr} {Q : VK} (hA : Bds H a A) (hB : Bds H b B) (few : A.length + B.length ≤ 1000) (q : ∀ c H', Sm [] H H' → Bds H' c (A ++ B) → Q (.ref c) H') : rCatA K (.ref a) (.ref b) H Q := by
  obtain ⟨xs, ha, hxs⟩ := hA
  obtain ⟨ys, hb, hys⟩ := hB
  have l1 := hxs.len
  have l2 := hys.len
  refine ⟨a, b, xs, ys, rfl, rfl, SqT.of ha, SqT.of hb, ?_, fun z => ?_, fun _ z => ?_, fun _ _ p hp => ?_⟩
  · have : (1000 : Nat) ≤ sizeLine := by decide
    omega
  · subst z
    obtain rfl : A = [] := List.length_eq_zero_iff.mp l1.symm
    exact q b H Sm.refl ⟨ys, hb, hys⟩
  · subst z
    obtain rfl : B = [] := List.length_eq_zero_iff.mp l2.symm
    rw [List.append_nil] at q
    exact q a H Sm.refl ⟨xs, ha, hxs⟩
  · have s : Sm [] H (upd H p (.tup (xs ++ ys))) := Sm.refl.new hp
    exact q p _ s ⟨_, upd_same, (hxs.app hys).kp s.kp⟩
abbrev sCm : Stmt := topS 31
theorem scCm : FnScope ["columns", "zone", "other"] ["columns", "zone", "other"] (defScope sCm) := ⟨rfl, rfl, rfl, by decide +kernel, rfl, by decide +kernel, by decide +kernel⟩
abbrev sMt : Stmt := topS 32
theorem scMt : FnScope ["columns", "zone", "bounds"] ["columns", "zone", "bounds"] (defScope sMt) := ⟨rfl, rfl, rfl, by decide +kernel, rfl, by decide +kernel, by decide +kernel⟩
section
variable {P : Program} {w : World} {K : PySem.W.Frag} {mg : Str → Option Value} {base : Heap}
/-- what closes both -/
def commonO (cs : List Str) : Option (List Tr) → Option (List Tr) → Option (List Tr)
  | some A, some B => closedO cs (A ++ B)
  | _, _ => none
/-- bounds of these columns, few -/
def okO (cs : List Str) (o : Option (List Tr)) : Prop := ∀ Z, o = some Z → ZM.Bok (("" : Str) :: cs) Z ∧ Z.length ≤ 100
theorem bok_app {ns : List Str} {A B : List Tr} (a : ZM.Bok ns A) (b : ZM.Bok ns B) : ZM.Bok ns (A ++ B) := fun t ht => (List.mem_append.mp ht).elim (a t) (b t)
def spCm (K : PySem.W.Frag) : Sp := fun vs H Q _ => ∃ (a : Addr) (x y : V) (cs : List Str) (o p : Option (List Tr)), vs = [.ref a, x, y] ∧ SqT K H a (cs.map V.str) ∧ cs.length ≤ 3 ∧ BdsO H x o ∧ BdsO H y p ∧ okO cs o ∧ okO cs p ∧ ∀ v H', Sm [] H H' → BdsO H' v (commonO cs o p) → Q v H'
theorem ok_cm {f : Addr} {fd : FuncData} (F : Fun K "common" "common" sCm f fd) (cCl : Cal P w K mg base "closed" ["columns", "bounds"] 2 (spCl K)) : FnOk P w K mg base CX0 3 f fd ["columns", "zone", "other"] (spCm K) := by
  refine F.ok scCm (fun vs H Q E h => ?_) (fun cdv A outer s H vs Q E hr h => ?_)
  · obtain ⟨a, x, y, cs, o, p, rfl, _⟩ := h
    rfl
  · obtain ⟨a, x, y, cs, o, p, rfl, hA, hl, ho, hp, fo, fp, q⟩ := h
    have nd := scCm.nd
    refine ⟨_, pss_cons (ps_if (PW.pt (pw_or (pt_cmpR op_isN (pv 1) pe_non (nomark _)) (pw_or1 (pt_cmpR op_isN (pv 2) pe_non (nomark _))))) (pss_one (ps_ret pe_non)) pss_nil)
      (pss_one (ps_ret (pe_own cCl hr (pa_cons (pv 0) (pa_cons (pe_op op_catA (pv 1) (pv 2)) pa_nil))))), ?_⟩
    rcases ho with ⟨rfl, rfl⟩ | ⟨Z, b, rfl, rfl, hZ⟩
    · refine ⟨.non, rfl, rfl, _, rfl, ite2 (fun _ => ite2 (fun _ => ?_) fun z => absurd rfl z) fun z => absurd rfl z⟩
      exact q .non H Sm.refl (.inl ⟨rfl, rfl⟩)
    · refine ⟨.ref b, rfl, rfl, _, rfl, ite2 (fun z => by simp at z) fun _ => ?_⟩
      rcases hp with ⟨rfl, rfl⟩ | ⟨Y, c, rfl, rfl, hY⟩
      · refine ⟨.non, rfl, rfl, _, rfl, ite2 (fun _ => ?_) fun z => absurd rfl z⟩
        exact q .non H Sm.refl (.inl ⟨rfl, rfl⟩)
      · refine ⟨.ref c, rfl, rfl, _, rfl, ite2 (fun z => by simp at z) fun _ => ?_⟩
        obtain ⟨b1, l1⟩ := fo _ rfl
        obtain ⟨b2, l2⟩ := fp _ rfl
        refine ⟨.ref a, rfl, .ref b, rfl, .ref c, rfl, cat_rd hZ hY (by omega) fun t H1 s1 ht => ?_⟩
        exact ⟨a, t, cs, _, rfl, sqt_sm hA s1, ht, bok_app b1 b2, hl, fun v H2 s2 hv => q v H2 (s1.trans s2) hv⟩
def spMt (K : PySem.W.Frag) : Sp := fun vs H Q _ => ∃ (a b : Addr) (x : V) (cs : List Str) (o : Option (List Tr)) (L : List Tr), vs = [.ref a, x, .ref b] ∧ SqT K H a (cs.map V.str) ∧ cs.length ≤ 3 ∧ BdsO H x o ∧ Bds H b L ∧ okO cs o ∧ okO cs (some L) ∧ ∀ v H', Sm [] H H' → BdsO H' v (commonO cs o (some L)) → Q v H'
theorem ok_mt {f : Addr} {fd : FuncData} (F : Fun K "meeting" "meeting" sMt f fd) (B : Bn mg) (cCl : Cal P w K mg base "closed" ["columns", "bounds"] 2 (spCl K)) : FnOk P w K mg base CX0 3 f fd ["columns", "zone", "bounds"] (spMt K) := by
  refine F.ok scMt (fun vs H Q E h => ?_) (fun cdv A outer s H vs Q E hr h => ?_)
  · obtain ⟨a, b, x, cs, o, L, rfl, _⟩ := h
    rfl
  · obtain ⟨a, b, x, cs, o, L, rfl, hA, hl, ho, hL, fo, fp, q⟩ := h
    have nd := scMt.nd
    refine ⟨_, pss_one (ps_ret (pe_ifExp (pt_cmpR op_isN (pv 1) pe_non (nomark _)) pe_non (pe_own cCl hr (pa_cons (pv 0) (pa_cons (pe_op op_catA (pv 1) (pe_callTy call_tuple_of (by rfl) B.tuple boot_tuple (pa_cons (pv 2) pa_nil))) pa_nil))))), ?_⟩
    rcases ho with ⟨rfl, rfl⟩ | ⟨Z, c, rfl, rfl, hZ⟩
    · exact ⟨.non, rfl, rfl, _, rfl, ite2 (fun _ => q .non H Sm.refl (.inl ⟨rfl, rfl⟩)) fun z => absurd rfl z⟩
    · refine ⟨.ref c, rfl, rfl, _, rfl, ite2 (fun z => by simp at z) fun _ => ?_⟩
      obtain ⟨b1, l1⟩ := fo _ rfl
      obtain ⟨b2, l2⟩ := fp _ rfl
      obtain ⟨ys, hb, hys⟩ := id hL
      refine ⟨.ref a, rfl, .ref c, rfl, .ref b, rfl, b, ys, rfl, .inr ⟨SqT.of hb, ?_⟩⟩
      refine cat_rd hZ hL (by omega) fun t H1 s1 ht => ?_
      exact ⟨a, t, cs, _, rfl, sqt_sm hA s1, ht, bok_app b1 b2, hl, fun v H2 s2 hv => q v H2 (s1.trans s2) hv⟩
end
end K92

namespace K92
open PySem PySem.Spec PyProof.Rows L2
open ZM (getT putT)
abbrev sPt : Stmt := topS 33
theorem scPt : FnScope ["zone", "other", "there", "found", "one", "two", "k"] ["zone", "other"] (defScope sPt) := ⟨rfl, rfl, rfl, by decide +kernel, rfl, by decide +kernel, by decide +kernel⟩
section
variable {P : Program} {w : World} {K : PySem.W.Frag} {mg : Str → Option Value} {base : Heap}
/-- the bound of the first one is there and as tight -/
def tighter (Z : List Tr) (t : Tr) : Bool := match getT (tabL Z) (t.1, t.2.1) with
  | some u => decide (u ≤ t.2.2)
  | none => false
def partB : Option (List Tr) → Option (List Tr) → Bool
  | none, _ => true
  | some _, none => false
  | some Z, some Y => Y.all (tighter Z)
def spPt : Sp := fun vs H Q _ => ∃ (x y : V) (o p : Option (List Tr)), vs = [x, y] ∧ BdsO H x o ∧ BdsO H y p ∧ few o ∧ few p ∧ ∀ H', Sm [] H H' → Q (.bl (partB o p)) H'
theorem ok_pt {f : Addr} {fd : FuncData} (F : Fun K "is_part" "is_part" sPt f fd) (B : Bn mg) : FnOk P w K mg base CX0 1 f fd ["zone", "other"] spPt := by
  refine F.ok scPt (fun vs H Q E h => ?_) (fun cdv A outer s H vs Q E hr h => ?_)
  · obtain ⟨x, y, o, p, rfl, _⟩ := h
    rfl
  · obtain ⟨x, y, o, p, rfl, ho, hp, fo, fp, q⟩ := h
    have nd := scPt.nd
    have hu := hu_of hr
    refine ⟨_, pss_cons (ps_if (PW.pt (pw_or (pt_cmpR op_isN (pv 0) pe_non (nomark _)) (pw_or1 (pt_cmpR op_isN (pv 1) pe_non (nomark _))))) (pss_one (ps_ret (pe_cmpR op_isN (pv 0) pe_non (by first | exact nomark _ | rfl)))) pss_nil)
      (pss_cons (ps_set (i := 2) nd rfl (.inr rfl) (pe_dcT (own := [("one", 4), ("two", 5), ("k", 6)]) (g := gTri K) (tt := tYes) (tk := tTup (tCons (tVar 4) (tCons (tVar 5) tNil))) (tv := tVar 6) (by have := un8_of hr; exact Nat.lt_of_le_of_lt (Nat.le_add_right _ 8) this) rfl nd (pi_tup (pv 0)) (blkOk_by (N := nJn) (sc := defScope sPt) (by decide +kernel))
          (fun _ _ _ _ _ => pg_tup rfl (pgs_cons (pg_name (i := 4) nd rfl (.inl rfl)) (pgs_cons (pg_name (i := 5) nd rfl (.inl rfl)) (pgs_cons (pg_name (i := 6) nd rfl (.inl rfl)) pgs_nil))))
          (fun _ _ _ _ _ => pts_nil) (fun _ _ _ _ _ => pe_tup (pa_cons (pv 4) (pa_cons (pv 5) pa_nil))) (fun _ _ _ _ _ => pv 6)))
      (pss_one (ps_ret (pe_callB (cr_all rfl) (by rfl) B.all boot_all (pa_cons
        (pe_lc (own := [("one", 4), ("two", 5), ("k", 6)]) (g := gTri K) (tt := tYes)
          (te := tAndV (tDIn (tTup (tCons (tVar 4) (tCons (tVar 5) tNil))) (tVar 2)) (tOp (rI0 fun i j => .bl (decide (i ≤ j))) (tDGet (tVar 2) (tTup (tCons (tVar 4) (tCons (tVar 5) tNil)))) (tVar 6))) rfl nd (pi_tup (pv 1)) (blkOk_by (N := nJn) (sc := defScope sPt) (by decide +kernel))
          (fun _ _ _ _ _ => pg_tup rfl (pgs_cons (pg_name (i := 4) nd rfl (.inl rfl)) (pgs_cons (pg_name (i := 5) nd rfl (.inl rfl)) (pgs_cons (pg_name (i := 6) nd rfl (.inl rfl)) pgs_nil))))
          (fun _ _ _ _ _ => pts_nil) (fun _ _ _ _ _ => pe_and (pe_cmp (pc_din hu (pe_tup (pa_cons (pv 4) (pa_cons (pv 5) pa_nil))) (pv 2))) (pe_one (pe_cmpR op_le (pe_dget hu (pv 2) (pe_tup (pa_cons (pv 4) (pa_cons (pv 5) pa_nil))) (fun _ _ => rfl)) (pv 6) (by first | exact nomark _ | rfl))))) pa_nil))))), ?_⟩
    rcases ho with ⟨rfl, rfl⟩ | ⟨Z, a, rfl, rfl, hZ⟩
    · refine ⟨.non, rfl, rfl, _, rfl, ite2 (fun _ => ite2 (fun _ => ?_) fun z => absurd rfl z) fun z => absurd rfl z⟩
      exact ⟨.non, rfl, rfl, q H Sm.refl⟩
    · refine ⟨.ref a, rfl, rfl, _, rfl, ite2 (fun z => by simp at z) fun _ => ?_⟩
      rcases hp with ⟨rfl, rfl⟩ | ⟨Y, b, rfl, rfl, hY⟩
      · refine ⟨.non, rfl, rfl, _, rfl, ite2 (fun _ => ?_) fun z => absurd rfl z⟩
        exact ⟨.ref a, rfl, rfl, q H Sm.refl⟩
      · refine ⟨.ref b, rfl, rfl, _, rfl, ite2 (fun z => by simp at z) fun _ => ?_⟩
        refine next_in ?_
        dsimp only
        refine seq_in (asg_in ?_)
        refine there_rd (n := 0) rfl hZ (fo _ rfl) fun d H1 s1 d0 t1 => ?_
        obtain ⟨xs, hb, hxs⟩ := hY
        have hb1 := s1.keep hb
        have hy16 : Y.length ≤ 16 := fp _ rfl
        have hxl := hxs.len
        refine ⟨.ref b, rfl, b, rfl, ⟨xs, SqT.of hb1⟩, fun D hD => ?_⟩
        have D0 : H1 D = none := hD
        refine lc_it (walk_tup (xs := xs)) (fun i H' => ∃ bs : List Bool, H' D = some (.lst (bs.map V.bl)) ∧ Sm [] H1 H' ∧ bs.length = i ∧ bs.all id = (Y.take i).all (tighter Z)) ⟨[], upd_same, Sm.refl.new hD, rfl, rfl⟩ ?_ ?_ ?_
        · rintro i H' _ ⟨bs, h1, h2, h3, h4⟩
          exact SqT.of (h2.keep hb1)
        · rintro i x H3 H4 hi ⟨bs, h1, h2, h3, h4⟩ ⟨rfl, hx⟩
          obtain ⟨t, ht, p, rfl, hp⟩ := hxs.get hx
          have t4 : TabAt H4 d (tabL Z) := h2.keep t1
          have fin : ∀ (r : Bool) (H7 : Hp), Sm [] H4 H7 → r = tighter Z t → ∃ acc, H7 D = some (.lst acc) ∧ acc.length < sizeLine ∧ ∃ bs' : List Bool, (upd H7 D (.lst (acc ++ [.bl r]))) D = some (.lst (bs'.map V.bl)) ∧ Sm [] H1 (upd H7 D (.lst (acc ++ [.bl r]))) ∧ bs'.length = i + 1 ∧ bs'.all id = (Y.take (i + 1)).all (tighter Z) := fun r H7 s7 e => by
            refine ⟨_, s7.keep h1, by rw [List.length_map]; exact small16 (by omega), bs ++ [r], ?_, (h2.trans s7).own D0, ?_, ?_⟩
            · rw [upd_same, List.map_append]
              rfl
            · rw [List.length_append, h3]
              rfl
            · rw [List.take_add_one, ht, Option.toList_some, List.all_append, List.all_append, h4, e]
              simp
          refine ⟨p, _, rfl, SqT.of (h2.keep (s1.keep hp)), rfl, _, _, rfl, _, _, rfl, _, _, rfl, rfl, rfl, ?_⟩
          refine andV_in (in_rd t4 rfl rfl rfl fun c H5 hc e5 => ⟨_, rfl, ?_⟩)
          have s5 : Sm [] H4 H5 := by rw [e5]; exact Sm.refl.new hc
          have t5 : TabAt H5 d (tabL Z) := s5.keep t4
          cases g : getT (tabL Z) (t.1, t.2.1) with
          | none =>
            refine ite2 (fun z => by cases z) fun _ => fin false H5 s5 ?_
            unfold tighter
            rw [g]
          | some u =>
            refine ite2 (fun _ => ?_) fun z => absurd rfl z
            refine op_in (get_rd t5 rfl rfl rfl g fun c2 H6 hc2 e6 => ?_)
            have s6 : Sm [] H5 H6 := by rw [e6]; exact Sm.refl.new hc2
            refine ⟨.int t.2.2, rfl, _, _, rfl, rfl, fin _ H6 (s5.trans s6) ?_⟩
            unfold tighter
            rw [g]
        · rintro H' ⟨bs, h1, h2, h3, h4⟩
          refine ⟨D, bs, rfl, SqL.of h1, ?_⟩
          rw [hxs.len, List.take_length] at h4
          rw [h4]
          exact q H' (s1.trans h2)
end
end K92

namespace K92
open PySem PySem.Spec PyProof.Rows L2
open ZM (getT putT)
/-- what the closed bounds are -/
structure Clo (cs : List Str) (Z C : List Tr) : Prop where
  neg : ¬ ZM.Neg Z
  bok : ZM.Bok (("" : Str) :: cs) C
  len : C.length ≤ 16
  d1 : ZM.Dom C Z
  d2 : ZM.Dom Z C
theorem clo_some {cs : List Str} {Z C : List Tr} (hO : ZM.Bok (("" : Str) :: cs) Z) (h3 : cs.length ≤ 3) (e : closedO cs Z = some C) : Clo cs Z C := by
  unfold closedO at e
  by_cases n : ZM.negP (ZM.ctab (("" : Str) :: cs) Z) = true
  · rw [if_pos n] at e
    cases e
  · rw [if_neg n] at e
    have ec := Option.some.inj e
    have nz : ¬ ZM.Neg Z := fun z => n ((ZM.negP_iff hO).mpr z)
    have I := ZM.ctab_inv hO
    have p : C.Perm (ZM.trs (ZM.ctab (("" : Str) :: cs) Z)) := by
      rw [← ec]
      exact sortT_perm _
    have mem : ∀ t, t ∈ C ↔ getT (ZM.ctab (("" : Str) :: cs) Z) (t.1, t.2.1) = some t.2.2 := fun t => by rw [p.mem_iff, ZM.mem_trs I.nod]
    have c := ZM.ctab_cl hO (ZM.neg_false (ZM.negP_iff hO) nz)
    refine ⟨nz, fun t ht => ZM.trs_ok hO t (p.mem_iff.mp ht), ?_, fun t ht => ?_, fun t ht => ?_⟩
    · rw [p.length_eq]
      unfold ZM.trs
      rw [List.length_map]
      exact inv_len I (by rw [List.length_cons]; omega)
    · obtain ⟨u, e1, hu⟩ := c.bnd t ht
      exact ⟨u, .one ((mem (t.1, t.2.1, u)).mpr e1), hu⟩
    · have e1 := (mem t).mp ht
      exact ⟨t.2.2, ZM.ctab_snd hO _ _ _ (ZM.trs_ok hO t (p.mem_iff.mp ht)).2.2 e1, Int.le_refl _⟩
theorem clo_none {cs : List Str} {Z : List Tr} (hO : ZM.Bok (("" : Str) :: cs) Z) (e : closedO cs Z = none) : ZM.Neg Z := by
  unfold closedO at e
  by_cases n : ZM.negP (ZM.ctab (("" : Str) :: cs) Z) = true
  · exact (ZM.negP_iff hO).mp n
  · rw [if_neg n] at e
    cases e
theorem clo_neg {cs : List Str} {Z : List Tr} (hO : ZM.Bok (("" : Str) :: cs) Z) : ZM.negP (ZM.ctab (("" : Str) :: cs) Z) = true ↔ ZM.Neg Z := ZM.negP_iff hO
/-- bounds Bk while the row is found: r stands for the first columns -/
structure Rws (cs : List Str) (C Bk : List Tr) (r : List Int) : Prop where
  bok : ZM.Bok (("" : Str) :: cs) Bk
  neg : ¬ ZM.Neg Bk
  sub : ∀ t ∈ C, t ∈ Bk
  len : Bk.length = C.length + 2 * r.length
  fix : ∀ (j : Nat) (x : Str) (v : Int), cs[j]? = some x → r[j]? = some v → (x, ("" : Str), v) ∈ Bk ∧ (("" : Str), x, 0 - v) ∈ Bk
theorem Rws.step {cs : List Str} {C Bk : List Tr} {r : List Int} {x : Str} {v : Int} (s : Rws cs C Bk r) (hE : ("" : Str) ∉ cs) (hx : cs[r.length]? = some x) (hv : v = ZM.valF (getT (ZM.ctab (("" : Str) :: cs) Bk) ("", x)) (getT (ZM.ctab (("" : Str) :: cs) Bk) (x, ""))) :
    Rws cs C (Bk ++ [(x, ("" : Str), v), (("" : Str), x, 0 - v)]) (r ++ [v]) := by
  have mx : x ∈ cs := List.mem_of_getElem? hx
  have ne : x ≠ "" := fun e => hE (e ▸ mx)
  refine ⟨bok_app s.bok fun t ht => ?_, ZM.fix_neg s.bok s.neg ne hv, fun t ht => List.mem_append_left _ (s.sub t ht), ?_, fun j y u hy hu => ?_⟩
  · simp only [List.mem_cons, List.not_mem_nil, or_false] at ht
    rcases ht with rfl | rfl
    · exact ⟨List.mem_cons_of_mem _ mx, List.mem_cons_self, ne⟩
    · exact ⟨List.mem_cons_self, List.mem_cons_of_mem _ mx, Ne.symm ne⟩
  · rw [List.length_append, List.length_append, s.len]
    show C.length + 2 * r.length + 2 = C.length + 2 * (r.length + 1)
    omega
  · by_cases h : j < r.length
    · rw [List.getElem?_append_left h] at hu
      obtain ⟨a, b⟩ := s.fix j y u hy hu
      exact ⟨List.mem_append_left _ a, List.mem_append_left _ b⟩
    · have lt := (List.getElem?_eq_some_iff.mp hu).1
      rw [List.length_append] at lt
      have lt : j < r.length + 1 := lt
      obtain rfl : j = r.length := by omega
      rw [hx] at hy
      cases hy
      rw [List.getElem?_concat_length] at hu
      cases hu
      exact ⟨List.mem_append_right _ (by simp), List.mem_append_right _ (by simp)⟩
theorem Rws.done {cs : List Str} {C Bk : List Tr} {r : List Int} (s : Rws cs C Bk r) (hE : ("" : Str) ∉ cs) (hl : r.length = cs.length) (hC : ZM.Bok (("" : Str) :: cs) C) : ZM.okR C (val cs r) := by
  have at_ : ∀ x, x ∈ (("" : Str) :: cs) → x = "" ∨ ((x, ("" : Str), val cs r x) ∈ Bk ∧ (("" : Str), x, 0 - val cs r x) ∈ Bk) := fun x hx => by
    rcases List.mem_cons.mp hx with e | h
    · exact .inl e
    · have ne : x ≠ "" := fun e => hE (e ▸ h)
      obtain ⟨j, h1, _, h3⟩ := valF_at cs r x h hl.symm
      unfold val
      rw [if_neg ne]
      exact .inr (s.fix j x _ h1 h3)
  refine ZM.fixed_row (o := ("" : Str)) s.neg ?_ fun t ht => ⟨s.sub t ht, at_ t.1 (hC t ht).1, at_ t.2.1 (hC t ht).2.1⟩
  unfold val
  rw [if_pos rfl]
abbrev rIN : R2 := fun x y H Q => y = V.non ∧ Q (V.bl (decide (x = V.non))) H
abbrev rNN : R2 := fun x y H Q => y = V.non ∧ Q (V.bl !decide (x = V.non)) H
/-- the value that is put for a column -/
theorem val_rd {x0 x1 x2 x3 x4 x5 : Option V} {y8 : Option V} {lo hi : Option Int} {u : TS} {D : Ends} {H : Hp} (q : u D [x0, x1, x2, x3, x4, x5, some ((lo.map V.int).getD .non), some ((hi.map V.int).getD .non), some (.int (ZM.valF lo hi))] H) :
    tSeq (tAsg (tIf (tTest (tOp rIN (tVar 6) (tC V.non))) (tC (V.int 0)) (tUn (rU fun i => V.int (-i)) (tVar 6))) (gName 8))
      (Evl.tCut (tIfS (tAnd (tTest (tOp rIN (tVar 6) (tC V.non))) (tTest (tOp rNN (tVar 7) (tC V.non)))) (tAsg (tVar 7) (gName 8)) tNext) u) D [x0, x1, x2, x3, x4, x5, some ((lo.map V.int).getD .non), some ((hi.map V.int).getD .non), y8] H := by
  cases lo with
  | some l =>
    refine ⟨.int l, rfl, rfl, _, rfl, ite2 (fun z => by simp at z) fun _ => ⟨.int l, rfl, l, rfl, ?_⟩⟩
    refine ⟨fun σ' H' => σ' = [x0, x1, x2, x3, x4, x5, some (.int l), some ((hi.map V.int).getD .non), some (.int (-l))] ∧ H' = H, ?_, ?_⟩
    · refine ⟨.int l, rfl, rfl, _, rfl, ite2 (fun z => by simp at z) fun _ => ?_⟩
      exact ite2 (fun z => by cases z) fun _ => ⟨rfl, rfl⟩
    · rintro σ' H' ⟨rfl, rfl⟩
      have e : ZM.valF (some l) hi = -l := by
        show 0 - l = -l
        omega
      rw [e] at q
      exact q
  | none =>
    refine ⟨.non, rfl, rfl, _, rfl, ite2 (fun _ => ?_) fun z => absurd rfl z⟩
    refine ⟨fun σ' H' => σ' = [x0, x1, x2, x3, x4, x5, some .non, some ((hi.map V.int).getD .non), some (.int (ZM.valF none hi))] ∧ H' = H, ?_, ?_⟩
    · refine ⟨.non, rfl, rfl, _, rfl, ite2 (fun _ => ?_) fun z => absurd rfl z⟩
      cases hi with
      | none =>
        refine ⟨.non, rfl, rfl, _, rfl, ite2 (fun z => by cases z) fun _ => ⟨rfl, rfl⟩⟩
      | some h =>
        refine ⟨.int h, rfl, rfl, _, rfl, ite2 (fun _ => ?_) fun z => absurd (by simp) z⟩
        exact ⟨.int h, rfl, rfl, rfl⟩
    · rintro σ' H' ⟨rfl, rfl⟩
      exact q
abbrev sRw : Stmt := topS 34
theorem scRw : FnScope ["columns", "zone", "bounds", "found", "column", "table", "low", "high", "value"] ["columns", "zone"] (defScope sRw) := ⟨rfl, rfl, rfl, by decide +kernel, rfl, by decide +kernel, by decide +kernel⟩
section
variable {P : Program} {w : World} {K : PySem.W.Frag} {mg : Str → Option Value} {base : Heap}
/-- a row of these bounds, or None if there is none -/
def RowO (cs : List Str) (o : Option (List Tr)) (H : Hp) (v : V) : Prop := ((∀ Z, o = some Z → ZM.Neg Z) ∧ v = .non) ∨ ∃ Z t r, o = some Z ∧ ¬ ZM.Neg Z ∧ v = .ref t ∧ H t = some (.tup (r.map V.int)) ∧ r.length = cs.length ∧ inB cs r Z = true
def spRw (K : PySem.W.Frag) : Sp := fun vs H Q _ => ∃ (a : Addr) (x : V) (cs : List Str) (o : Option (List Tr)), vs = [.ref a, x] ∧ SqT K H a (cs.map V.str) ∧ cs.length ≤ 3 ∧ cs.Nodup ∧ ("" : Str) ∉ cs ∧ BdsO H x o ∧ okO cs o ∧ ∀ v H', Sm [] H H' → RowO cs o H' v → Q v H'
theorem ok_rw {f : Addr} {fd : FuncData} (F : Fun K "row_in" "row_in" sRw f fd) (B : Bn mg) (G : Gn mg) (cCl : Cal P w K mg base "closed" ["columns", "bounds"] 2 (spCl K)) (cCt : Cal P w K mg base "closed_table" ["columns", "bounds"] 1 (spCt K)) : FnOk P w K mg base CX0 3 f fd ["columns", "zone"] (spRw K) := by
  refine F.ok scRw (fun vs H Q E h => ?_) (fun cdv A outer s H vs Q E hr h => ?_)
  · obtain ⟨a, x, cs, o, rfl, _⟩ := h
    rfl
  · obtain ⟨a, x, cs, o, rfl, hA, hl, hN, hE, ho, fo, q⟩ := h
    have nd := scRw.nd
    have hu := hu_of hr
    obtain ⟨tN, eN⟩ := G.nothing
    refine ⟨_, pss_cons (ps_par (i := 2) (j := 3) rfl nd rfl rfl (by decide) rfl rfl (pa_cons (pe_ifExp (pt_cmpR op_isN (pv 1) pe_non (nomark _)) pe_non (pe_own cCl hr (pa_cons (pv 0) (pa_cons (pv 1) pa_nil)))) (pa_cons (pe_lst pa_nil) pa_nil)) (by rfl))
      (pss_cons (ps_if (pt_cmpR op_isN (pv 2) pe_non (nomark _)) (pss_one (ps_ret pe_non)) pss_nil)
      (pss_cons (ps_for PassesOwn.never rfl (pi_tup (pv 0)) (pg_name (i := 4) nd rfl (.inl rfl))
        (pss_cons (ps_set (i := 5) nd rfl (.inl rfl) (pe_own (cCt.mono (by decide)) hr (pa_cons (pv 0) (pa_cons (pv 2) pa_nil))))
        (pss_cons (ps_par (i := 6) (j := 7) rfl nd rfl rfl (by decide) rfl rfl (pa_cons (pe_dget1 hu (pv 5) (pe_tup (pa_cons (pe_glob (v := .str ("" : Str)) (by rfl) eN ⟨tN, rfl⟩) (pa_cons (pv 4) pa_nil))) ⟨by rfl, by rfl, by rfl, by rfl⟩)
            (pa_cons (pe_dget1 hu (pv 5) (pe_tup (pa_cons (pv 4) (pa_cons (pe_glob (v := .str ("" : Str)) (by rfl) eN ⟨tN, rfl⟩) pa_nil))) ⟨by rfl, by rfl, by rfl, by rfl⟩) pa_nil)) (by rfl))
        (pss_cons (ps_set (i := 8) nd rfl (.inl rfl) (pe_ifExp (pt_cmpR op_isN (pv 6) pe_non (nomark _)) pe_int (pe_un un_neg (pv 6))))
        (Evl.pss_cut (ps_if (PW.pt (pw_and (pt_cmpR op_isN (pv 6) pe_non (nomark _)) (pw_and1 (pt_cmpR op_notN (pv 7) pe_non (nomark _))))) (pss_one (ps_set (i := 8) nd rfl (.inl rfl) (pv 7))) pss_nil)
        (pss_cons (ps_expr (pe_bm PySem.F.plainAttrs_list PySem.F.slot_list_append PySem.F.type_list_append mt_append (pv 3) (pa_cons (pv 8) pa_nil)))
        (pss_one (ps_set (i := 2) nd rfl (.inl rfl) (pe_op op_catA (pv 2) (pe_tup (pa_cons (pe_tup (pa_cons (pv 4) (pa_cons (pe_glob (v := .str ("" : Str)) (by rfl) eN ⟨tN, rfl⟩) (pa_cons (pv 8) pa_nil))))
            (pa_cons (pe_tup (pa_cons (pe_glob (v := .str ("" : Str)) (by rfl) eN ⟨tN, rfl⟩) (pa_cons (pv 4) (pa_cons (pe_un un_neg (pv 8)) pa_nil)))) pa_nil))))))))))))
      (pss_one (ps_ret (pe_callTy call_tuple_of (by rfl) B.tuple boot_tuple (pa_cons (pv 3) pa_nil)))))), ?_⟩
    rcases ho with ⟨rfl, rfl⟩ | ⟨Z, b, rfl, rfl, hZ⟩
    · refine ⟨.non, rfl, rfl, _, rfl, ite2 (fun _ => ?_) fun z => absurd rfl z⟩
      refine ⟨Nat.zero_le _, fun F0 hF0 => ⟨_, _, rfl, ?_⟩⟩
      refine ⟨.non, rfl, rfl, _, rfl, ite2 (fun _ => ?_) fun z => absurd rfl z⟩
      exact q .non _ (Sm.refl.new hF0) (.inl ⟨fun Z e => (by cases e), rfl⟩)
    · obtain ⟨bZ, lZ⟩ := fo _ rfl
      refine ⟨.ref b, rfl, rfl, _, rfl, ite2 (fun z => by simp at z) fun _ => ⟨.ref a, rfl, .ref b, rfl, a, b, cs, Z, rfl, hA, hZ, bZ, hl, fun v H1 s1 hv => ?_⟩⟩
      refine ⟨Nat.zero_le _, fun F0 hF0 => ⟨_, _, rfl, ?_⟩⟩
      have s2 : Sm [] H (upd H1 F0 (.lst [])) := s1.new hF0
      rcases hv with ⟨ec, rfl⟩ | ⟨C, c0, ec, rfl, hC⟩
      · refine ⟨.non, rfl, rfl, _, rfl, ite2 (fun _ => ?_) fun z => absurd rfl z⟩
        exact q .non _ s2 (.inl ⟨fun Z' e => by cases e; exact clo_none bZ ec, rfl⟩)
      · refine ⟨.ref c0, rfl, rfl, _, rfl, ite2 (fun z => by simp at z) fun _ => ?_⟩
        have f := clo_some bZ hl ec
        have hA2 := sqt_sm hA s2
        have eF : (upd H1 F0 (.lst [])) F0 = some (.lst (([] : List Int).map V.int)) := upd_same
        have hC2 : Bds (upd H1 F0 (.lst [])) c0 C := hC.kp (Kp.refl.new hF0)
        have hFH : H F0 = none := s1.free hF0 (by simp)
        generalize upd H1 F0 (.lst []) = H2 at s2 hA2 eF hC2
        have bC : ZM.Bok (("" : Str) :: cs) C := f.bok
        refine next_in ?_
        dsimp only
        refine ⟨.ref a, rfl, a, rfl, ⟨_, hA2⟩, for_tup (xs := cs.map V.str) (fun i σ H' => ∃ (c : Addr) (Bk : List Tr) (r : List Int) (y4 y5 y6 y7 y8 : Option V), σ = [some (.ref a), some (.ref b), some (.ref c), some (.ref F0), y4, y5, y6, y7, y8] ∧ Sm [F0] H2 H' ∧ Bds H' c Bk ∧ H' F0 = some (.lst (r.map V.int)) ∧ Rws cs C Bk r ∧ r.length = i) ?_ ?_ ?_ ?_⟩
        · exact ⟨c0, C, [], none, none, none, none, none, rfl, Sm.refl, hC2, eF, ⟨bC, fun n => f.neg (f.d2.neg n), fun t h => h, rfl, fun j x v _ h => by simp at h⟩, rfl⟩
        · rintro i σ H' _ ⟨c, Bk, r, y4, y5, y6, y7, y8, rfl, s3, _⟩
          exact sqt_sm hA ((s2.nil.trans s3).trans' hFH)
        · rintro i x σ H' hx ⟨c, Bk, r, y4, y5, y6, y7, y8, rfl, s3, hB, hF, rw_, rl⟩
          obtain ⟨z, hz, rfl⟩ := str_at hx
          subst rl
          refine ⟨.ref a, rfl, .ref c, rfl, a, c, cs, Bk, rfl, ?_, hB, rw_.bok, hl, fun hn => absurd ((clo_neg rw_.bok).mp hn) rw_.neg, fun hn d H3 s4 d0 hT => ?_⟩
          · exact sqt_sm hA ((s2.nil.trans s3).trans' hFH)
          · have hF3 := s4.keep hF
            have hB3 := hB.kp s4.kp
            have s5 : Sm [F0] H2 H3 := s3.trans s4.nil
            have hstep := fun v hv => rw_.step (v := v) hE hz hv
            generalize ZM.ctab (("" : Str) :: cs) Bk = M at hT hstep
            refine ⟨.ref d, rfl, d, rfl, .inr ⟨_, .inl hT⟩, .str z, rfl, (by show 2 ≤ sizeLine; decide), fun p hp => ?_⟩
            have s6 : Sm [] H3 (upd H3 p (.tup [.str "", .str z])) := Sm.refl.new hp
            have e6 : (upd H3 p (.tup [.str "", .str z])) p = some (.tup [.str "", .str z]) := upd_same
            generalize upd H3 p (.tup [.str "", .str z]) = H6 at s6 e6
            have t6 : TabAt H6 d M := s6.keep hT
            refine ⟨_, get_tab (p := ("", z)) t6 e6, ?_⟩
            refine ⟨.ref d, rfl, d, rfl, .inr ⟨_, .inl t6⟩, .str z, rfl, (by show 2 ≤ sizeLine; decide), fun p2 hp2 => ?_⟩
            have s7 : Sm [] H6 (upd H6 p2 (.tup [.str z, .str ""])) := Sm.refl.new hp2
            have e7 : (upd H6 p2 (.tup [.str z, .str ""])) p2 = some (.tup [.str z, .str ""]) := upd_same
            generalize upd H6 p2 (.tup [.str z, .str ""]) = H7 at s7 e7
            have t7 : TabAt H7 d M := s7.keep t6
            refine ⟨_, get_tab (p := (z, "")) t7 e7, _, _, rfl, ?_⟩
            have s8 : Sm [F0] H2 H7 := (s5.trans s6.nil).trans s7.nil
            have hF7 := s7.keep (s6.keep hF3)
            have hB7 := (hB3.kp s6.kp).kp s7.kp
            refine val_rd (x0 := some (.ref a)) (x1 := some (.ref b)) (x2 := some (.ref c)) (x3 := some (.ref F0)) (x4 := some (.str z)) (x5 := some (.ref d)) ?_
            have hv := hstep _ rfl
            generalize ZM.valF (getT M ("", z)) (getT M (z, "")) = v at hv ⊢
            have r3 : r.length < 3 := by
              have := (List.getElem?_eq_some_iff.mp hz).1
              omega
            refine ⟨.ref F0, rfl, .inl ⟨rfl, _, SqL.of hF7⟩, .int v, rfl, F0, _, _, rfl, rfl, hF7, (by rw [List.length_map]; exact small16 (by omega)), ?_⟩
            have s9 : Sm [F0] H2 (upd H7 F0 (.lst (r.map V.int ++ [.int v]))) := s8.put (by simp)
            have hF9 : (upd H7 F0 (.lst (r.map V.int ++ [.int v]))) F0 = some (.lst ((r ++ [v]).map V.int)) := by
              rw [upd_same, List.map_append]
              rfl
            have kp9 : Kp H7 (upd H7 F0 (.lst (r.map V.int ++ [.int v]))) := fun b xs e => by
              rw [upd_ne (ne_of e hF7 (by intro z; cases z))]
              exact e
            have hB9 := hB7.kp kp9
            generalize upd H7 F0 (.lst (r.map V.int ++ [.int v])) = H9 at s9 hF9 hB9
            refine ⟨.ref c, rfl, .str z, rfl, .int v, rfl, (by show 3 ≤ sizeLine; decide), fun p1 hp1 => ?_⟩
            refine ⟨.str z, rfl, .int v, rfl, v, rfl, (by show 3 ≤ sizeLine; decide), fun p4 hp4 => ?_⟩
            refine ⟨(by show 2 ≤ sizeLine; decide), fun p5 hp5 => ?_⟩
            have a1 : (upd H9 p1 (.tup [.str z, .str "", .int v])) p1 = some (.tup (trV (z, ("" : Str), v))) := upd_same
            have q1 : Sm [] H9 (upd H9 p1 (.tup [.str z, .str "", .int v])) := Sm.refl.new hp1
            generalize upd H9 p1 (.tup [.str z, .str "", .int v]) = H10 at a1 q1 hp4 hp5 ⊢
            have a2 : (upd H10 p4 (.tup [.str "", .str z, .int (-v)])) p4 = some (.tup (trV (("" : Str), z, 0 - v))) := by
              rw [upd_same, Int.zero_sub]
              rfl
            have q2 : Sm [] H10 (upd H10 p4 (.tup [.str "", .str z, .int (-v)])) := Sm.refl.new hp4
            generalize upd H10 p4 (.tup [.str "", .str z, .int (-v)]) = H11 at a2 q2 hp5 ⊢
            have q3 : Sm [] H11 (upd H11 p5 (.tup [.ref p1, .ref p4])) := Sm.refl.new hp5
            have hT5 : Bds (upd H11 p5 (.tup [.ref p1, .ref p4])) p5 [(z, ("" : Str), v), (("" : Str), z, 0 - v)] := ⟨_, upd_same, .cons ⟨p1, rfl, q3.keep (q2.keep a1)⟩ (.cons ⟨p4, rfl, q3.keep a2⟩ .nil)⟩
            have qa := (q1.trans q2).trans q3
            have hB12 := hB9.kp qa.kp
            have hF12 := qa.keep hF9
            generalize upd H11 p5 (.tup [.ref p1, .ref p4]) = H12 at hT5 qa hB12 hF12 ⊢
            have bl := rw_.len
            have fl := f.len
            refine cat_rd hB12 hT5 (by show Bk.length + 2 ≤ 1000; omega) fun t H13 s13 ht => ?_
            refine ⟨t, _, r ++ [v], _, _, _, _, _, rfl, (s9.trans qa.nil).trans s13.nil, ht, s13.keep hF12, hv, ?_⟩
            rw [List.length_append]
            rfl
        · rintro σ H' ⟨c, Bk, r, y4, y5, y6, y7, y8, rfl, s3, hB, hF, rw_, rl⟩
          rw [List.length_map] at rl
          refine ⟨.ref F0, rfl, F0, _, rfl, .inl ⟨SqL.of hF, fun l hn => ?_⟩⟩
          have s6 : Sm [] H H' := (s2.nil.trans s3).trans' hFH
          refine q (.ref l) _ (s6.new hn) (.inr ⟨Z, l, r, rfl, f.neg, rfl, upd_same, rl, inB_iff.mpr (f.d1.row (rw_.done hE rl bC))⟩)
end
end K92

namespace K92
open PySem PySem.Spec PyProof.Rows L2
open ZM (getT putT)
abbrev sZo : Stmt := topS 28
abbrev nZo : List Str := ["columns", "rows", "names", "found", "one", "other", "gaps", "values", "worths", "name"]
theorem scZo : FnScope ["columns", "rows", "names", "found", "one", "other", "gaps", "values", "worths", "name"] ["columns", "rows"] (defScope sZo) := ⟨rfl, rfl, rfl, by decide +kernel, rfl, by decide +kernel, by decide +kernel⟩
section
variable {P : Program} {w : World} {K : PySem.W.Frag} {mg : Str → Option Value} {base : Heap}
/-- the greatest of some ints -/
def mxL : List Int → Int
  | [] => 0
  | [x] => x
  | x :: y :: r => max x (mxL (y :: r))
theorem mxL_mem : ∀ {l : List Int}, l ≠ [] → mxL l ∈ l
  | [], h => absurd rfl h
  | [x], _ => List.mem_cons_self
  | x :: y :: r, _ => by
    have ih := mxL_mem (l := y :: r) (by simp)
    show max x (mxL (y :: r)) ∈ _
    rcases Int.le_total x (mxL (y :: r)) with h | h
    · rw [Int.max_eq_right h]
      exact List.mem_cons_of_mem _ ih
    · rw [Int.max_eq_left h]
      exact List.mem_cons_self
theorem mxL_ge : ∀ {l : List Int} {x : Int}, x ∈ l → x ≤ mxL l
  | [x], y, h => by
    rw [List.mem_singleton] at h
    rw [h]
    exact Int.le_refl _
  | x :: y :: r, z, h => by
    show z ≤ max x (mxL (y :: r))
    rcases List.mem_cons.mp h with rfl | h
    · exact Int.le_max_left ..
    · exact Int.le_trans (mxL_ge h) (Int.le_max_right ..)
theorem mxL_eq {l : List Int} (h : l ≠ []) {m : Int} (hm : m ∈ l) (hx : ∀ y ∈ l, y ≤ m) : m = mxL l := Int.le_antisymm (mxL_ge hm) (hx _ (mxL_mem h))
/-- the greatest difference among the rows -/
def gap (cs : List Str) (rows : List (List Int)) (i j : Str) : Int := mxL (rows.map fun r => val cs r i - val cs r j)
/-- the least zone of the rows, in the order of the names -/
def gapR (cs ns : List Str) (rows : List (List Int)) (i : Str) : List Tr := (ns.filter fun j => decide (j ≠ i)).map fun j => (i, j, gap cs rows i j)
def gapL (cs ns : List Str) (rows : List (List Int)) : List Tr := ns.flatMap (gapR cs ns rows)
def zoneO (cs ns : List Str) (rows : List (List Int)) : Option (List Tr) := if rows = [] then none else some (sortT (gapL cs ns rows))
/-- the rows, tuples of ints -/
inductive RowAll (H : Hp) (n : Nat) : List V → List (List Int) → Prop
  | nil : RowAll H n [] []
  | cons {p : Addr} {r : List Int} {xs : List V} {rs : List (List Int)} : H p = some (.tup (r.map V.int)) → r.length = n → RowAll H n xs rs → RowAll H n (.ref p :: xs) (r :: rs)
theorem RowAll.kp {H H' : Hp} {n : Nat} (k : Kp H H') : ∀ {xs : List V} {rs : List (List Int)}, RowAll H n xs rs → RowAll H' n xs rs
  | _, _, .nil => .nil
  | _, _, .cons h l t => .cons (k _ _ h) l (t.kp k)
theorem RowAll.len {H : Hp} {n : Nat} : ∀ {xs : List V} {rs : List (List Int)}, RowAll H n xs rs → xs.length = rs.length
  | _, _, .nil => rfl
  | _, _, .cons _ _ t => by rw [List.length_cons, List.length_cons, t.len]
theorem RowAll.get {H : Hp} {n : Nat} : ∀ {xs : List V} {rs : List (List Int)} {i : Nat} {v : V}, RowAll H n xs rs → xs[i]? = some v → ∃ p r, v = .ref p ∧ rs[i]? = some r ∧ H p = some (.tup (r.map V.int)) ∧ r.length = n
  | _, _, i, v, .nil, e => by simp at e
  | _, _, 0, v, .cons h l t, e => by
    simp at e
    subst e
    exact ⟨_, _, rfl, rfl, h, l⟩
  | _, _, i + 1, v, .cons h l t, e => by
    have := t.get (i := i) (v := v) (by simpa using e)
    simpa using this
theorem RowAll.app {H : Hp} {n : Nat} : ∀ {xs ys : List V} {rs ss : List (List Int)}, RowAll H n xs rs → RowAll H n ys ss → RowAll H n (xs ++ ys) (rs ++ ss)
  | _, _, _, _, .nil, h => h
  | _, _, _, _, .cons h l t, q => .cons h l (t.app q)
/-- what the table of a row gives at a name -/
theorem look_row {cs : List Str} {r : List Int} (hN : cs.Nodup) (hl : r.length = cs.length) {x : Str} (hx : x ∈ (("" : Str) :: cs)) : (x = "" ∧ val cs r x = 0) ∨ (x ≠ "" ∧ valV (mergeK [] (rowKV cs r)) (Sum.inr x) = some (.int (val cs r x))) := by
  unfold val
  by_cases e : x = ""
  · rw [if_pos e]
    exact .inl ⟨e, rfl⟩
  · rw [if_neg e]
    exact .inr ⟨e, valF_dict cs r x [] hN ((name_or hx).resolve_left e) hl.symm⟩
def spZo (K : PySem.W.Frag) : Sp := fun vs H Q _ => ∃ (a b : Addr) (cs : List Str) (xs : List V) (rows : List (List Int)), vs = [.ref a, .ref b] ∧ SqT K H a (cs.map V.str) ∧ cs.length ≤ 3 ∧ cs.Nodup ∧ ("" : Str) ∉ cs ∧ H b = some (.tup xs) ∧ RowAll H cs.length xs rows ∧ rows.length ≤ 100 ∧
  ∀ v H', Sm [] H H' → BdsO H' v (zoneO cs (("" : Str) :: cs) rows) → Q v H'
theorem ok_zo {f : Addr} {fd : FuncData} (F : Fun K "zone_of" "zone_of" sZo f fd) (B : Bn mg) (G : Gn mg) (cVi : Cal P w K mg base "value_in" ["worths", "name"] 1 spVi) : FnOk P w K mg base CX0 2 f fd ["columns", "rows"] (spZo K) := by
  refine F.ok scZo (fun vs H Q E h => ?_) (fun cdv A outer s H vs Q E hr h => ?_)
  · obtain ⟨a, b, cs, xs, rows, rfl, _⟩ := h
    rfl
  · obtain ⟨a, b, cs, xs, rows, rfl, hA, hl, hN, hE, hb, hR, hr10, q⟩ := h
    have nd := scZo.nd
    obtain ⟨tN, eN⟩ := G.nothing
    refine ⟨_, pss_cons (ps_if (pt_cmpR op_eq (pe_callB call_len (by rfl) B.len boot_len (pa_cons (pv 1) pa_nil)) pe_int (nomark _)) (pss_one (ps_ret pe_non)) pss_nil)
      (pss_cons (ps_par (i := 2) (j := 3) rfl nd rfl rfl (by decide) rfl rfl (pa_cons (pe_tup (pa_cons (pe_glob (v := .str ("" : Str)) (by rfl) eN ⟨tN, rfl⟩) (StX.pa_star (pv 0) pa_nil))) (pa_cons (pe_lst pa_nil) pa_nil)) (by rfl))
      (pss_cons (ps_for PassesOwn.never rfl (pi_tup (pv 2)) (pg_name (i := 4) nd rfl (.inr rfl) (.inl rfl))
        (pss_one (ps_for PassesOwn.never rfl (pi_list (pe_lc (own := [("name", 9)]) (g := gName 9) (tt := tTest (tOp rNe (tVar 9) (tVar 4))) (te := tVar 9) rfl nd (pi_tup (pv 2)) (blkOk_by (N := nZo) (sc := defScope sZo) (by decide +kernel))
            (fun _ _ _ _ _ => pg_name (i := 9) nd rfl (.inl rfl)) (fun _ _ _ _ _ => pts_one (pt_cmpR op_ne (pv 9) (pv 4) (nomark _))) (fun _ _ _ _ _ => pv 9))) (pg_name (i := 5) nd rfl (.inl rfl))
          (pss_cons (ps_set (i := 6) nd rfl (.inl rfl) (pe_lst pa_nil))
          (pss_cons (ps_for PassesOwn.never rfl (pi_tup (pv 1)) (pg_name (i := 7) nd rfl (.inl rfl))
            (pss_cons (ps_set (i := 8) nd rfl (.inl rfl) (ZT.pe_dictZip rfl (by rfl) B.dict (by rfl) B.zip (pa_cons (pv 0) (pa_cons (pv 7) pa_nil))))
            (pss_one (ps_expr (pe_bm PySem.F.plainAttrs_list PySem.F.slot_list_append PySem.F.type_list_append mt_append (pv 6) (pa_cons (pe_op op_sub (pe_own cVi hr (pa_cons (pv 8) (pa_cons (pv 4) pa_nil))) (pe_own cVi hr (pa_cons (pv 8) (pa_cons (pv 5) pa_nil)))) pa_nil))))))
          (pss_one (ps_expr (pe_bm PySem.F.plainAttrs_list PySem.F.slot_list_append PySem.F.type_list_append mt_append (pv 3) (pa_cons (pe_tup (pa_cons (pv 4) (pa_cons (pv 5) (pa_cons (pe_callB (cr_max rfl) (by rfl) B.max boot_max (pa_cons (pv 6) pa_nil)) pa_nil)))) pa_nil)))))))))
      (pss_one (ps_ret (pe_callTy call_tuple_of (by rfl) B.tuple boot_tuple (pa_cons (pe_callB (cr_sortT (un8_of hr)) (by rfl) B.sorted boot_sorted (pa_cons (pv 3) pa_nil)) pa_nil)))))), ?_⟩
    have hxl := hR.len
    refine ⟨.ref b, rfl, _, xs.length, rfl, .inr ⟨_, SqT.of hb, rfl⟩, rfl, _, rfl, ?_⟩
    by_cases h0 : rows = []
    · subst h0
      refine ite2 (fun _ => ?_) fun z => absurd (by rw [hxl]; rfl) z
      exact q .non H Sm.refl (.inl ⟨rfl, rfl⟩)
    · have hp : 0 < rows.length := List.length_pos_iff.mpr h0
      refine ite2 (fun z => by
        have := V.int.inj (of_decide_eq_true z)
        omega) fun _ => ?_
      refine next_in ?_
      dsimp only
      refine ⟨.ref a, rfl, a, cs.map V.str, rfl, .inl hA, ?_, fun nA hnA => ?_⟩
      · show (V.str ("" : Str) :: (cs.map V.str ++ [])).length ≤ sizeLine
        rw [List.append_nil, List.length_cons, List.length_map]
        have := small16 (n := cs.length + 1) (by omega)
        omega
      refine ⟨Nat.zero_le _, fun F0 hF0 => ⟨_, _, rfl, ?_⟩⟩
      have hns : (V.str ("" : Str) :: (cs.map V.str ++ [])) = ((("" : Str) :: cs).map V.str) := by simp
      rw [hns] at hF0 ⊢
      have s1 : Sm [] H (upd H nA (.tup ((("" : Str) :: cs).map V.str))) := Sm.refl.new hnA
      have n1 : (upd H nA (.tup ((("" : Str) :: cs).map V.str))) nA = some (.tup ((("" : Str) :: cs).map V.str)) := upd_same
      have ns4 : (("" : Str) :: cs).length ≤ 4 := by
        rw [List.length_cons]
        omega
      have hsub : ∀ x ∈ (("" : Str) :: cs), x ∈ (("" : Str) :: cs) := fun x h => h
      have hFH : H F0 = none := s1.free hF0 (by simp)
      have hnF : nA ≠ F0 := ne_of_none n1 hF0
      have look : ∀ {x : Str} {r : List Int}, x ∈ (("" : Str) :: cs) → r.length = cs.length → ((x = "" ∧ val cs r x = 0) ∨ (x ≠ "" ∧ valV (mergeK [] (rowKV cs r)) (Sum.inr x) = some (.int (val cs r x)))) := fun {x r} hx hr => look_row hN hr hx
      generalize hns' : (("" : Str) :: cs) = ns at s1 n1 hF0 ns4 look q ⊢
      have s2 : Sm [] H (upd (upd H nA (.tup (ns.map V.str))) F0 (.lst [])) := s1.new hF0
      have n2 : (upd (upd H nA (.tup (ns.map V.str))) F0 (.lst [])) nA = some (.tup (ns.map V.str)) := by
        rw [upd_ne hnF]
        exact n1
      have eF : (upd (upd H nA (.tup (ns.map V.str))) F0 (.lst [])) F0 = some (.lst []) := upd_same
      generalize upd (upd H nA (.tup (ns.map V.str))) F0 (.lst []) = H2 at s2 n2 eF ⊢
      have hb2 := s2.keep hb
      have hAk : SqT K H2 a ((cs.map Sum.inr).map kV) := by
        rw [List.map_map]
        exact sqt_sm hA s2
      have hR2 := hR.kp s2.kp
      have nt : NT [F0] H2 := fun x hx ys e => by
        rw [List.mem_singleton] at hx
        rw [hx, eF] at e
        cases e
      have sqa : ∀ {H'}, Sm [F0] H2 H' → SqT K H' a ((cs.map Sum.inr).map kV) := fun {H'} s3 => by
        rw [List.map_map]
        exact sqt_sm hA ((s2.nil.trans s3).trans' hFH)
      refine ⟨.ref nA, rfl, nA, rfl, ⟨_, SqT.of n2⟩, for_tup (xs := ns.map V.str) (fun i σ H' => ∃ (acc : List V) (y4 y5 y6 y7 y8 : Option V), σ = [some (.ref a), some (.ref b), some (.ref nA), some (.ref F0), y4, y5, y6, y7, y8, none] ∧ Sm [F0] H2 H' ∧ H' F0 = some (.lst acc) ∧ TrAll H' acc ((ns.take i).flatMap (gapR cs ns rows)) ∧ acc.length ≤ 4 * i) ?_ ?_ ?_ ?_⟩
      · exact ⟨[], none, none, none, none, none, rfl, Sm.refl, eF, .nil, Nat.zero_le _⟩
      · rintro i σ H' _ ⟨acc, y4, y5, y6, y7, y8, rfl, s3, hF, hT, hl4⟩
        exact SqT.of (s3.kpD nt _ _ n2)
      · rintro i x σ H' hx ⟨acc, y4, y5, y6, y7, y8, rfl, s3, hF, hT, hl4⟩
        obtain ⟨z, hz, rfl⟩ := str_at hx
        have zm : z ∈ ns := List.mem_of_getElem? hz
        have i4 : i < 4 := by
          have := (List.getElem?_eq_some_iff.mp hz).1
          omega
        have n3 := s3.kpD nt _ _ n2
        refine ⟨.ref nA, rfl, nA, rfl, ⟨_, SqT.of n3⟩, fun D hD => ?_⟩
        refine lc_tup (K := K) (a := nA) (xs := ns.map V.str) (fun k H'' => ∃ l : List Str, H'' D = some (.lst (l.map V.str)) ∧ Sm [] H' H'' ∧ l = (ns.take k).filter fun y => decide (y ≠ z)) ?_ ?_ ?_ ?_
        · exact ⟨[], upd_same, Sm.refl.new hD, rfl⟩
        · rintro k H'' _ ⟨l, h1, h2, h3⟩
          exact SqT.of (h2.keep n3)
        · rintro k x H'' hx ⟨l, h1, h2, h3⟩
          obtain ⟨y, hy, rfl⟩ := str_at hx
          have kl : k < ns.length := (List.getElem?_eq_some_iff.mp hy).1
          refine ⟨rfl, ?_⟩
          refine ⟨.str y, rfl, .str z, rfl, rfl, _, rfl, ite2 (fun hne => ?_) (fun heq => ?_)⟩
          · have hne' : y ≠ z := by simpa using hne
            refine ⟨.str y, rfl, _, h1, ?_, l ++ [y], ?_, ?_, ?_⟩
            · rw [List.length_map, h3]
              have := List.length_filter_le (fun y => decide (y ≠ z)) (ns.take k)
              rw [List.length_take] at this
              exact small16 (by omega)
            · rw [upd_same, List.map_append]
              rfl
            · exact h2.own hD
            · rw [List.take_add_one, hy, Option.toList_some, List.filter_append, ← h3, List.filter_cons_of_pos (by simpa using hne')]
              rfl
          · have heq' : y = z := by simpa using heq
            refine ⟨l, h1, h2, ?_⟩
            rw [List.take_add_one, hy, Option.toList_some, List.filter_append, ← h3, List.filter_cons_of_neg (by simpa using heq')]
            simp
        rintro H5 ⟨l, h1, h2, h3⟩
        rw [List.length_map, List.take_length] at h3
        have l4 : l.length ≤ 4 := by
          rw [h3]
          have := List.length_filter_le (fun y => decide (y ≠ z)) ns
          omega
        have hF5 := h2.keep hF
        have hT5 := hT.kp h2.kp
        have s5 : Sm [F0] H2 H5 := s3.trans h2.nil
        have nDF : D ≠ F0 := fun e => by rw [e, hF] at hD; cases hD
        have hDn : D ∉ [F0] := by simpa using nDF
        refine ⟨D, rfl, ⟨_, SqL.of h1⟩, for_list (xs := l.map V.str) (fun j σ H' => ∃ (acc : List V) (y5 y6 y7 y8 : Option V), σ = [some (.ref a), some (.ref b), some (.ref nA), some (.ref F0), some (.str z), y5, y6, y7, y8, none] ∧ Sm [F0] H2 H' ∧ H' D = some (.lst (l.map V.str)) ∧ H' F0 = some (.lst acc) ∧ TrAll H' acc ((ns.take i).flatMap (gapR cs ns rows) ++ (l.take j).map fun j => (z, j, gap cs rows z j)) ∧ acc.length ≤ 4 * i + j) ?_ ?_ ?_ ?_⟩
        · refine ⟨acc, _, _, _, _, rfl, s5, h1, hF5, ?_, hl4⟩
          show TrAll H5 acc (_ ++ [])
          rw [List.append_nil]
          exact hT5
        · rintro j σ H' _ ⟨acc, y5, y6, y7, y8, rfl, s6, hD6, _⟩
          exact SqL.of hD6
        · rintro j x σ H6 hx ⟨acc, y5, y6, y7, y8, rfl, s6, hD6, hF6, hT6, hl6⟩
          obtain ⟨y, hy, rfl⟩ := str_at hx
          have ym : y ∈ ns := by
            have := List.mem_of_getElem? hy
            rw [h3, List.mem_filter] at this
            exact this.1
          have j4 : j < 4 := by
            have := (List.getElem?_eq_some_iff.mp hy).1
            omega
          refine ⟨Nat.zero_le _, fun g hg => ?_⟩
          have hb6 := s6.kpD nt _ _ hb2
          have hR6 := hR2.kp (s6.kpD nt)
          refine ⟨.ref b, rfl, b, rfl, ⟨xs, SqT.of ((Sm.refl.new hg : Sm [] H6 _).keep hb6)⟩, for_tup (xs := xs) (fun k σ H' => ∃ (y7 y8 : Option V), σ = [some (.ref a), some (.ref b), some (.ref nA), some (.ref F0), some (.str z), some (.str y), some (.ref g), y7, y8, none] ∧ Sm [] H6 H' ∧ H' g = some (.lst (((rows.take k).map fun r => val cs r z - val cs r y).map V.int))) ?_ ?_ ?_ ?_⟩
          · exact ⟨_, _, rfl, Sm.refl.new hg, upd_same⟩
          · rintro k σ H' _ ⟨y7, y8, rfl, s7, hg7⟩
            exact SqT.of (s7.keep hb6)
          · rintro k x σ H7 hx ⟨y7, y8, rfl, s7, hg7⟩
            obtain ⟨p, r, rfl, hr1, hp1, hr2⟩ := (hR6.kp s7.kp).get hx
            have k100 : k < rows.length := (List.getElem?_eq_some_iff.mp hr1).1
            refine ⟨.ref a, rfl, .ref p, rfl, a, p, cs.map Sum.inr, r.map V.int, rfl, sqa (s6.trans s7.nil), SqT.of hp1, by rw [List.length_map, List.length_map]; exact hr2.symm, fun d hd => ?_⟩
            have e8 : (upd H7 d (.dK (mergeK [] (rowKV cs r)))) d = some (.dK (mergeK [] (rowKV cs r))) := upd_same
            have s8 : Sm [] H7 (upd H7 d (.dK (mergeK [] (rowKV cs r)))) := Sm.refl.new hd
            generalize hH1 : upd H7 d (.dK (mergeK [] (rowKV cs r))) = H8 at s8 e8
            have hH1' : upd H7 d (.dK (mergeK [] ((cs.map Sum.inr).zip (r.map V.int)))) = H8 := hH1
            rw [hH1']
            have hg8 := s8.keep hg7
            refine ⟨.ref g, rfl, .inl ⟨rfl, _, SqL.of hg8⟩, .ref d, rfl, .str z, rfl, d, z, _, val cs r z, rfl, e8, look zm hr2, ?_⟩
            refine ⟨.ref d, rfl, .str y, rfl, d, y, _, val cs r y, rfl, e8, look ym hr2, _, _, rfl, rfl, ?_⟩
            refine ⟨g, _, _, rfl, rfl, hg8, ?_, _, _, rfl, (s7.trans s8).own hg, ?_⟩
            · rw [List.length_map, List.length_map, List.length_take]
              exact small1000 (by omega)
            · rw [upd_same, List.take_add_one, hr1, Option.toList_some, List.map_append, List.map_append]
              rfl
          · rintro σ H7 ⟨y7, y8, rfl, s7, hg7⟩
            rw [hxl, List.take_length] at hg7
            have hF7 := s7.keep hF6
            refine ⟨.ref F0, rfl, .inl ⟨rfl, _, SqL.of hF7⟩, .str z, rfl, .str y, rfl, .ref g, rfl, g, _, rfl, SqL.of hg7, ?_, fun m hm1 hm2 => ?_⟩
            · rw [List.length_map]
              exact hp
            have em : m = gap cs rows z y := mxL_eq (by simpa using h0) hm1 hm2
            subst em
            refine ⟨(by show 3 ≤ sizeLine; decide), fun t ht => ?_⟩
            have t8 : (upd H7 t (.tup [.str z, .str y, .int (gap cs rows z y)])) t = some (.tup (trV (z, y, gap cs rows z y))) := upd_same
            have s8 : Sm [] H7 (upd H7 t (.tup [.str z, .str y, .int (gap cs rows z y)])) := Sm.refl.new ht
            generalize upd H7 t (.tup [.str z, .str y, .int (gap cs rows z y)]) = H8 at t8 s8 ⊢
            have hF8 := s8.keep hF7
            have sq : Sm [] H6 H8 := s7.trans s8
            refine ⟨F0, _, _, rfl, rfl, hF8, small16 (by omega), acc ++ [.ref t], _, _, _, _, rfl, (s6.trans sq.nil).put (by simp), ?_, upd_same, ?_, ?_⟩
            · rw [upd_ne nDF]
              exact sq.keep hD6
            · have kp9 : Kp H8 (upd H8 F0 (.lst (acc ++ [.ref t]))) := fun b xs e => by
                rw [upd_ne (ne_of e hF8 (by intro z; cases z))]
                exact e
              rw [List.take_add_one, hy, Option.toList_some, List.map_append, ← List.append_assoc]
              exact (hT6.kp (sq.kp.trans kp9)).app (.cons ⟨t, rfl, kp9 _ _ t8⟩ .nil)
            · rw [List.length_append]
              show acc.length + 1 ≤ _
              omega
        · rintro σ H6 ⟨acc, y5, y6, y7, y8, rfl, s6, hD6, hF6, hT6, hl6⟩
          rw [List.length_map] at hT6 hl6
          rw [List.take_length] at hT6
          refine ⟨acc, _, _, _, _, _, rfl, s6, hF6, ?_, by omega⟩
          rw [List.take_add_one, hz, Option.toList_some, List.flatMap_append]
          have : [z].flatMap (gapR cs ns rows) = l.map fun j => (z, j, gap cs rows z j) := by
            rw [h3]
            simp [gapR]
          rw [this]
          exact hT6
      · rintro σ H' ⟨acc, y4, y5, y6, y7, y8, rfl, s3, hF, hT, hl4⟩
        rw [List.length_map, List.take_length] at hT
        refine ⟨.ref F0, rfl, ?_⟩
        refine sortTail (Q := Q) hF hT fun t H6 s6 hb => ?_
        refine q (.ref t) H6 (((s2.nil.trans s3).trans' hFH).trans s6) (.inr ⟨_, t, ?_, rfl, hb⟩)
        unfold zoneO
        rw [if_neg h0]
        rfl
end
end K92

/-! own rules: x in o, o[x] of an own class; W.__init__(self, ..) of an own class over ValueError; a text beside a dict -/
namespace K92
open PySem PySem.Spec PyProof.Rows L2
section
variable {X : Cx} {CX : CXT} {n : Nat} {C g : Addr} {sp : Sp} {E : XK}
/-- x in o, x not in o, o of an own class -/
def rInO (C : Addr) (sp : Sp) (E : XK) (fl : Bool → Bool) : R2 := fun x y H Q => ∃ a dx fs, y = .ref a ∧ H a = some (.ins C dx fs) ∧ sp [y, x] H (fun z H' => ∃ b, z = .bl b ∧ Q (.bl (fl b)) H') E
theorem op_inO (hs : PySem.W.findIn X.K (.ref C) "__contains__" = some (some (.ref g))) (hf : PySem.W.isFn X.K (.ref g) = true) (F : FnR X.prog X.w X.K X.mg X.base CX n g sp) (hr : Room n X.A) (hx : Passes CX X E) : OpR X (compareOp .In) (rInO C sp E id) := by
  intro pins s σ H x y v u Q I rx ry h
  obtain ⟨a, dx, fs, rfl, ha, q⟩ := h
  cases (show u = Value.ref a from ry)
  obtain ⟨mA, O, _, _, _, _⟩ := ins_get I.hok ha
  obtain ⟨od, J, _⟩ := O.look
  obtain ⟨m, hF⟩ := I.fr
  refine PySem.W.in_K hF I.ok.mod.kin J hs hf ?_
  refine wpAny_mono (wpAny_call (run_fnR (us := [.ref a, v]) (vs := [.ref a, x]) F hr hx I (.cons rfl (.cons rx .nil)) q)) (fun w s' z => ?_) fun _ _ x => x
  obtain ⟨z', H', I', rz, b, rfl, qz⟩ := z
  cases (show w = Value.bool b from rz)
  exact wpAny_truthy_bool ⟨.bl b, H', I', rfl, qz⟩
theorem op_notinO (hs : PySem.W.findIn X.K (.ref C) "__contains__" = some (some (.ref g))) (hf : PySem.W.isFn X.K (.ref g) = true) (F : FnR X.prog X.w X.K X.mg X.base CX n g sp) (hr : Room n X.A) (hx : Passes CX X E) : OpR X (compareOp .NotIn) (rInO C sp E not) := by
  intro pins s σ H x y v u Q I rx ry h
  obtain ⟨a, dx, fs, rfl, ha, q⟩ := h
  cases (show u = Value.ref a from ry)
  obtain ⟨mA, O, _, _, _, _⟩ := ins_get I.hok ha
  obtain ⟨od, J, _⟩ := O.look
  obtain ⟨m, hF⟩ := I.fr
  refine PySem.W.notIn_K hF I.ok.mod.kin J hs hf ?_
  refine wpAny_mono (wpAny_call (run_fnR (us := [.ref a, v]) (vs := [.ref a, x]) F hr hx I (.cons rfl (.cons rx .nil)) q)) (fun w s' z => ?_) fun _ _ x => x
  obtain ⟨z', H', I', rz, b, rfl, qz⟩ := z
  cases (show w = Value.bool b from rz)
  exact wpAny_truthy_bool ⟨.bl (!b), H', I', rfl, qz⟩
/-- o[x], o of an own class -/
def tSubO (C : Addr) (sp : Sp) (E : XK) (ta tb : TE) : TE := fun σ H Q => ta σ H fun x H1 => tb σ H1 fun y H2 => ∃ a dx fs, x = .ref a ∧ H2 a = some (.ins C dx fs) ∧ sp [x, y] H2 Q E
def PlainIxO (b : Expr) : Prop := ∀ o i, subscripted b true o i = runValue (.builtin "lifetime.subscript" ⟨[o, i], []⟩)
theorem pe_subO {a b : Expr} {ta tb : TE} {pos : Pos} (ha : PE X a ta) (hb : PE X b tb) (hs : PySem.W.findIn X.K (.ref C) "__getitem__" = some (some (.ref g))) (hfn : PySem.W.fnIn X.K g = true) (hf : PySem.W.isFn X.K (.ref g) = true) (F : FnR X.prog X.w X.K X.mg X.base CX n g sp) (hr : Room (n + 1) X.A) (hx : Passes CX X E)
    (hsl : PlainIxO b := by intro _ _; with_unfolding_all rfl) : PE X (.Subscript a b pos) (tSubO C sp E ta tb) := by
  refine ⟨fun pins s σ H Q I h => ?_⟩
  refine Subscript_ (binT ha hb I h fun v u s2 x y H2 I2 rx ry hq => ?_)
  obtain ⟨p, dx, fs, rfl, hp, q⟩ := hq
  cases (show v = Value.ref p from rx)
  obtain ⟨mA, O, _, _, _, _⟩ := ins_get I2.hok hp
  obtain ⟨od, J, _⟩ := O.look
  obtain ⟨m, hF⟩ := I2.fr
  refine PySem.W.sub_K hF I2.ok.mod.kin J hs hfn hf ?_ (hsl _ _)
  refine wpAny_call ?_
  refine codeAny_mono (F X.A.in1 X.stack s2 H2 [.ref p, u] [.ref p, y] Q E hr.in1 I2.env0.in1 (.cons rfl (.cons ry .nil)) q) fun r s' hq => ?_
  cases r with
  | error er => exact hx pins σ H2 s2 er s' I2 hq
  | ok fl =>
    cases fl with
    | ret u => exact I2.after hq
    | next => exact False.elim hq
    | brk => exact False.elim hq
    | cont => exact False.elim hq
/-- W.__init__(self, ..), W an own class over ValueError without an own __init__ -/
theorem pe_winit {W : Addr} {x : Str} {e : Expr} {es : List Expr} {ta : TA} {p1 p2 pos : Pos} {pl : Sem Bool} (hg : Gl X x) (hm : X.mg x = some (.ref W)) (R : ClX.CRead X.K W (.type "type")) (vV : PySem.W.findCls X.K (.ref W) (.type "type") "__init__" = some (.val (.builtin "ValueError.__init__"))) (ha : PA X (e :: es) ta)
    (hc : eval (.Call (.Attribute (.Name x p1) "__init__" p2) (e :: es) [] pos) X.env = (do
      let ov ← eval (.Name x p1) X.env
      standAt p2.atName
      let (f, first) ← holding [ov] (getMethod ov "__init__" pl)
      callWith pos f first (backTo pos (starEach (e :: es) X.env)) (backToKw pos (keywordEach [] X.env))) := by rfl)
    (hd : (x == ("__debug__" : Str)) = false := by decide) (he : starEach (e :: es) X.env = (false, eval e X.env) :: starEach es X.env := by rfl) (hpl : (backTo pos (starEach es X.env)).any (·.1) = false := by rfl) :
    PE X (.Call (.Attribute (.Name x p1) "__init__" p2) (e :: es) [] pos) (tVeI X.K ta) := by
  refine ⟨fun pins s σ H Q I h => ?_⟩
  refine PySem.W.methodCall_KW (ld_glob I hg hm ?_ hd) hc
  refine PySem.W.method_cls I.kIn R.ga (PySem.W.cls_value I.kIn R.rd vV (by decide) ?_)
  show wpAny _ _ (callWith pos (Value.builtin "ValueError.__init__") [] (backTo pos (starEach (e :: es) X.env)) []) _ _ _
  refine PyProof.Rows.callWith_method1 (thn (ha.run pos pins _ σ H _ (I.tok _) h) fun us s1 ⟨vs, H1, I1, r1, a, C, ws, ev, hl, T, ea, q⟩ => ?_) he hpl
  subst ev
  cases r1 with
  | @cons _ u0 _ ur ra rw' =>
    obtain rfl : u0 = Value.ref a := ra
    have hlen : ur.length ≤ sizeLine := by
      rw [← Paired.length rw', sizeLine_eq]
      omega
    exact oinit_ok T I1 ea hlen fun s' J => ⟨.non, H1, J, rfl, q⟩
end
end K92

/-! len(set(t)) of a tuple of unlike texts -/
namespace SetT
open PySem PySem.Spec PyProof.Rows
section
variable {prog : Program} {w : World} {A : Around} {E : Value → Shared → Prop} {s : Shared}
/-- a set of texts -/
abbrev TS (prog : Program) (w : World) (h : Heap) (S : Addr) (D : List Str) : Prop := h.SetOf (PySem.strKind prog w) S (fun k => decide (k ∈ D)) D.length
theorem addT {S : Addr} {D : List Str} {z : Str} {t : Nat} {Q : Bool → Shared → Prop} (hS : TS prog w s.heap S D) (hz : z ∉ D) (hl : D.length < 100)
    (h : ∀ h', Heap.SameBut S s.heap h' → TS prog w h' S (D ++ [z]) → Q true { s with heap := h', toks := s.toks + 1 }) : wpAny (model prog w) A (setAdd S (.str z t)) Q E s := by
  unfold setAdd
  refine wpAny_holding (wpAny_bind ((PySem.strKind prog w).pyHash (k := z) (strKind_is _ _ _ _) ?_))
  refine wpAny_setAddHashed_of (knd := PySem.strKind prog w) (s := { s with toks := s.toks + 1 }) (strKind_is _ _ _ _) rfl hS (by unfold scanBound; omega) fun h' sb hS2 => ?_
  have no : decide (z ∈ D) = false := decide_eq_false hz
  rw [no] at hS2 ⊢
  refine h h' sb (PyProof.Rows.SetOf_congr hS2 (fun k => ?_) (by simp))
  rw [← Bool.decide_or]
  simp
theorem loopT {S I T : Addr} {items : Array Value} {xs : List Str} {R : Result → Shared → Prop} (hh : A.in1.handled = none) (ne : T ≠ I) (nS : S ≠ I) (nT : S ≠ T) (nd : xs.Nodup) (hl : xs.length ≤ 99)
    (hv : ∀ (i : Nat) (v : Value), items[i]? = some v → ∃ z t, xs[i]? = some z ∧ v = .str z t) (hsz : items.size = xs.length) :
    ∀ (k i : Nat) (s : Shared), i + k = xs.length → s.heap.IsTupleIter I T i → s.heap.IsTuple T items → TS prog w s.heap S (xs.take i) →
      (∀ s', s'.gens = s.gens → s'.drawn = s.drawn → s'.os = s.os → (∀ b o, b ≠ S → b ≠ I → s.heap.get? b = some o → s'.heap.get? b = some o) → TS prog w s'.heap S xs → R (.ok (.ret .none)) s') →
      codeAny (model prog w) A (.builtin "set.update.loop" ⟨[.ref S, .ref I], []⟩) R s := by
  have Wk := (Walks.tuple (prog := prog) (w := w) hh I T ne items).toS
  intro k
  induction k with
  | zero =>
    intro i s e h1 h2 h3 q
    have ei : i = items.size := by omega
    subst ei
    rw [hsz, List.take_length] at h3
    refine codeAny_builtin PyProof.Rows.F.entry_set_update_loop ?_
    rw [Around.under_plainId PyProof.Rows.F.plain_set_update_loop _]
    show wpAny _ A.in1 (pyNext (.ref I) >>= _) _ _ s
    refine wpAny_bind (Wk.done s _ _ ⟨h1, h2⟩ fun s' m => wpAny_pure (q s' m.gens m.drawn m.os (fun b o n1 n2 eb => m.heap b o (by simpa using n2) eb) ?_))
    obtain ⟨o, es, ep, t, ho, rest⟩ := h3
    exact ⟨o, es, ep, t, m.heap S _ (by simpa using nS) ho, rest⟩
  | succ k ih =>
    intro i s e h1 h2 h3 q
    refine codeAny_builtin PyProof.Rows.F.entry_set_update_loop ?_
    rw [Around.under_plainId PyProof.Rows.F.plain_set_update_loop _]
    show wpAny _ A.in1 (pyNext (.ref I) >>= _) _ _ s
    refine wpAny_bind (Wk.item i s _ _ (by omega) ⟨h1, h2⟩ fun v s' hP st m => ?_)
    obtain ⟨z, t, hz, rfl⟩ := hv i v hP
    have hS' : TS prog w s'.heap S (xs.take i) := by
      obtain ⟨o, es, ep, tb, ho, rest⟩ := h3
      exact ⟨o, es, ep, tb, m.heap S _ (by simpa using nS) ho, rest⟩
    have zn : z ∉ xs.take i := fun hm => by
      obtain ⟨j, hj⟩ := List.mem_iff_getElem?.mp hm
      rw [List.getElem?_take] at hj
      by_cases hji : j < i
      · rw [if_pos hji] at hj
        obtain ⟨l1, e1⟩ := List.getElem?_eq_some_iff.mp hj
        obtain ⟨l2, e2⟩ := List.getElem?_eq_some_iff.mp hz
        exact absurd (e1.trans e2.symm) (List.pairwise_iff_getElem.mp nd j i l1 l2 hji)
      · rw [if_neg hji] at hj
        cases hj
    have tk : xs.take (i + 1) = xs.take i ++ [z] := by rw [List.take_add_one, hz, Option.toList_some]
    refine wpAny_bind (wpAny_holding (addT hS' zn (by rw [List.length_take]; omega) fun h' sb hS2 => ?_))
    rw [← tk] at hS2
    have st2 := Wk.frame (i + 1) s' h' (s'.toks + 1) st (Nat.le_succ _) fun b hb o eb => by
      rw [sb.2 b (fun z => by
        subst z
        simp only [List.mem_cons, List.not_mem_nil, or_false] at hb
        rcases hb with z | z
        · exact nS z
        · exact nT z)]
      exact eb
    refine wpAny_pure ⟨plainId_quiet PyProof.Rows.F.plain_set_update_loop _, ih (i + 1) _ (by omega) st2.1 st2.2 hS2 fun s2 g1 g2 g3 keep hS3 => ?_⟩
    exact q s2 (g1.trans m.gens) (g2.trans m.drawn) (g3.trans m.os) (fun b o n1 n2 eb => keep b o n1 n2 (by
      show h'.get? b = _
      rw [sb.2 b n1]
      exact m.heap b o (by simpa using n2) eb)) hS3
/-- set.__init__(S, t), S fresh -/
theorem initT {S T : Addr} {led : Bool} {items : Array Value} {xs : List Str} {R : Result → Shared → Prop} (hh : A.handled = none) (hS : s.heap.get? S = some { cls := .type "set", dict := none, data := .set #[] 0 (.fresh 0 0 led) }) (hT : s.heap.IsTuple T items)
    (nd : xs.Nodup) (hl : xs.length ≤ 99) (hv : ∀ (i : Nat) (v : Value), items[i]? = some v → ∃ z t, xs[i]? = some z ∧ v = .str z t) (hsz : items.size = xs.length)
    (q : ∀ h' tk, TS prog w h' S xs → (∀ b o, b ≠ S → s.heap.get? b = some o → h'.get? b = some o) → R (.ok (.ret .none)) { s with heap := h', toks := tk }) :
    wpAny (model prog w) A.in1 (Builtin.«set.__init__» ⟨[.ref S, .ref T], []⟩) (fun fin s' => match fin with
      | .done f => R (.ok f) s'
      | .again c' => c'.quiet = true ∧ codeAny (model prog w) A c' R s') (fun e s' => R (.error e) s') s := by
  have nST : S ≠ T := fun z => by
    obtain ⟨o, ho, hc, _⟩ := hT
    rw [← z, hS] at ho
    cases ho
    simp at hc
  have hSl := Heap.lt_size hS
  have hTl : T < s.heap.objs.size := by
    obtain ⟨o, ho, _⟩ := hT
    exact Heap.lt_size ho
  obtain ⟨o1, ho, hc, n1, hd⟩ := id hT
  obtain ⟨ocls, odict, odata, oslots⟩ := o1
  simp only at hc hd
  subst hc
  subst hd
  obtain ⟨hp, g, d, tk, os⟩ := s
  dsimp only at hS hT ho hSl hTl q ⊢
  have f1 := PySem.F.sub_tuple_set
  have f2 := PySem.F.sub_tuple_frozenset
  have f3 : (Value.type "tuple" == Value.type "dict") = false := by decide
  unfold Builtin.«set.__init__» noKeywords Builtin.Frozenset.updateFrom
  generalize hPI : pyIter = PI
  wp_walk
  subst hPI
  refine wpAny_pyIter_tuple hT (wpAny_bind (wpAny_runValue ?_))
  have start : TS prog w (hp.push { cls := .type "tuple_iterator", data := .fields #[.ref T, .int 0 0] }) S (xs.take 0) :=
    PyProof.Rows.SetOf_congr ((PyProof.Rows.setObjOf_fresh (knd := PySem.strKind prog w) led).setOf (Heap.get?_push_of_some _ hS) (by unfold scanBound; omega)) (fun k => by simp) (by simp)
  refine loopT (I := hp.objs.size) (T := T) (items := items) (xs := xs) (by simp [hh]) (Nat.ne_of_lt hTl) (Nat.ne_of_lt hSl) nST nd hl hv hsz xs.length 0 _ (by omega) ⟨_, Heap.get?_push_size _ rfl, rfl, rfl⟩ (hT.push _) start fun s2 e1 e2 e3 keep hS2 => ?_
  obtain ⟨h2, g2, d2, tk2, os2⟩ := s2
  dsimp only at e1 e2 e3 keep hS2
  subst e1
  subst e2
  subst e3
  exact wpAny_pure (wpAny_pure (q h2 tk2 hS2 fun b o nb eb => keep b o nb (Nat.ne_of_lt (Heap.lt_size eb)) (Heap.get?_push_of_some _ eb)))
/-- set(t) -/
theorem callT {T : Addr} {items : Array Value} {xs : List Str} {Q : Value → Shared → Prop} (hh : A.handled = none) (hT : s.heap.IsTuple T items) (nd : xs.Nodup) (hl : xs.length ≤ 99)
    (hv : ∀ (i : Nat) (v : Value), items[i]? = some v → ∃ z t, xs[i]? = some z ∧ v = .str z t) (hsz : items.size = xs.length)
    (q : ∀ h' tk, TS prog w h' s.heap.objs.size xs → (∀ b o, s.heap.get? b = some o → h'.get? b = some o) → Q (.ref s.heap.objs.size) { s with heap := h', toks := tk }) : wpAny (model prog w) A (call (.type "set") [.ref T]) Q E s := by
  have F0 := PySem.F.called_set
  obtain ⟨c, tl, hmro⟩ := F0.mro
  have a1 := F0.made
  have a2 := F0.sub
  have a3 := F0.notType
  have a4 := F0.canCreate
  have a5 := PySem.F.typeCall_set_1 (.ref T)
  refine wpAny_call (codeAny_of_tree ?_)
  show wpAny _ _ (callAny (.type "set") _) _ _ _
  refine wpAny_pure ⟨Code.quiet_builtin _ (by decide +kernel), codeAny_builtin PySem.F.entry_type_call ?_⟩
  rw [Around.under_plain (weight_type_call_type "set" [.ref T] []) rfl]
  repeat (any_goals (first | assumption | wp_step))
  refine codeAny_mono (code_set_new_1 (.ref T) (E := E) (Q₁ := fun v s1 => ∃ led : Bool, v = .ref s.heap.objs.size ∧ s1 = { s with heap := s.heap.push { cls := .type "set", dict := none, data := .set #[] 0 (.fresh 0 0 led) } }) fun led => ⟨led, rfl, rfl⟩) fun r s1 hr => ?_
  match r, hr with
  | .error e, hr => exact hr
  | .ok (.ret v), hr =>
    obtain ⟨led, rfl, rfl⟩ := hr
    have at_ : (s.heap.push { cls := .type "set", dict := none, data := .set #[] 0 (.fresh 0 0 led) }).get? s.heap.objs.size = some { cls := .type "set", dict := none, data := .set #[] 0 (.fresh 0 0 led) } := Heap.get?_push_size _ rfl
    have ty : Shared.TypeIs { s with heap := s.heap.push { cls := .type "set", dict := none, data := .set #[] 0 (.fresh 0 0 led) } } (.ref s.heap.objs.size) "set" := ⟨_, at_, rfl⟩
    have b1 := F0.init.lookup
    have b2 := F0.init.bind (.ref s.heap.objs.size)
    repeat (any_goals (first | assumption | wp_step))
    refine codeAny_mono (codeAny_call_builtin (R := wants (fun r s2 => r = .none ∧ Q (.ref s.heap.objs.size) s2) E) F0.init.plain PySem.F.entry_set_init (check_set_init_1 ty (initT (by simp [hh]) at_ (hT.push _) nd hl hv hsz fun h' tk h1 h2 => ⟨rfl, q h' tk h1 fun b o e => h2 b o (Nat.ne_of_lt (Heap.lt_size e)) (Heap.get?_push_of_some _ e)⟩))) fun r2 s2 hr2 => ?_
    match r2, hr2 with
    | .error e, hr2 => exact hr2
    | .ok (.ret v), hr2 =>
      obtain ⟨rfl, hq⟩ := hr2
      repeat (any_goals (first | assumption | wp_step))
    | .ok .next, hr2 => exact hr2.elim
    | .ok .brk, hr2 => exact hr2.elim
    | .ok .cont, hr2 => exact hr2.elim
  | .ok .next, hr => exact hr.elim
  | .ok .brk, hr => exact hr.elim
  | .ok .cont, hr => exact hr.elim
end
end SetT
namespace K92
open PySem PySem.Spec PyProof.Rows L2
/-- len(set(t)), t a tuple of unlike texts -/
def tLenT (K : PySem.W.Frag) (ta : TE) : TE := fun σ H Q => ta σ H fun x H1 => ∃ (a : Addr) (xs : List Str), x = .ref a ∧ SqT K H1 a (xs.map V.str) ∧ xs.Nodup ∧ xs.length ≤ 99 ∧ Q (.int (xs.length : Nat)) H1
theorem pe_lenT {X : Cx} {a : Expr} {ta : TE} {p p2 q pos : Pos} (hc : X.calm = true) (hg : Gl X "len") (hm : X.mg "len" = none) (hg2 : Gl X "set") (hm2 : X.mg "set" = none) (ha : PE X a ta)
    (na : starEach [a] X.env = (false, eval a X.env) :: starEach [] X.env := by rfl) : PE X (.Call (.Name "len" p) [.Call (.Name "set" p2) [a] [] q] [] pos) (tLenT X.K ta) := by
  refine ⟨fun pins s σ H Q I h => ?_⟩
  refine Call_ (ld_blt I hg hm boot_len ?_)
  refine PyProof.Rows.callWith_builtin1 (PyProof.Rows.args_cons ?_ rfl) rfl rfl
  refine Call_ (ld_blt I hg2 hm2 boot_set ?_)
  refine PyProof.Rows.callWith_type1 (PyProof.Rows.args_cons (thn (ha.run pins s σ H _ I h) fun v s1 ⟨x, H1, I1, r1, l, xs, ex, hq, nd, hl, q1⟩ => PyProof.Rows.args_nil ?_) na) na rfl
  subst ex
  cases r1
  obtain ⟨its, r, pl, hz⟩ := I1.tuple hq
  have len := r.length
  rw [List.length_map] at len
  refine SetT.callT (I1.ok.hd hc) pl nd hl (fun i v e => ?_) (by rw [List.size_toArray]; exact len.symm) fun h' tk hS hk => ?_
  · have e2 : its[i]? = some v := by simpa using e
    have il : i < xs.length := by
      have := (List.getElem?_eq_some_iff.mp e2).1
      omega
    have e3 : (xs.map V.str)[i]? = some (.str xs[i]) := by
      rw [List.getElem?_map, List.getElem?_eq_getElem il]
      rfl
    obtain ⟨w, ew, rw_⟩ := r.get e3
    rw [e2] at ew
    cases ew
    obtain ⟨t, et⟩ := rw_
    exact ⟨xs[i], t, List.getElem?_eq_getElem il, et⟩
  · refine PyProof.Rows.args_nil ?_
    obtain ⟨o, es, ep, t, ho, hex, hd, _, _, _, hf, hn⟩ := hS
    have I2 : Inv X pins σ H1 { s1 with heap := h', toks := tk } := I1.kept hk
    exact call_len_set ho hex hd hf (by rw [hn]; omega) ⟨.int xs.length, H1, I2.tok _, ⟨_, by rw [hn]⟩, q1⟩
end K92

/-! sorted of a tuple of data -/
namespace K92
open PySem PySem.Spec PyProof.Rows L2
section
open PySem.W
variable {prog : Program} {w : World} {A : Around} {E : Value → Shared → Prop} {s : Shared}
theorem sortedT_of_sort {l : Addr} {vs : List Value} {o : Obj} {n : Nat} {Q : Value → Shared → Prop} (ho : s.heap.get? l = some o) (hc : o.cls = .type "tuple") (hd : o.data = .seq vs.toArray n) (hL : vs.length ≤ sizeLine)
    (body : ∀ h' : Heap, (∀ b o', s.heap.get? b = some o' → h'.get? b = some o') → ∀ E' : Value → Shared → Prop, wpAny (model prog w) A.in1.in1 (Builtin.«list.sort» ⟨[.ref h'.objs.size], []⟩) (fun f s' => f = .done (.ret .none) ∧ Q (.ref h'.objs.size) s') E' { s with heap := h'.push (seqObj "list" vs.toArray 0) }) :
    wpAny (model prog w) A (call (.builtin "sorted") [.ref l]) Q E s := by
  refine call_function_entry_kw kind_sorted plain_sorted entry_sorted (args_sorted1 _) ?_
  unfold Builtin.«sorted»
  refine wpAny_bind (m := checkCount "sorted" 1 1 _) (wpAny_pure ?_)
  refine wpAny_bind (wpAny_collect_seq l (.inr rfl) ho hc hd (fun h' hk => ?_) (by rw [List.size_toArray]; exact hL))
  rw [List.toList_toArray]
  refine wpAny_bind (wpAny_newList ?_ hL)
  refine wpAny_bind (wpAny_holding (wpAny_call_entry_kw slot_list_sort ⟨_, Heap.get?_push_size _ rfl, rfl⟩ entry_list_sort ?body (args_list_sort _)))
  case body =>
    show wpAny (model prog w) A.in1.in1 (Builtin.«list.sort» ⟨[.ref h'.objs.size], []⟩) _ _ _
    refine wpAny_mono (body h' hk _) (fun f s' hf => ?_) fun _ _ e => e
    obtain ⟨rfl, hq⟩ := hf
    exact ⟨_, rfl, wpAny_pure ⟨_, rfl, hq⟩⟩
end
/-- sorted(t), t a tuple of data -/
def rSortTD (K : PySem.W.Frag) : List V → Hp → VK → Prop := fun vs H Q => ∃ (a : Addr) (xs : List V) (enc : V → PyData), vs = [V.ref a] ∧ SqT K H a xs ∧ (∀ x ∈ xs, Dp K H x (enc x)) ∧ PySem.W.AllAlike (xs.map enc) ∧ PySem.W.Sortable (xs.map enc) ∧ (∀ x ∈ xs, (enc x).depth ≤ 5) ∧
  ∀ p, H p = none → Q (.ref p) (upd H p (.lst (xs.mergeSort (PySem.W.dataLe false enc))))
section
variable {X : Cx}
theorem cr_sortTD (hu : X.A.units + 8 < cLine) : CallR X (.builtin "sorted") (rSortTD X.K) := by
  intro pins s σ H vs us Q I r h
  obtain ⟨a, xs, enc, rfl, hs, hx, hal, hk, hde, q⟩ := h
  obtain ⟨its, rv, hl, hz⟩ := I.tuple hs
  obtain ⟨u, rfl, ru⟩ := vals1 r
  obtain rfl : u = Value.ref a := ru
  obtain ⟨o, ho, hc, n, hd⟩ := hl
  have len := rv.length
  have ev := each_vals rv
  refine sortedT_of_sort ho hc hd (by omega) fun h' hk' E' => ?_
  have er : PySem.W.EachIs (fun v b => ∃ as, Reads (PySem.W.sortingHeap (h'.push (seqObj "list" its.toArray 0)) h'.objs.size its) v (enc b) as) its xs := each_imp (fun v b hb hr => by
    obtain ⟨as, rd⟩ := Dp.reads I (enc b) b v (hx b hb) hr
    refine ⟨as, PyProof.Rows.Reads.keeps (fun c oc ec => ?_) rd⟩
    have e1 := hk' c oc ec
    exact PySem.W.sortingHeap_old (Nat.ne_of_lt (Heap.lt_size e1)) (Heap.get?_push_of_some _ e1)) ev
  refine PySem.W.list_sort_vals (s := { s with heap := h'.push (seqObj "list" its.toArray 0) }) (Heap.get?_push_size _ rfl) (PySem.W.SortsAt.data (PySem.W.each_map (R := fun v d => ∃ as, Reads (PySem.W.sortingHeap (h'.push (seqObj "list" its.toArray 0)) h'.objs.size its) v d as) enc er) hal hk (PySem.W.bound_map fun b hb => ?_)) (by omega) ⟨rfl, ?_⟩
  · have := hde b hb
    show X.A.units + 1 + 1 + (enc b).depth < cLine
    omega
  · generalize eo : PySem.W.sortVals (PySem.W.dataKind (PySem.W.sortingHeap (h'.push (seqObj "list" its.toArray 0)) h'.objs.size its) (xs.map enc)) false its its = out
    have eo2 := PySem.W.sortVals_data false ev er hal
    rw [eo] at eo2
    have hp : (xs.mergeSort (PySem.W.dataLe false enc)).Perm xs := List.mergeSort_perm _ _
    obtain ⟨c, hc2⟩ := PyProof.Rows.sortedHeap_at (vs := its) (out := out.toArray) (h := h'.push (seqObj "list" its.toArray 0)) (a := h'.objs.size) (n := 0) (Heap.get?_push_size _ rfl)
    have I1 : Inv X pins σ H { s with heap := h' } := I.kept (t' := s.toks) hk'
    have hf : H h'.objs.size = none := I1.hok.fresh (Nat.le_refl _)
    refine ⟨.ref h'.objs.size, _, I1.laid (t' := s.toks) (a := h'.objs.size) (o := .lst (xs.mergeSort (PySem.W.dataLe false enc))) (fun b o e1 => ?_) (Nat.le_refl _) ⟨?_, out, c, vals_each eo2, hc2⟩, rfl, q _ hf⟩
    · have l1 := Heap.lt_size e1
      exact (PyProof.Rows.sortedHeap_old (Nat.ne_of_lt l1) (Heap.lt_size (Heap.get?_push_of_some _ e1))).trans (Heap.get?_push_of_some _ e1)
    · rw [hp.length_eq]
      exact hz
end
end K92

/-! enumerate of a tuple, walked -/
namespace K92
open PySem PySem.Spec PyProof.Rows L2
theorem enum_newT (l : Addr) (items : Array Value) : Meets (Builtin.«enumerate.__new__» ⟨[.type "enumerate", .ref l], []⟩) (fun _ R s => s.heap.IsTuple l items ∧
    R (.ok (.ret (.ref (s.heap.push { cls := .type "tuple_iterator", data := .fields #[.ref l, .int 0 0] }).objs.size)))
      { s with heap := (s.heap.push { cls := .type "tuple_iterator", data := .fields #[.ref l, .int 0 0] }).push { cls := .type "enumerate", data := .fields #[.none, .bool false, .ref s.heap.objs.size, rawInt 0, .none, .none] } }) :=
  .of_wp fun prog w A R s h => by
    obtain ⟨hp, g, d, tk, os⟩ := s
    obtain ⟨hT, h⟩ := h
    have sub := sub_enumerate
    obtain ⟨ol, ho, hc, n, hd⟩ := id hT
    wp_walk using wpAny_loadPart' ho
    refine wpAny_stack_any fun st => wpAny_pure ?_
    split
    · rename_i c _ _ _ _ _
      cases (c == Value.type "enumerate") <;> (wp_walk using wpAny_loadPart' ho, wpAny_pyIter_tuple hT; exact ⟨_, rfl, h⟩)
    · wp_walk using wpAny_loadPart' ho, wpAny_pyIter_tuple hT
      exact ⟨_, rfl, h⟩
section
variable {prog : Program} {w : World} {A : Around} {E : Value → Shared → Prop} {s : Shared}
theorem enum_callT {l : Addr} {items : Array Value} {Q : Value → Shared → Prop} (hT : s.heap.IsTuple l items)
    (q : ∀ h', IsEnum h' (s.heap.objs.size + 1) s.heap.objs.size 0 .none → h'.IsTupleIter s.heap.objs.size l 0 → (∀ b o, s.heap.get? b = some o → h'.get? b = some o) → Q (.ref (s.heap.objs.size + 1)) { s with heap := h' }) : wpAny (model prog w) A (call (.type "enumerate") [.ref l]) Q E s := by
  refine callType_new F.called_enumerate (by decide) (F.typeCall_enumerate_1 _) (F.newCall_enumerate_1 _) (fun obj => F.args_object_init_2 obj _) F.entry_enumerate_new (enum_newT l items) ⟨hT, ?_⟩
  generalize ei : ({ cls := .type "tuple_iterator", data := .fields #[.ref l, .int 0 0] } : Obj) = oi
  generalize ee : ({ cls := .type "enumerate", data := .fields #[.none, .bool false, .ref s.heap.objs.size, rawInt 0, .none, .none] } : Obj) = oe
  have sz : (s.heap.push oi).objs.size = s.heap.objs.size + 1 := Heap.size_push ..
  have he : ((s.heap.push oi).push oe).get? (s.heap.objs.size + 1) = some oe := by
    rw [← sz]
    exact Heap.get?_push_size _ (by rw [← ee]; rfl)
  show _ ∧ _
  rw [sz]
  refine ⟨⟨_, he, by rw [← ee]⟩, q _ (by rw [← ee] at he ⊢; exact he) ⟨oi, Heap.get?_push_of_some _ (Heap.get?_push_size _ (by rw [← ei]; rfl)), by rw [← ei], by rw [← ei]; rfl⟩ fun b o e => Heap.get?_push_of_some _ (Heap.get?_push_of_some _ e)⟩
end
/-- the tuple at a, its items in new pairs with their numbers -/
def ItE (K : PySem.W.Frag) (a : Addr) : It :=
  ⟨fun i H => ∃ (xs : List V) (x : V), SqT K H a xs ∧ xs[i]? = some x, fun i H v H' => ∃ T x, v = .ref T ∧ H T = none ∧ H' = upd H T (.tup [.int (i : Nat), x]) ∧ ∀ xs, SqT K H a xs → xs[i]? = some x, fun i H => ∃ xs : List V, SqT K H a xs ∧ xs.length = i⟩
theorem turn_enT {P : Program} {w : World} {K : PySem.W.Frag} {elts : List Expr} {kk : Nat} {tpos : Pos} (a e it : Addr) (n1 : e ≠ it) (n2 : a ≠ it) (n3 : a ≠ e) :
    Turn P w K (.Tuple elts kk tpos) (ItE K a) [e, it] e (fun i h => (∃ old, IsEnum h e it ((i : Nat) : Int) old) ∧ h.IsTupleIter it a i) where
  mem := by simp
  obj := fun i h st b hb => by
    obtain ⟨⟨old, he⟩, ⟨o, ho, _, hd⟩⟩ := st
    simp only [List.mem_cons, List.not_mem_nil, or_false] at hb
    rcases hb with rfl | rfl
    · exact ⟨_, he, fun v q => nomatch q⟩
    · exact ⟨o, ho, fun v q => by rw [hd] at q; cases q⟩
  keep := fun i h h' st k => ⟨let ⟨old, he⟩ := st.1; ⟨old, k e (by simp) _ he⟩, st.2.at fun o q => k it (by simp) o q⟩
  item := by
    intro X hP hw hK hc i pins s σ H E I hf st hg
    subst hP hw hK
    obtain ⟨⟨old, he⟩, hit⟩ := st
    obtain ⟨xs, x, hq, hx⟩ := hg
    obtain ⟨its, rv, p, hz⟩ := I.tuple hq
    obtain ⟨u, hu, ru⟩ := rv.get hx
    have le := Heap.lt_size he
    have li : it < s.heap.objs.size := by
      obtain ⟨_, q, _⟩ := hit
      exact Heap.lt_size q
    have il : i < its.toArray.size := by
      have := (List.getElem?_eq_some_iff.mp hu).1
      rw [List.size_toArray]
      exact this
    refine wpAny_pyNext_enum_itemD (fp := [it, a]) (Draws.tuple (A := X.A.in1) (by simp [I.ok.hd hc]) it a n2 its.toArray) he ⟨hit, p⟩ il n1 (by simp [n1, Ne.symm n3]) fun y h' tk hy ho st2 hT _ hk => ?_
    have ey : y = u := by
      have e2 : its[i]? = some y := by simpa using hy
      rw [hu] at e2
      exact (Option.some.inj e2).symm
    subst ey
    refine ⟨_, rfl, wpAny_letOwnedTupleGo_enum (s := { s with heap := h', toks := tk + 1 }) ho fun h2 he2 sb => ?_⟩
    have hT2 : h2.get? s.heap.objs.size = some { cls := .type "tuple", data := .seq #[.int i tk, y] } := (sb.2 _ (Nat.ne_of_gt le)).trans hT
    have I1 : Inv X pins σ (upd H s.heap.objs.size (.tup [.int (i : Nat), x])) { s with heap := h2, toks := tk + 1 } :=
      I.turnedNew (ch := [e, it]) (fun b ob hb q => (sb.2 b (fun z => hb (by simp [z]))).trans (hk b ob (fun z => hb (by simp [z])) (fun z => hb (by simp [z])) q)) hf (Nat.le_refl _)
        ⟨by show 2 ≤ sizeLine; decide, [.int i tk, y], .cons ⟨_, rfl⟩ (.cons ru .nil), ⟨_, hT2, rfl, _, rfl⟩⟩
    refine ⟨.ref s.heap.objs.size, _, I1, rfl, ⟨_, x, rfl, I.hok.fresh (Nat.le_refl _), rfl, fun l hl => by rw [I.tuple_inj hl hq]; exact hx⟩, ⟨⟨y, ?_⟩, st2.1.at fun o q => (sb.2 it (Ne.symm n1)).trans q⟩, fun b hb => ?_⟩
    · rw [show ((i + 1 : Nat) : Int) = (i : Int) + 1 by omega]
      exact he2
    · have lb : b < s.heap.objs.size := by
        simp only [List.mem_cons, List.not_mem_nil, or_false] at hb
        rcases hb with rfl | rfl
        · exact le
        · exact li
      rw [upd_ne (Nat.ne_of_lt lb)]
      exact (hf b hb).1
  done := by
    intro X hP hw hK hc i pins s σ H E I hf st hg
    subst hP hw hK
    obtain ⟨⟨old, he⟩, hit⟩ := st
    obtain ⟨xs, hq, hx⟩ := hg
    obtain ⟨its, rv, p, hz⟩ := I.tuple hq
    obtain ⟨f0, f1, f2, f3, f4, f5⟩ := hf it (by simp)
    have hl := rv.length
    have en : i = its.toArray.size := by
      rw [List.size_toArray]
      omega
    refine wpAny_pyNext_enum_endD (fp := [it, a]) (Draws.tuple (A := X.A.in1) (by simp [I.ok.hd hc]) it a n2 its.toArray) he (by rw [← en]; exact ⟨hit, p⟩) fun h' eb => ⟨rfl, I.turned (t' := s.toks) (fun b o hb q => eb b o hb q) f0 f1 f3 f4 f5⟩
  self := fun A i s Q E st h => let ⟨⟨_, he⟩, _⟩ := st; wpAny_pyIter_enum he h
def iEnT (K : PySem.W.Frag) (ta : TA) : TI := fun σ H R => ta σ H fun vs H1 => ∃ a xs, vs = [.ref a] ∧ SqT K H1 a xs ∧ R (ItE K a) H1
theorem pi_enT {X : Cx} {e : Expr} {ta : TA} {p pos tpos : Pos} {elts : List Expr} {kk : Nat} (hg : Gl X "enumerate") (hm : X.mg "enumerate" = none) (ha : PA X [e] ta) (hs : starEach [e] X.env = [(false, eval e X.env)] := by rfl) :
    PI X (.Tuple elts kk tpos) (.Call (.Name "enumerate" p) [e] [] pos) (iEnT X.K ta) := by
  refine ⟨fun pins s σ H R I h => ?_⟩
  refine Call_ (ld_blt I hg hm boot_enumerate (PyProof.Rows.callWith_type1 (thn (ha.run pos pins s σ H _ I h) fun us s1 ⟨vs, H1, I1, r1, a, xs, ex, hq, q⟩ => ?_) hs rfl))
  subst ex
  obtain ⟨u, rfl, ru⟩ := vals1 r1
  cases (show u = Value.ref a from ru)
  obtain ⟨its, rv, p', hz⟩ := I1.tuple hq
  have la : a < s1.heap.objs.size := by
    obtain ⟨o, ho, _⟩ := p'
    exact Heap.lt_size ho
  refine enum_callT p' fun h' he hit hk => wpAny_pyIter_enum he ?_
  have I2 : Inv X pins σ H1 { s1 with heap := h' } := I1.kept (t' := s1.toks) hk
  refine ⟨s1.heap.objs.size + 1, [s1.heap.objs.size + 1, s1.heap.objs.size], _, _, H1, rfl, I2, turn_enT a (s1.heap.objs.size + 1) s1.heap.objs.size (Nat.succ_ne_self _) (Nat.ne_of_lt la) (Nat.ne_of_lt (Nat.lt_succ_of_lt la)), ⟨⟨.none, he⟩, hit⟩, fun b hb => ?_, q⟩
  have le : s1.heap.objs.size ≤ b := by
    simp only [List.mem_cons, List.not_mem_nil, or_false] at hb
    rcases hb with z | z
    · rw [z]
      exact Nat.le_succ _
    · rw [z]
      exact Nat.le_refl _
  exact I1.fpOk le (I1.hok.fresh le)
theorem walk_enT {K : PySem.W.Frag} {a : Addr} {xs : List V} : Walk (ItE K a) xs.length (fun H => SqT K H a xs) (YPair (fun i => some (.int (i : Nat))) (fun i => xs[i]?)) :=
  ⟨fun i _ hi q => ⟨xs, _, q, List.getElem?_eq_getElem hi⟩, fun _ q => ⟨xs, q, rfl⟩, fun i H v H' _ q ⟨T, x, h1, h2, h3, h4⟩ => ⟨T, _, x, h1, h2, h3, rfl, h4 _ q⟩⟩
end K92

/-! the module forms: names, integers, what ascends -/
namespace K92
open PySem PySem.Spec PyProof.Rows L2
open TL (tl len_tl tl_append tl_join tl_ofString joinL join_eq)
theorem sh_len {z : Str} (h : Sh z) : 1 ≤ z.length ∧ z.length ≤ 8 := by
  refine ⟨?_, h.sp.len⟩
  rw [len_tl]
  refine Nat.one_le_iff_ne_zero.mpr fun e => h.ne ?_
  have : tl z = [] := List.length_eq_zero_iff.mp e
  exact str_ext (by rw [show z.cps.toList = [] from this]; rfl)
theorem az_mem {c : Nat} (h : 97 ≤ c ∧ c ≤ 122) : c ∈ az.cps.toList := by
  have := az_at (c - 97) (by omega)
  rw [show c - 97 + 97 = c by omega] at this
  exact List.mem_of_getElem? this
structure Gf (mg : Str → Option Value) : Prop where
  letters : ∃ t, mg "LETTERS" = some (.str az t)
  most : ∃ t, mg "MOST_LETTERS" = some (.int 8 t)
abbrev sCn : Stmt := topS 15
theorem scCn : FnScope ["thing"] ["thing"] (defScope sCn) := ⟨rfl, rfl, rfl, by decide +kernel, rfl, by decide +kernel, by decide +kernel⟩
abbrev sIn : Stmt := topS 16
theorem scIn : FnScope ["thing", "letter"] ["thing"] (defScope sIn) := ⟨rfl, rfl, rfl, by decide +kernel, rfl, by decide +kernel, by decide +kernel⟩
abbrev sNs : Stmt := topS 17
theorem scNs : FnScope ["thing", "one"] ["thing"] (defScope sNs) := ⟨rfl, rfl, rfl, by decide +kernel, rfl, by decide +kernel, by decide +kernel⟩
abbrev sDs : Stmt := topS 18
theorem scDs : FnScope ["things"] ["things"] (defScope sDs) := ⟨rfl, rfl, rfl, by decide +kernel, rfl, by decide +kernel, by decide +kernel⟩
section
variable {P : Program} {w : World} {K : PySem.W.Frag} {mg : Str → Option Value} {base : Heap}
theorem isT7 {T C : String} (m : T ∈ kinds7) (mc : C ∈ ["int", "bool", "tuple", "list", "str"]) : kitB T C = some (kd T C) := kit7 T m C mc
/-- is_count of an int -/
def spCn : Sp := fun vs H Q _ => ∃ i : Int, vs = [.int i] ∧ Q (.bl (decide (0 ≤ i))) H
theorem ok_cn {f : Addr} {fd : FuncData} (F : Fun K "is_count" "is_count" sCn f fd) (cInt : Cal P w K mg base "is_integer" ["thing"] 1 (spInt K)) : FnOk P w K mg base CX0 2 f fd ["thing"] spCn := by
  refine F.ok scCn (fun vs H Q E h => ?_) (fun cdv A outer s H vs Q E hr h => ?_)
  · obtain ⟨i, rfl, _⟩ := h
    rfl
  · obtain ⟨i, rfl, q⟩ := h
    refine ⟨_, pss_one (ps_ret (pe_and (pe_own cInt hr (pa_cons (pv 0) pa_nil)) (pe_one (pe_cmpR op_ge (pv 0) pe_int (by first | exact nomark _ | rfl))))), ?_⟩
    refine ⟨.int i, rfl, .int i, "int", true, false, rfl, TyX.int i, by decide +kernel, by decide +kernel, true, rfl, ?_⟩
    exact ⟨.int i, rfl, i, 0, rfl, rfl, q⟩
/-- is_name of a name -/
def spIn : Sp := fun vs H Q _ => ∃ z : Str, vs = [.str z] ∧ Sh z ∧ ∀ H', Sm [] H H' → Q (.bl true) H'
theorem ok_in {f : Addr} {fd : FuncData} (F : Fun K "is_name" "is_name" sIn f fd) (B : Bn mg) (G : Gf mg) : FnOk P w K mg base CX0 1 f fd ["thing"] spIn := by
  refine F.ok scIn (fun vs H Q E h => ?_) (fun cdv A outer s H vs Q E hr h => ?_)
  · obtain ⟨z, rfl, _⟩ := h
    rfl
  · obtain ⟨z, rfl, hz, q⟩ := h
    have nd := scIn.nd
    obtain ⟨tL, eL⟩ := G.letters
    obtain ⟨tM, eM⟩ := G.most
    obtain ⟨l1, l8⟩ := sh_len hz
    refine ⟨_, pss_cons (ps_if (PW.pt (pw_or (pt_not (pt_val (pe_is B B.str boot_str (pv 0)))) (pw_or1 (pt_not (pt_chain op_le op_le pe_int (pe_callB call_len (by rfl) B.len boot_len (pa_cons (pv 0) pa_nil)) (pe_glob (v := .int 8) (by rfl) eM ⟨tM, rfl⟩)))))) (pss_one (ps_ret pe_bl)) pss_nil)
      (pss_one (ps_ret (pe_callB (cr_all rfl) (by rfl) B.all boot_all (pa_cons
        (pe_lc (own := [("letter", 1)]) (g := gName 1) (tt := tYes) (te := tOp (fun x y H Q => ∃ c z, x = .str ⟨#[c]⟩ ∧ y = .str z ∧ Q (.bl (decide (c ∈ z.cps.toList))) H) (tVar 1) (tC (.str az))) rfl nd
          (pi_str (pv 0)) (blkOk_by (N := ["thing", "letter"]) (sc := defScope sIn) (by decide +kernel))
          (fun _ _ _ _ _ => pg_name (i := 1) nd rfl (.inl rfl)) (fun _ _ _ _ _ => pts_nil) (fun _ _ _ _ _ => pe_cmpR op_in_sign (pv 1) (pe_glob (v := .str az) (by rfl) eL ⟨tL, rfl⟩) (by rfl))) pa_nil)))), ?_⟩
    have zs : z.length ≤ sizeLine := by
      have : (8 : Nat) ≤ sizeLine := by decide
      omega
    refine ⟨.str z, rfl, .str z, "str", "str", true, rfl, TyX.str z, by decide +kernel, true, rfl, ite2 (fun z => by cases z) fun _ => ?_⟩
    refine ⟨.str z, rfl, .str z, z.length, rfl, ⟨zs, rfl⟩, _, _, rfl, rfl, _, rfl, ?_⟩
    refine ite2 (fun _ => ?_) fun n => absurd (by show decide ((1 : Int) ≤ (z.length : Int)) = true; exact decide_eq_true (by omega)) n
    refine ⟨_, _, rfl, rfl, _, rfl, ?_⟩
    refine ite2 (fun n => absurd n (by rw [decide_eq_true (show ((z.length : Int)) ≤ 8 by omega)]; simp)) fun _ => ?_
    refine next_in ?_
    dsimp only
    refine ret_in ?_
    refine ⟨.str z, rfl, z, rfl, fun D hD => ?_⟩
    refine lc_it walk_str (fun i H' => ∃ bs : List Bool, H' D = some (.lst (bs.map V.bl)) ∧ Sm [] H H' ∧ bs.length = i ∧ bs.all id = true) ⟨[], upd_same, Sm.refl.new hD, rfl, rfl⟩ ?_ ?_ ?_
    · intros
      trivial
    · rintro i x H3 H4 hi ⟨bs, h1, h2, h3, h4⟩ ⟨rfl, c, hc, rfl⟩
      have hi8 : i < 9 := by
        have : z.cps.size = z.length := rfl
        omega
      have cm : c ∈ tl z := by
        have : z.cps.toList[i]? = some c := by
          rw [Array.getElem?_toList]
          exact hc
        exact List.mem_of_getElem? this
      refine ⟨rfl, ⟨#[c]⟩ |> V.str, rfl, c, az, rfl, rfl, bs.map V.bl, h1, ?_, bs ++ [decide (c ∈ az.cps.toList)], ?_, h2.own hD, ?_, ?_⟩
      · rw [List.length_map]
        exact small16 (by omega)
      · rw [upd_same, List.map_append]
        rfl
      · rw [List.length_append, h3]
        rfl
      · rw [List.all_append, h4, decide_eq_true (az_mem (hz.sp.ok c cm))]
        rfl
    · rintro H' ⟨bs, h1, h2, h3, h4⟩
      refine ⟨D, bs, rfl, SqL.of h1, ?_⟩
      rw [h4]
      exact q H' h2
theorem sqt_ty {H : Hp} {a : Addr} {xs : List V} (h : SqT K H a xs) : TyX K H (.ref a) (.type "tuple") := by
  rcases h with (h | ⟨o, h⟩) | ⟨o, its, n, h1, h2, _⟩
  · exact TyX.tup h
  · exact .fTuple h
  · exact .kTuple h1 h2
/-- a tuple of names -/
def spNs (K : PySem.W.Frag) : Sp := fun vs H Q _ => ∃ (a : Addr) (cs : List Str), vs = [.ref a] ∧ SqT K H a (cs.map V.str) ∧ cs.length ≤ 4 ∧ (∀ z ∈ cs, Sh z) ∧ ∀ H', Sm [] H H' → Q (.bl true) H'
theorem ok_ns {f : Addr} {fd : FuncData} (F : Fun K "are_names" "are_names" sNs f fd) (B : Bn mg) (cIn : Cal P w K mg base "is_name" ["thing"] 1 spIn) : FnOk P w K mg base CX0 2 f fd ["thing"] (spNs K) := by
  refine F.ok scNs (fun vs H Q E h => ?_) (fun cdv A outer s H vs Q E hr h => ?_)
  · obtain ⟨a, cs, rfl, _⟩ := h
    rfl
  · obtain ⟨a, cs, rfl, hA, hl, hs, q⟩ := h
    have nd := scNs.nd
    refine ⟨_, pss_one (ps_ret (pe_and (pe_is B B.tuple boot_tuple (pv 0)) (pe_one (pe_callB (cr_all rfl) (by rfl) B.all boot_all (pa_cons
        (pe_lc (own := [("one", 1)]) (g := gName 1) (tt := tYes) (te := tCall spIn [] E0 (tCons (tVar 1) tNil)) rfl nd
          (pi_tup (pv 0)) (blkOk_by (N := ["thing", "one"]) (sc := defScope sNs) (by decide +kernel))
          (fun _ _ _ _ _ => pg_name (i := 1) nd rfl (.inl rfl)) (fun _ _ _ _ _ => pts_nil) (fun _ _ _ _ _ => pe_own cIn hr (pa_cons (pv 1) pa_nil))) pa_nil))))), ?_⟩
    refine ⟨.ref a, rfl, .ref a, "tuple", "tuple", true, rfl, sqt_ty hA, by decide +kernel, true, rfl, ?_⟩
    refine ⟨.ref a, rfl, a, rfl, ⟨_, hA⟩, fun D hD => ?_⟩
    refine lc_it (walk_tup (K := K) (a := a) (xs := cs.map V.str)) (fun i H' => ∃ bs : List Bool, H' D = some (.lst (bs.map V.bl)) ∧ Sm [] H H' ∧ bs.length = i ∧ bs.all id = true) ⟨[], upd_same, Sm.refl.new hD, rfl, rfl⟩ ?_ ?_ ?_
    · rintro i H' _ ⟨bs, h1, h2, _⟩
      exact sqt_sm hA h2
    · rintro i x H3 H4 hi ⟨bs, h1, h2, h3, h4⟩ ⟨rfl, hx⟩
      obtain ⟨z, hz, rfl⟩ := str_at hx
      rw [List.length_map] at hi
      refine ⟨rfl, .str z, rfl, z, rfl, hs z (List.mem_of_getElem? hz), fun H5 s5 => ⟨bs.map V.bl, s5.keep h1, ?_, bs ++ [true], ?_, (h2.trans s5).own hD, ?_, ?_⟩⟩
      · rw [List.length_map]
        exact small16 (by omega)
      · rw [upd_same, List.map_append]
        rfl
      · rw [List.length_append, h3]
        rfl
      · rw [List.all_append, h4]
        rfl
    · rintro H' ⟨bs, h1, h2, h3, h4⟩
      refine ⟨D, bs, rfl, SqL.of h1, ?_⟩
      rw [h4]
      exact q H' h2
/-- unlike names -/
def spDs (K : PySem.W.Frag) : Sp := fun vs H Q _ => ∃ (a : Addr) (cs : List Str), vs = [.ref a] ∧ SqT K H a (cs.map V.str) ∧ cs.length ≤ 99 ∧ cs.Nodup ∧ Q (.bl true) H
theorem ok_ds {f : Addr} {fd : FuncData} (F : Fun K "are_distinct" "are_distinct" sDs f fd) (B : Bn mg) (hset : mg "set" = none) : FnOk P w K mg base CX0 1 f fd ["things"] (spDs K) := by
  refine F.ok scDs (fun vs H Q E h => ?_) (fun cdv A outer s H vs Q E hr h => ?_)
  · obtain ⟨a, cs, rfl, _⟩ := h
    rfl
  · obtain ⟨a, cs, rfl, hA, hl, hs, q⟩ := h
    refine ⟨_, pss_one (ps_ret (pe_cmpR op_eq (pe_lenT rfl (by rfl) B.len (by rfl) hset (pv 0)) (pe_callB call_len (by rfl) B.len boot_len (pa_cons (pv 0) pa_nil)) (by first | exact nomark _ | rfl))), ?_⟩
    refine ⟨.ref a, rfl, a, cs, rfl, hA, hs, hl, .ref a, rfl, .ref a, cs.length, rfl, .inr ⟨_, hA, by rw [List.length_map]⟩, rfl, ?_⟩
    rw [decide_eq_true rfl]
    exact q
end
end K92

/-! do_ascend -/
namespace K92
open PySem PySem.Spec PyProof.Rows L2
abbrev sAs : Stmt := topS 19
theorem scAs : FnScope ["things", "one", "other"] ["things"] (defScope sAs) := ⟨rfl, rfl, rfl, by decide +kernel, rfl, by decide +kernel, by decide +kernel⟩
def rSlE (K : PySem.W.Frag) : V → Option Int → Option Int → Hp → VK → Prop := fun x lo hi H Q => rSlL K x lo hi H Q ∨ rSlA K x lo hi H Q
theorem sl_any {X : Cx} : SlR X (rSlE X.K) := by
  intro pins s σ H x v vl vu lo hi sl Q I rx hs pl pu h
  rcases h with h | h
  · exact sl_list pins s σ H x v vl vu lo hi sl Q I rx hs pl pu h
  · exact sl_tupA pins s σ H x v vl vu lo hi sl Q I rx hs pl pu h
theorem cut1 (xs : List V) : cutV xs (some 1) none = xs.drop 1 := by
  unfold cutV
  rw [HT.sIx_none, show HT.sIx xs.length 0 (some 1) = min 1 xs.length from HT.sIx_nat _ _ 1]
  by_cases h : 1 ≤ xs.length
  · rw [Nat.min_eq_left h, List.take_of_length_le (by rw [List.length_drop]; exact Nat.le_refl _)]
  · obtain rfl : xs = [] := List.length_eq_zero_iff.mp (by omega)
    rfl
/-- each one is an int less than the next one -/
def Asc (xs : List V) : Prop := ∀ (i : Nat) (x y : V), xs[i]? = some x → xs[i + 1]? = some y → ∃ m n : Int, x = .int m ∧ y = .int n ∧ m < n
section
variable {P : Program} {w : World} {K : PySem.W.Frag} {mg : Str → Option Value} {base : Heap}
def spAs (K : PySem.W.Frag) : Sp := fun vs H Q _ => ∃ (a : Addr), vs = [.ref a] ∧ ((∃ xs, SqL K H a xs ∧ H a = some (.lst xs) ∧ Asc xs ∧ xs.length ≤ 100) ∨ SqT K H a []) ∧ ∀ H', Sm [] H H' → Q (.bl true) H'
theorem ok_as {f : Addr} {fd : FuncData} (F : Fun K "do_ascend" "do_ascend" sAs f fd) (B : Bn mg) : FnOk P w K mg base CX0 1 f fd ["things"] (spAs K) := by
  refine F.ok scAs (fun vs H Q E h => ?_) (fun cdv A outer s H vs Q E hr h => ?_)
  · obtain ⟨a, rfl, _⟩ := h
    rfl
  · obtain ⟨a, rfl, hA, q⟩ := h
    have nd := scAs.nd
    refine ⟨_, pss_one (ps_ret (pe_callB (cr_all rfl) (by rfl) B.all boot_all (pa_cons
        (pe_lc (own := [("one", 1), ("other", 2)]) (g := gTup K 2 (gCons (gName 1) (gCons (gName 2) gNil))) (tt := tYes) (te := tOp (rI0 fun i j => .bl (decide (i < j))) (tVar 1) (tVar 2)) rfl nd
          (RZ.pi_zipA (by rfl) B.zip (pa_cons (pv 0) (pa_cons (pe_slice sl_any (pv 0) (po_some pe_int) po_none) pa_nil))) (blkOk_by (N := ["things", "one", "other"]) (sc := defScope sAs) (by decide +kernel))
          (fun _ _ _ _ _ => pg_tup rfl (pgs_cons (pg_name (i := 1) nd rfl (.inl rfl)) (pgs_cons (pg_name (i := 2) nd rfl (.inl rfl)) pgs_nil))) (fun _ _ _ _ _ => pts_nil) (fun _ _ _ _ _ => pe_cmpR op_lt (pv 1) (pv 2) (by first | exact nomark _ | rfl))) pa_nil))), ?_⟩
    rcases hA with ⟨xs, hA, hA0, hasc, hl⟩ | hA
    · refine ⟨.ref a, rfl, .ref a, rfl, 1, rfl, .inl ⟨a, xs, rfl, hA, fun p hp => ?_⟩⟩
      rw [cut1]
      have s1 : Sm [] H (upd H p (.lst (xs.drop 1))) := Sm.refl.new hp
      have e1 : (upd H p (.lst (xs.drop 1))) p = some (.lst (xs.drop 1)) := upd_same
      generalize upd H p (.lst (xs.drop 1)) = H1 at s1 e1
      refine ⟨a, p, xs, xs.drop 1, rfl, .inl ⟨SqL.of (s1.keep hA0), SqL.of e1, fun D hD => ?_⟩⟩
      refine lc_it (walk_zip (n := min xs.length (xs.drop 1).length) rfl) (fun i H' => ∃ bs : List Bool, H' D = some (.lst (bs.map V.bl)) ∧ Sm [] H1 H' ∧ bs.length = i ∧ bs.all id = true) ⟨[], upd_same, Sm.refl.new hD, rfl, rfl⟩ ?_ ?_ ?_
      · rintro i H' _ ⟨bs, h1, h2, _⟩
        exact ⟨SqL.of (h2.keep (s1.keep hA0)), SqL.of (h2.keep e1)⟩
      · rintro i x H3 H4 hi ⟨bs, h1, h2, h3, h4⟩ ⟨T, x, y, rfl, hT, rfl, hx, hy⟩
        have hy2 : xs[i + 1]? = some y := by
          have : (xs.drop 1)[i]? = some y := hy
          rw [List.getElem?_drop, Nat.add_comm] at this
          exact this
        obtain ⟨m, n, rfl, rfl, hmn⟩ := hasc i x y hx hy2
        have s4 : Sm [] H3 (upd H3 T (.tup [.int m, .int n])) := Sm.refl.new hT
        refine ⟨T, _, rfl, SqT.of upd_same, rfl, _, _, rfl, _, _, rfl, rfl, rfl, ?_⟩
        refine ⟨.int m, rfl, .int n, rfl, _, _, rfl, rfl, bs.map V.bl, s4.keep h1, ?_, bs ++ [decide (m < n)], ?_, (h2.trans s4).own hD, ?_, ?_⟩
        · rw [List.length_map]
          refine small1000 ?_
          have := Nat.min_le_left xs.length (xs.drop 1).length
          omega
        · rw [upd_same, List.map_append]
          rfl
        · rw [List.length_append, h3]
          rfl
        · rw [List.all_append, h4, decide_eq_true hmn]
          rfl
      · rintro H' ⟨bs, h1, h2, h3, h4⟩
        refine ⟨D, bs, rfl, SqL.of h1, ?_⟩
        rw [h4]
        exact q H' (s1.trans h2)
    · refine ⟨.ref a, rfl, .ref a, rfl, 1, rfl, .inr ⟨a, [], rfl, hA, fun _ => ?_, fun h => absurd ⟨by rw [show HT.sIx ([] : List V).length 0 (some 1) = min 1 ([] : List V).length from HT.sIx_nat _ _ 1]; rfl, by rw [HT.sIx_none]⟩ h⟩⟩
      refine ⟨a, a, [], [], rfl, .inr ⟨hA, hA, fun D hD => ?_⟩⟩
      refine lc_it (walk_zipT' (xs := []) (ys := []) (n := 0) rfl) (fun i H' => H' D = some (.lst []) ∧ Sm [] H H') ⟨upd_same, Sm.refl.new hD⟩ ?_ ?_ ?_
      · rintro i H' _ ⟨h1, h2⟩
        exact ⟨sqt_sm hA h2, sqt_sm hA h2⟩
      · rintro i x H3 H4 hi
        exact absurd hi (Nat.not_lt_zero _)
      · rintro H' ⟨h1, h2⟩
        exact ⟨D, [], rfl, SqL.of h1, q H' h2⟩
end
end K92

/-! schemas: are_columns, are_some, is_table -/
namespace K92
open PySem PySem.Spec PyProof.Rows L2
abbrev sAc : Stmt := topS 56
theorem scAc : FnScope ["thing"] ["thing"] (defScope sAc) := ⟨rfl, rfl, rfl, by decide +kernel, rfl, by decide +kernel, by decide +kernel⟩
abbrev sSo : Stmt := topS 57
theorem scSo : FnScope ["thing", "columns", "one"] ["thing", "columns"] (defScope sSo) := ⟨rfl, rfl, rfl, by decide +kernel, rfl, by decide +kernel, by decide +kernel⟩
abbrev sTa : Stmt := topS 58
theorem scTa : FnScope ["thing", "name", "columns", "indexes", "unique"] ["thing"] (defScope sTa) := ⟨rfl, rfl, rfl, by decide +kernel, rfl, by decide +kernel, by decide +kernel⟩
structure Gs (mg : Str → Option Value) : Prop where
  parts : ∃ t, mg "TABLE_PARTS" = some (.int 4 t)
  most : ∃ t, mg "MOST_COLUMNS" = some (.int 3 t)
/-- columns of a table -/
structure ColOk (cs : List Str) : Prop where
  ne : 1 ≤ cs.length
  le : cs.length ≤ 3
  nd : cs.Nodup
  sh : ∀ z ∈ cs, Sh z
/-- a table of a schema, without indexes and keys -/
structure Tbl (K : PySem.W.Frag) (H : Hp) (a : Addr) (nm : Str) (c : Addr) (cs : List Str) : Prop where
  ex : ∃ i u, H a = some (.tup [.str nm, .ref c, .ref i, .ref u]) ∧ SqT K H i [] ∧ SqT K H u []
  col : SqT K H c (cs.map V.str)
  ok : ColOk cs
  nm : Sh nm
theorem Tbl.sm {K : PySem.W.Frag} {H H' : Hp} {a c : Addr} {nm : Str} {cs : List Str} (t : Tbl K H a nm c cs) (s : Sm [] H H') : Tbl K H' a nm c cs := by
  obtain ⟨i, u, h1, h2, h3⟩ := t.ex
  exact ⟨⟨i, u, s.keep h1, sqt_sm h2 s, sqt_sm h3 s⟩, sqt_sm t.col s, t.ok, t.nm⟩
section
variable {P : Program} {w : World} {K : PySem.W.Frag} {mg : Str → Option Value} {base : Heap}
def spAc (K : PySem.W.Frag) : Sp := fun vs H Q _ => ∃ (a : Addr) (cs : List Str), vs = [.ref a] ∧ SqT K H a (cs.map V.str) ∧ ColOk cs ∧ ∀ H', Sm [] H H' → Q (.bl true) H'
theorem ok_ac {f : Addr} {fd : FuncData} (F : Fun K "are_columns" "are_columns" sAc f fd) (B : Bn mg) (G : Gs mg) (cNs : Cal P w K mg base "are_names" ["thing"] 2 (spNs K)) (cDs : Cal P w K mg base "are_distinct" ["things"] 1 (spDs K)) : FnOk P w K mg base CX0 3 f fd ["thing"] (spAc K) := by
  refine F.ok scAc (fun vs H Q E h => ?_) (fun cdv A outer s H vs Q E hr h => ?_)
  · obtain ⟨a, cs, rfl, _⟩ := h
    rfl
  · obtain ⟨a, cs, rfl, hA, hc, q⟩ := h
    obtain ⟨tM, eM⟩ := G.most
    refine ⟨_, pss_one (ps_ret (pe_and (pe_own cNs hr (pa_cons (pv 0) pa_nil)) (pe_and (pe_chain op_le op_le pe_int (pe_callB call_len (by rfl) B.len boot_len (pa_cons (pv 0) pa_nil)) (pe_glob (v := .int 3) (by rfl) eM ⟨tM, rfl⟩)) (pe_one (pe_own (cDs.mono (by decide)) hr (pa_cons (pv 0) pa_nil)))))), ?_⟩
    have h1 := hc.ne
    have h3 := hc.le
    refine ⟨.ref a, rfl, a, cs, rfl, hA, by omega, hc.sh, fun H1 s1 => ⟨true, rfl, ?_⟩⟩
    have hA1 := sqt_sm hA s1
    refine ⟨.ref a, rfl, .ref a, cs.length, rfl, .inr ⟨_, hA1, by rw [List.length_map]⟩, _, _, rfl, rfl, _, rfl, ?_⟩
    refine ite2 (fun _ => ?_) fun n => absurd (decide_eq_true (show (1 : Int) ≤ (cs.length : Int) by omega)) n
    refine ⟨_, _, rfl, rfl, true, ?_, ?_⟩
    · exact congrArg V.bl (decide_eq_true (show (cs.length : Int) ≤ 3 by omega))
    · exact ⟨.ref a, rfl, a, cs, rfl, hA1, by omega, hc.nd, q H1 s1⟩
def spSo (K : PySem.W.Frag) : Sp := fun vs H Q _ => ∃ (a : Addr) (x : V), vs = [.ref a, x] ∧ SqT K H a [] ∧ ∀ H', Sm [] H H' → Q (.bl true) H'
theorem ok_so {f : Addr} {fd : FuncData} (F : Fun K "are_some" "are_some" sSo f fd) (B : Bn mg) (cNs : Cal P w K mg base "are_names" ["thing"] 2 (spNs K)) (cAs : Cal P w K mg base "do_ascend" ["things"] 1 (spAs K)) : FnOk P w K mg base CX0 3 f fd ["thing", "columns"] (spSo K) := by
  refine F.ok scSo (fun vs H Q E h => ?_) (fun cdv A outer s H vs Q E hr h => ?_)
  · obtain ⟨a, x, rfl, _⟩ := h
    rfl
  · obtain ⟨a, x, rfl, hA, q⟩ := h
    have nd := scSo.nd
    refine ⟨_, pss_one (ps_ret (pe_and (pe_own cNs hr (pa_cons (pv 0) pa_nil)) (pe_and (pe_own (cAs.mono (by decide)) hr (pa_cons (pv 0) pa_nil)) (pe_one (pe_callB (cr_all rfl) (by rfl) B.all boot_all (pa_cons
        (pe_lc (own := [("one", 2)]) (g := gName 2) (tt := tYes) (te := tOp (rIn K false) (tVar 2) (tVar 1)) rfl nd
          (pi_tup (pv 0)) (blkOk_by (N := ["thing", "columns", "one"]) (sc := defScope sSo) (by decide +kernel))
          (fun _ _ _ _ _ => pg_name (i := 2) nd rfl (.inl rfl)) (fun _ _ _ _ _ => pts_nil) (fun _ _ _ _ _ => pe_cmpR op_in_seq (pv 2) (pv 1) (by rfl))) pa_nil)))))), ?_⟩
    refine ⟨.ref a, rfl, a, [], rfl, hA, Nat.zero_le _, fun z h => absurd h (by simp), fun H1 s1 => ⟨true, rfl, ?_⟩⟩
    have hA1 := sqt_sm hA s1
    refine ⟨.ref a, rfl, a, rfl, .inr hA1, fun H2 s2 => ⟨true, rfl, ?_⟩⟩
    have hA2 := sqt_sm hA1 s2
    refine ⟨.ref a, rfl, a, rfl, ⟨_, hA2⟩, fun D hD => ?_⟩
    refine lc_it (walk_tup (K := K) (a := a) (xs := [])) (fun i H' => H' D = some (.lst []) ∧ Sm [] H2 H') ⟨upd_same, Sm.refl.new hD⟩ ?_ ?_ ?_
    · rintro i H' _ ⟨h1, h2⟩
      exact sqt_sm hA2 h2
    · rintro i x H3 H4 hi
      exact absurd hi (Nat.not_lt_zero _)
    · rintro H' ⟨h1, h2⟩
      exact ⟨D, [], rfl, SqL.of h1, q H' ((s1.trans s2).trans h2)⟩
def spTa (K : PySem.W.Frag) : Sp := fun vs H Q _ => ∃ (a : Addr) (nm : Str) (c : Addr) (cs : List Str), vs = [.ref a] ∧ Tbl K H a nm c cs ∧ ∀ H', Sm [] H H' → Q (.bl true) H'
theorem ok_ta {f : Addr} {fd : FuncData} (F : Fun K "is_table" "is_table" sTa f fd) (B : Bn mg) (G : Gs mg) (cIn : Cal P w K mg base "is_name" ["thing"] 1 spIn) (cAc : Cal P w K mg base "are_columns" ["thing"] 3 (spAc K)) (cSo : Cal P w K mg base "are_some" ["thing", "columns"] 3 (spSo K)) : FnOk P w K mg base CX0 4 f fd ["thing"] (spTa K) := by
  refine F.ok scTa (fun vs H Q E h => ?_) (fun cdv A outer s H vs Q E hr h => ?_)
  · obtain ⟨a, nm, c, cs, rfl, _⟩ := h
    rfl
  · obtain ⟨a, nm, c, cs, rfl, hT, q⟩ := h
    have nd := scTa.nd
    obtain ⟨tP, eP⟩ := G.parts
    refine ⟨_, pss_cons (ps_if (PW.pt (pw_or (pt_not (pt_val (pe_is B B.tuple boot_tuple (pv 0)))) (pw_or1 (pt_cmpR op_ne (pe_callB call_len (by rfl) B.len boot_len (pa_cons (pv 0) pa_nil)) (pe_glob (v := .int 4) (by rfl) eP ⟨tP, rfl⟩) (nomark _))))) (pss_one (ps_ret pe_bl)) pss_nil)
      (pss_cons (ps_asg (pv 0) (pg_tup rfl (pgs_cons (pg_name (i := 1) nd rfl (.inl rfl)) (pgs_cons (pg_name (i := 2) nd rfl (.inl rfl)) (pgs_cons (pg_name (i := 3) nd rfl (.inl rfl)) (pgs_cons (pg_name (i := 4) nd rfl (.inl rfl)) pgs_nil))))))
      (pss_cons (ps_if (PW.pt (pw_or (pt_not (pt_val (pe_own (cIn.mono (by decide)) hr (pa_cons (pv 1) pa_nil)))) (pw_or1 (pt_not (pt_val (pe_own cAc hr (pa_cons (pv 2) pa_nil))))))) (pss_one (ps_ret pe_bl)) pss_nil)
      (pss_one (ps_ret (pe_and (pe_own cSo hr (pa_cons (pv 3) (pa_cons (pv 2) pa_nil))) (pe_one (pe_own cSo hr (pa_cons (pv 4) (pa_cons (pv 2) pa_nil)))))))))  , ?_⟩
    obtain ⟨i, u, h1, h2, h3⟩ := hT.ex
    refine ⟨.ref a, rfl, .ref a, "tuple", "tuple", true, rfl, TyX.tup h1, by decide +kernel, true, rfl, ite2 (fun z => by cases z) fun _ => ?_⟩
    refine ⟨.ref a, rfl, .ref a, 4, rfl, .inr ⟨_, SqT.of h1, rfl⟩, rfl, _, rfl, ite2 (fun z => by simp at z) fun _ => ?_⟩
    refine next_in ?_
    dsimp only
    refine ⟨.ref a, rfl, a, _, rfl, SqT.of h1, rfl, _, _, rfl, _, _, rfl, _, _, rfl, _, _, rfl, rfl, ?_⟩
    refine ⟨.str nm, rfl, nm, rfl, hT.nm, fun H1 s1 => ⟨true, rfl, ite2 (fun z => by cases z) fun _ => ?_⟩⟩
    refine ⟨.ref c, rfl, c, cs, rfl, sqt_sm hT.col s1, hT.ok, fun H2 s2 => ⟨true, rfl, ite2 (fun z => by cases z) fun _ => ?_⟩⟩
    refine next_in ?_
    dsimp only
    have s12 := s1.trans s2
    refine ⟨.ref i, rfl, .ref c, rfl, i, _, rfl, sqt_sm h2 s12, fun H3 s3 => ⟨true, rfl, ?_⟩⟩
    exact ⟨.ref u, rfl, .ref c, rfl, u, _, rfl, sqt_sm h3 (s12.trans s3), fun H4 s4 => q H4 ((s12.trans s3).trans s4)⟩
end
end K92

/-! NoTable: made and raised -/
namespace K92
open PySem PySem.Spec PyProof.Rows L2
abbrev sNt : Stmt := inClass (topS 7) 0
theorem scNt : FnScope ["self", "name"] ["self", "name"] (defScope sNt) := ⟨rfl, rfl, rfl, by decide +kernel, rfl, by decide +kernel, by decide +kernel⟩
/-- what the top has made of NoTable -/
structure NtC (K : PySem.W.Frag) (mg : Str → Option Value) (C fI WE : Addr) : Prop where
  oex : OexC K C
  iC : PySem.W.findIn K (.ref C) "__init__" = some (some (.ref fI))
  tI : PySem.W.typeIn K (.ref fI) = some (.type "function")
  gC : mg "NoTable" = some (.ref C)
  noN : PySem.W.findIn K (.ref C) "name" = some none
  wE : mg "WakeError" = some (.ref WE)
  wR : ClX.CRead K WE (.type "type")
  wI : PySem.W.findCls K (.ref WE) (.type "type") "__init__" = some (.val (.builtin "ValueError.__init__"))
section
variable {P : Program} {w : World} {K : PySem.W.Frag} {mg : Str → Option Value} {base : Heap}
def spNt (C : Addr) : Sp := fun vs H Q _ => ∃ (a : Addr) (x : V), vs = [.ref a, x] ∧ H a = some (exo a C none) ∧ ∀ d, H d = none → d ≠ a → Q .non (upd (upd H d (exd d [("name", x)])) a (exo a C (some d)))
theorem ok_nt {f C WE : Addr} {fd : FuncData} (F : Fun K "__init__" "NoTable.__init__" sNt f fd) (T : NtC K mg C f WE) : FnOk P w K mg base CX0 1 f fd ["self", "name"] (spNt C) := by
  refine F.ok scNt (fun vs H Q E h => ?_) (fun cdv A outer s H vs Q E hr h => ?_)
  · obtain ⟨a, x, rfl, _⟩ := h
    rfl
  · obtain ⟨a, x, rfl, ea, q⟩ := h
    refine ⟨_, pss_cons (ps_expr (pe_winit (by rfl) T.wE T.wR T.wI (pa_cons (pv 0) (pa_cons pe_str pa_nil)))) (pss_one (ps_ost (pv 0) (pv 1))), ?_⟩
    refine ⟨.ref a, rfl, a, C, _, rfl, (by show 1 ≤ 1000; decide), T.oex, ea, ?_⟩
    exact ⟨x, rfl, .ref a, rfl, a, C, rfl, T.oex, T.noN, .inl ⟨ea, fun d hd ne => q d hd ne⟩⟩
/-- raise NoTable(x) -/
theorem pmk_nt {X : Cx} {C f WE : Addr} {fd : FuncData} {e : Expr} {te : TE} {p pos : Pos} (T : NtC X.K X.mg C f WE) (F1 : FnOk X.prog X.w X.K X.mg X.base CX0 1 f fd ["self", "name"] (spNt C)) (hr : Room 2 X.A) (hb : Binds X.K fd ["self", "name"] []) (he : PE X e te) (hg : Gl X "NoTable" := by rfl)
    (hs : starEach [e] X.env = (false, eval e X.env) :: starEach [] X.env := by rfl) : PMk X (.Call (.Name "NoTable" p) [e] [] pos) (tMkO C (spNt C) [] (tCons te tNil)) :=
  pmk_oex T.oex T.iC T.tI F1 hr hb .nil pass0 hg T.gC (pa_cons he pa_nil (hs := hs)) (by decide) hs (by rfl)
theorem nt_rd {C : Addr} {i : Nat} {σ : L2.St} {H : Hp} {Q : XK} {x : V} (h : σ[i]? = some (some x)) (q : ∀ d H', Sm [] H H' → H d = none → H' d = some (.xd [("name", x)]) → Q (.ref C) (some d) H') : tMkO C (spNt C) [] (tCons (tVar i) tNil) σ H Q := by
  refine ⟨x, h, (by show 1 ≤ 1000; decide), fun a ha => ⟨a, x, rfl, upd_same, fun d hd ne => ⟨rfl, d, [("name", x)], upd_same, ?_, ?_, ?_⟩⟩⟩
  · rw [upd_ne ne]
    exact upd_same
  · rw [upd_ne ne] at hd
    exact hd
  · rw [upd_ne ne] at hd
    refine q d _ (fun b o e _ => ?_) hd upd_same
    have nb : b ≠ a := ne_of_none e ha
    have nd : b ≠ d := ne_of_none e hd
    rw [upd_ne nd, del_ne nb, upd_ne nb, upd_ne nd, upd_ne nb]
    exact e
end
end K92

/-! class Schema -/
namespace K92
open PySem PySem.Spec PyProof.Rows L2
abbrev sSi : Stmt := inClass (topS 64) 0
theorem scSi : FnScope ["self", "tables", "index", "table", "one"] ["self", "tables"] (defScope sSi) := ⟨rfl, rfl, rfl, by decide +kernel, rfl, by decide +kernel, by decide +kernel⟩
abbrev sSt : Stmt := inClass (topS 64) 1
theorem scSt : FnScope ["self"] ["self"] (defScope sSt) := ⟨rfl, rfl, rfl, by decide +kernel, rfl, by decide +kernel, by decide +kernel⟩
abbrev sSg : Stmt := inClass (topS 64) 4
theorem scSg : FnScope ["self", "name", "table"] ["self", "name"] (defScope sSg) := ⟨rfl, rfl, rfl, by decide +kernel, rfl, by decide +kernel, by decide +kernel⟩
abbrev sSc : Stmt := inClass (topS 64) 6
theorem scSc : FnScope ["self", "name", "table"] ["self", "name"] (defScope sSc) := ⟨rfl, rfl, rfl, by decide +kernel, rfl, by decide +kernel, by decide +kernel⟩
/-- a table where it stands -/
structure TbE where
  a : Addr
  nm : Str
  c : Addr
  cs : List Str
abbrev rfs (L : List TbE) : List V := L.map fun e => V.ref e.a
def TbAll (K : PySem.W.Frag) (H : Hp) (L : List TbE) : Prop := ∀ e ∈ L, Tbl K H e.a e.nm e.c e.cs
theorem TbAll.sm {K : PySem.W.Frag} {H H' : Hp} {L : List TbE} (t : TbAll K H L) (s : Sm [] H H') : TbAll K H' L := fun e h => (t e h).sm s
theorem sqt_but {K : PySem.W.Frag} {H H' : Hp} {p a : Addr} {xs : List V} (h : SqT K H a xs) (s : Sm [p] H H') (n : ∀ o, H p = some o → (∀ xs, o ≠ .tup xs) ∧ ∀ o' u, o ≠ .frz o' u) : SqT K H' a xs := by
  rcases h with (h | ⟨o, h⟩) | h
  · exact .inl (.inl (s _ _ h fun z => by
      rw [List.mem_singleton] at z
      exact (n _ (z ▸ h)).1 xs rfl))
  · exact .inl (.inr ⟨o, s _ _ h fun z => by
      rw [List.mem_singleton] at z
      exact (n _ (z ▸ h)).2 _ _ rfl⟩)
  · exact .inr h
theorem TbAll.but {K : PySem.W.Frag} {H H' : Hp} {p : Addr} {L : List TbE} (t : TbAll K H L) (s : Sm [p] H H') (n : ∀ o, H p = some o → (∀ xs, o ≠ .tup xs) ∧ ∀ o' u, o ≠ .frz o' u) : TbAll K H' L := fun e h => by
  obtain ⟨⟨i, u, h1, h2, h3⟩, h4, h5, h6⟩ := t e h
  refine ⟨⟨i, u, s _ _ h1 fun z => ?_, sqt_but h2 s n, sqt_but h3 s n⟩, sqt_but h4 s n, h5, h6⟩
  rw [List.mem_singleton] at z
  exact (n _ (z ▸ h1)).1 _ rfl
/-- a schema with these tables -/
structure SchAt (K : PySem.W.Frag) (C : Addr) (H : Hp) (s : Addr) (L : List TbE) : Prop where
  ex : ∃ dx t, H s = some (.ins C dx [("tables_kept", .ref t)]) ∧ H t = some (.tup (rfs L))
  all : TbAll K H L
  nd : (L.map TbE.nm).Nodup
  few : L.length ≤ 4
theorem SchAt.sm {K : PySem.W.Frag} {C : Addr} {H H' : Hp} {a : Addr} {L : List TbE} (t : SchAt K C H a L) (s : Sm [] H H') : SchAt K C H' a L := by
  obtain ⟨dx, p, h1, h2⟩ := t.ex
  exact ⟨⟨dx, p, s.keep h1, s.keep h2⟩, t.all.sm s, t.nd, t.few⟩
/-- what the top has made of Schema -/
structure SchC (K : PySem.W.Frag) (mg : Str → Option Value) (C fi fp fg fc p : Addr) : Prop where
  cl : Cls K C
  mkS : Mk K C fi
  nK : NoAttr K C "tables_kept"
  gC : mg "Schema" = some (.ref C)
  pr : PropOf K C "tables" p fp
  gi : PySem.W.findIn K (.ref C) "__getitem__" = some (some (.ref fg))
  gn : PySem.W.fnIn K fg = true
  gf : PySem.W.isFn K (.ref fg) = true
  ci : PySem.W.findIn K (.ref C) "__contains__" = some (some (.ref fc))
  cf : PySem.W.isFn K (.ref fc) = true
/-- the names of the first tables, listed -/
theorem ix_tab {K : PySem.W.Frag} {H : Hp} {Q : VK} {e : TbE} (t : Tbl K H e.a e.nm e.c e.cs) (q : Q (.str e.nm) H) : rIx K (.ref e.a) (.int 0) H Q := by
  obtain ⟨i, u, h1, _, _⟩ := t.ex
  exact .inr (.inl ⟨e.a, _, 0, _, rfl, rfl, SqT.of h1, by rfl, q⟩)
theorem rf_at {L : List TbE} {i : Nat} {x : V} (h : (rfs L)[i]? = some x) : ∃ e, L[i]? = some e ∧ x = .ref e.a := by
  rw [List.getElem?_map] at h
  cases q : L[i]? with
  | none => rw [q] at h; cases h
  | some e => rw [q] at h; exact ⟨e, rfl, (Option.some.inj h).symm⟩
section
variable {P : Program} {w : World} {K : PySem.W.Frag} {mg : Str → Option Value} {base : Heap}
theorem perm_map {α β : Type} {f : α → β} {ys : List β} {L : List α} (h : ys.Perm (L.map f)) : ∃ L' : List α, L'.Perm L ∧ ys = L'.map f := by
  generalize e : L.map f = zs at h
  induction h generalizing L with
  | nil =>
    obtain rfl : L = [] := List.map_eq_nil_iff.mp e
    exact ⟨[], .nil, rfl⟩
  | cons x h ih =>
    obtain ⟨a, l, rfl, rfl, e2⟩ := List.map_eq_cons_iff.mp e
    obtain ⟨L', p, rfl⟩ := ih e2
    exact ⟨a :: L', p.cons a, rfl⟩
  | swap x y l =>
    obtain ⟨a, l1, rfl, rfl, e2⟩ := List.map_eq_cons_iff.mp e
    obtain ⟨b, l2, rfl, rfl, rfl⟩ := List.map_eq_cons_iff.mp e2
    exact ⟨b :: a :: l2, .swap _ _ _, rfl⟩
  | trans _ _ ih1 ih2 =>
    obtain ⟨L1, p1, rfl⟩ := ih2 e
    obtain ⟨L2, p2, rfl⟩ := ih1 rfl
    exact ⟨L2, p2.trans p1, rfl⟩
/-- what a table stands for, for sorting -/
def encE (e : TbE) : PyData := .tuple [.str e.nm, .tuple (e.cs.map .str), .tuple [], .tuple []]
def encT (L : List TbE) (x : V) : PyData := match L.find? (fun e => decide (V.ref e.a = x)) with
  | some e => encE e
  | none => .tuple [.int 0]
theorem encT_at {L : List TbE} {x : V} (h : x ∈ rfs L) : ∃ e ∈ L, x = .ref e.a ∧ encT L x = encE e := by
  obtain ⟨e0, h0, rfl⟩ := List.mem_map.mp h
  unfold encT
  cases q : L.find? (fun e => decide (V.ref e.a = V.ref e0.a)) with
  | none =>
    have := List.find?_eq_none.mp q e0 h0
    simp at this
  | some e =>
    have h1 := List.find?_some q
    exact ⟨e, List.mem_of_find?_eq_some q, (of_decide_eq_true h1).symm, rfl⟩
theorem alike_strs : ∀ a b : List Str, PySem.W.alikeAll (a.map PyData.str) (b.map PyData.str) = true
  | [], _ => by simp [PySem.W.alikeAll]
  | _ :: _, [] => by simp [PySem.W.alikeAll]
  | x :: a, y :: b => by simp [PySem.W.alikeAll, PySem.W.alike, alike_strs a b]
theorem depth_strs : ∀ a : List Str, PyData.depthAll (a.map PyData.str) = 0
  | [] => by simp [PyData.depthAll]
  | x :: a => by simp [PyData.depthAll, PyData.depth, depth_strs a]
theorem alike_encE (e f : TbE) : PySem.W.alike (encE e) (encE f) = true := by
  simp [encE, PySem.W.alike, PySem.W.alikeAll, alike_strs]
theorem depth_encE (e : TbE) : (encE e).depth ≤ 5 := by
  simp [encE, PyData.depth, PyData.depthAll, depth_strs]
theorem dp_strs {H : Hp} : ∀ a : List Str, DpAll K H (a.map V.str) (a.map PyData.str)
  | [] => .nil
  | x :: a => .cons (.str x) (dp_strs a)
theorem dp_encE {H : Hp} {e : TbE} (t : Tbl K H e.a e.nm e.c e.cs) : Dp K H (.ref e.a) (encE e) := by
  obtain ⟨i, u, h1, h2, h3⟩ := t.ex
  exact .tup (SqT.of h1) (.cons (.str _) (.cons (.tup t.col (dp_strs _)) (.cons (.tup h2 .nil) (.cons (.tup h3 .nil) .nil))))
/-- what a list comprehension still asks -/
abbrev LcG (J : It) (g : TG) (tt : TT) (te : TE) (vs : List Nat) (σ : L2.St) (D : Addr) (H1 : Hp) (Qd : Hp → Prop) : Prop := ∃ W : Nat → Nat → Hp → Prop, (∃ m, W 0 m (upd H1 D (.lst []))) ∧ ∀ i m H, W i m H →
  (J.stop i H ∧ Qd H) ∨ (J.go i H ∧ ∃ Nx : Hp → Prop, (∀ H', Nx H' → ∃ m', m' < m ∧ W (i + 1) m' H') ∧ ∀ x H', J.yld i H x H' → g x (wipe σ vs) H' fun σ2 H2 => wipe σ2 vs = wipe σ vs ∧ tt σ2 H2 fun b H3 =>
    if b = true then te σ2 H3 fun y H4 => ∃ acc, H4 D = some (.lst acc) ∧ acc.length < sizeLine ∧ Nx (upd H4 D (.lst (acc ++ [y]))) else Nx H3)
abbrev nms (M : List TbE) : List V := (M.map TbE.nm).map V.str
/-- the names of tables, listed -/
theorem nms_it {H1 : Hp} {p D : Addr} {M : List TbE} {Qd : Hp → Prop} {x0 x1 y2 y3 : Option V} (h : SqT K H1 p (rfs M)) (t : TbAll K H1 M) (few : M.length ≤ 4) (hD : H1 D = none) (q : ∀ H', Sm [] H1 H' → H' D = some (.lst (nms M)) → Qd H') :
    LcG (Itt K p) (gName 4) tYes (tOp (rIx K) (tVar 4) (tC (.int 0))) [4] [x0, x1, y2, y3, none] D H1 Qd := by
  refine lc_it (walk_tup (K := K) (a := p) (xs := rfs M)) (fun i H' => H' D = some (.lst (nms (M.take i))) ∧ Sm [] H1 H') ⟨upd_same, Sm.refl.new hD⟩ ?_ ?_ ?_
  · rintro i H' _ ⟨h1, h2⟩
    exact sqt_sm h h2
  · rintro i x H3 H4 hi ⟨h1, h2⟩ ⟨rfl, hx⟩
    obtain ⟨e, he, rfl⟩ := rf_at hx
    have em := List.mem_of_getElem? he
    have il := (List.getElem?_eq_some_iff.mp he).1
    refine ⟨rfl, .ref e.a, rfl, ix_tab ((t e em).sm h2) ⟨nms (M.take i), h1, ?_, ?_, h2.own hD⟩⟩
    · rw [List.length_map, List.length_map, List.length_take]
      exact small16 (by omega)
    · rw [upd_same, List.take_add_one, he, Option.toList_some]
      simp [nms]
  · rintro H' ⟨h1, h2⟩
    rw [List.length_map, List.take_length] at h1
    exact q H' h2 h1
/-- the same in __contains__ -/
theorem nms_it2 {H1 : Hp} {p D : Addr} {M : List TbE} {Qd : Hp → Prop} {x0 x1 : Option V} (h : SqT K H1 p (rfs M)) (t : TbAll K H1 M) (few : M.length ≤ 4) (hD : H1 D = none) (q : ∀ H', Sm [] H1 H' → H' D = some (.lst (nms M)) → Qd H') :
    LcG (Itt K p) (gName 2) tYes (tOp (rIx K) (tVar 2) (tC (.int 0))) [2] [x0, x1, none] D H1 Qd := by
  refine lc_it (walk_tup (K := K) (a := p) (xs := rfs M)) (fun i H' => H' D = some (.lst (nms (M.take i))) ∧ Sm [] H1 H') ⟨upd_same, Sm.refl.new hD⟩ ?_ ?_ ?_
  · rintro i H' _ ⟨h1, h2⟩
    exact sqt_sm h h2
  · rintro i x H3 H4 hi ⟨h1, h2⟩ ⟨rfl, hx⟩
    obtain ⟨e, he, rfl⟩ := rf_at hx
    have em := List.mem_of_getElem? he
    have il := (List.getElem?_eq_some_iff.mp he).1
    refine ⟨rfl, .ref e.a, rfl, ix_tab ((t e em).sm h2) ⟨nms (M.take i), h1, ?_, ?_, h2.own hD⟩⟩
    · rw [List.length_map, List.length_map, List.length_take]
      exact small16 (by omega)
    · rw [upd_same, List.take_add_one, he, Option.toList_some]
      simp [nms]
  · rintro H' ⟨h1, h2⟩
    rw [List.length_map, List.take_length] at h1
    exact q H' h2 h1
/-- __init__ -/
def spSi (K : PySem.W.Frag) (C : Addr) : Sp := fun vs H Q _ => ∃ (a dx t : Addr) (L : List TbE), vs = [.ref a, .ref t] ∧ H a = some (.ins C dx []) ∧ H t = some (.tup (rfs L)) ∧ TbAll K H L ∧ (L.map TbE.nm).Nodup ∧ L.length ≤ 4 ∧
  ∀ H' L', L'.Perm L → Sm [a] H H' → SchAt K C H' a L' → Q .non H'
theorem ok_si {f C fp fg fc p : Addr} {oc dV kV doc pm cdv ct : Value} {od an : Option Addr} {osl : Array (Option Value)} (B : Bn mg) (T : SchC K mg C f fp fg fc p) (cTa : Cal P w K mg base "is_table" ["thing"] 4 (spTa K))
    (lk : K.lookup f = some ⟨oc, od, .func (PySem.W.fnOf "__init__" "Schema.__init__" (defArgs sSi) (defBody sSi) (defScope sSi) dV kV doc pm an cdv ct), osl⟩) (hcd : PySem.W.codeIn K cdv "Schema.__init__" = true)
    (hb : ∀ us rest : List Value, us.length = (["self"] : List Str).length → bindArgs (PySem.W.fnOf "__init__" "Schema.__init__" (defArgs sSi) (defBody sSi) (defScope sSi) dV kV doc pm an cdv ct) ⟨us ++ rest, []⟩ = (newTuple rest >>= fun t => pure ((["self"] : List Str).zip us ++ [(("tables" : Str), t)]))) :
    FnR P w K mg base CX0 5 f (fun vs H Q E => ∃ ws rest, vs = ws ++ rest ∧ ws.length = (["self"] : List Str).length ∧ rest.length ≤ sizeLine ∧ ∀ p, H p = Option.none → spSi K C (ws ++ [V.ref p]) (upd H p (.tup rest)) Q E) := by
  refine StX.fn_star (ps := ["self"]) (pv := "tables") lk hcd scSi StX.cxUp_none hb fun A outer s H vs Q E hr h => ?_
  obtain ⟨a, dx, t, L, rfl, hA, hT, hall, hnd, hl, q⟩ := h
  have nd := scSi.nd
  refine ⟨_, pss_cons (ps_for (passes_of rfl) rfl (pi_enT (by rfl) B.enumerate (pa_cons (pv 1) pa_nil)) (pg_tup rfl (pgs_cons (pg_name (i := 2) nd rfl (.inl rfl)) (pgs_cons (pg_name (i := 3) nd rfl (.inl rfl)) pgs_nil)))
      (pss_one (ps_if (PW.pt (pw_or (pt_not (pt_val (pe_own cTa hr (pa_cons (pv 3) pa_nil)))) (pw_or1 (pt_cmpR op_in_seq (pe_ix ix_seq (pv 3) pe_int (fun _ _ => rfl))
        (pe_lc (own := [("one", 4)]) (g := gName 4) (tt := tYes) (te := tOp (rIx K) (tVar 4) (tC (.int 0))) rfl nd (pi_tup (pe_slice sl_tupA (pv 1) po_none (po_some (pv 2)))) (blkOk_by (N := ["self", "tables", "index", "table", "one"]) (sc := defScope sSi) (by decide +kernel))
          (fun _ _ _ _ _ => pg_name (i := 4) nd rfl (.inl rfl)) (fun _ _ _ _ _ => pts_nil) (fun _ _ _ _ _ => pe_ix ix_seq (pv 4) pe_int (fun _ _ => rfl))) (by rfl))))) (pss_one ps_never) pss_nil)))
    (pss_one (ps_fld (pv 0) (pe_callTy call_tuple_of (by rfl) B.tuple boot_tuple (pa_cons (pe_callB (cr_sortTD (un8_of hr)) (by rfl) B.sorted boot_sorted (pa_cons (pv 1) pa_nil)) pa_nil)) rfl)), ?_⟩
  have hxl : (rfs L).length = L.length := List.length_map ..
  have nTa : t ≠ a := ne_of hT hA (by intro z; cases z)
  refine ⟨.ref t, rfl, t, rfs L, rfl, SqT.of hT, for_it (walk_enT (xs := rfs L)) (fun i σ H' => ∃ y2 y3 : Option V, σ = [some (.ref a), some (.ref t), y2, y3, none] ∧ Sm [] H H') ?_ ?_ ?_ ?_⟩
  · exact ⟨none, none, rfl, Sm.refl⟩
  · rintro i σ H' _ ⟨y2, y3, rfl, s1⟩
    exact SqT.of (s1.keep hT)
  · rintro i x σ H1 H2 hi ⟨y2, y3, rfl, s1⟩ ⟨T0, n0, x0, rfl, hT0, rfl, en, hx⟩
    cases en
    obtain ⟨e, he, rfl⟩ := rf_at hx
    have em := List.mem_of_getElem? he
    have s2 : Sm [] H (upd H1 T0 (.tup [.int (i : Nat), .ref e.a])) := s1.new hT0
    have e2 : (upd H1 T0 (.tup [.int (i : Nat), .ref e.a])) T0 = some (.tup [.int (i : Nat), .ref e.a]) := upd_same
    generalize upd H1 T0 (.tup [.int (i : Nat), .ref e.a]) = H2 at s2 e2
    refine ⟨T0, _, rfl, SqT.of e2, rfl, _, _, rfl, _, _, rfl, rfl, ?_⟩
    refine ⟨.ref e.a, rfl, e.a, e.nm, e.c, e.cs, rfl, (hall e em).sm s2, fun H3 s3 => ⟨true, rfl, ite2 (fun z => by cases z) fun _ => ?_⟩⟩
    have s23 := s2.trans s3
    refine ⟨.ref e.a, rfl, ix_tab ((hall e em).sm s23) ?_⟩
    have il : i < L.length := (List.getElem?_eq_some_iff.mp he).1
    have hcut : cutV (rfs L) none (some (i : Int)) = rfs (L.take i) := by
      unfold cutV
      rw [HT.sIx_none, HT.sIx_nat, List.drop_zero, Nat.sub_zero, Nat.min_eq_left (by omega), rfs, rfs, List.map_take]
    have tail : inV (.str e.nm) (nms (L.take i)) = false := by
      rw [inV_str]
      refine decide_eq_false fun hm => ?_
      obtain ⟨f, hf, ef⟩ := List.mem_map.mp hm
      obtain ⟨j, hj⟩ := List.mem_iff_getElem?.mp hf
      rw [List.getElem?_take] at hj
      by_cases hji : j < i
      · rw [if_pos hji] at hj
        have e1 : (L.map TbE.nm)[j]? = some e.nm := by
          rw [List.getElem?_map, hj, ← ef]
          rfl
        have e2 : (L.map TbE.nm)[i]? = some e.nm := by
          rw [List.getElem?_map, he]
          rfl
        obtain ⟨l1, e1⟩ := List.getElem?_eq_some_iff.mp e1
        obtain ⟨l2, e2⟩ := List.getElem?_eq_some_iff.mp e2
        exact absurd (e1.trans e2.symm) (List.pairwise_iff_getElem.mp hnd j i l1 l2 hji)
      · rw [if_neg hji] at hj
        cases hj
    have few : (L.take i).length ≤ 4 := by
      rw [List.length_take]
      omega
    refine ⟨.ref t, rfl, .int i, rfl, i, rfl, t, rfs L, rfl, SqT.of (s23.keep hT), fun hw => ?_, fun hn p hp => ?_⟩
    · exfalso
      rw [HT.sIx_nat, hxl, Nat.min_eq_left (by omega)] at hw
      omega
    · rw [hcut]
      have s4 : Sm [] H3 (upd H3 p (.tup (rfs (L.take i)))) := Sm.refl.new hp
      have e4 : (upd H3 p (.tup (rfs (L.take i)))) p = some (.tup (rfs (L.take i))) := upd_same
      generalize upd H3 p (.tup (rfs (L.take i))) = H4 at s4 e4
      refine ⟨p, rfl, ⟨_, SqT.of e4⟩, fun D hD => nms_it (p := p) (M := L.take i) (SqT.of e4) (fun f hf => (hall f (List.mem_of_mem_take hf)).sm (s23.trans s4)) few hD fun H5 s5 h5 => ?_⟩
      refine ⟨D, _, rfl, .inl (SqL.of h5), rfl, flat_strs _, _, rfl, ?_⟩
      rw [if_neg (by simp), tail]
      exact ite2 (fun z => by cases z) fun _ => ⟨_, _, rfl, (s23.trans s4).trans s5⟩
  · rintro σ H1 ⟨y2, y3, rfl, s1⟩
    have hT1 := s1.keep hT
    have hall1 := hall.sm s1
    have xe : ∀ {x}, x ∈ rfs L → ∃ e ∈ L, x = .ref e.a ∧ encT L x = encE e := fun h => encT_at h
    refine ⟨.ref t, rfl, t, rfs L, encT L, rfl, SqT.of hT1, fun x hx => ?_, ?_, ?_, fun x hx => ?_, fun l hl2 => ?_⟩
    · obtain ⟨e, em, rfl, ee⟩ := xe hx
      rw [ee]
      exact dp_encE (hall1 e em)
    · intro d hd d' hd'
      obtain ⟨x, hx, rfl⟩ := List.mem_map.mp hd
      obtain ⟨x', hx', rfl⟩ := List.mem_map.mp hd'
      obtain ⟨e, _, _, ee⟩ := xe hx
      obtain ⟨e', _, _, ee'⟩ := xe hx'
      rw [ee, ee']
      exact alike_encE e e'
    · refine .inl fun d hd => ?_
      obtain ⟨x, hx, rfl⟩ := List.mem_map.mp hd
      obtain ⟨e, _, _, ee⟩ := xe hx
      rw [ee]
      exact ⟨_, _, rfl⟩
    · obtain ⟨e, _, _, ee⟩ := xe hx
      rw [ee]
      exact depth_encE e
    · obtain ⟨L', pL, eL⟩ := perm_map (List.mergeSort_perm (rfs L) (PySem.W.dataLe false (encT L)))
      rw [eL]
      have s2 : Sm [] H (upd H1 l (.lst (L'.map fun e => V.ref e.a))) := s1.new hl2
      have e2 : (upd H1 l (.lst (L'.map fun e => V.ref e.a))) l = some (.lst (rfs L')) := upd_same
      generalize upd H1 l (.lst (L'.map fun e => V.ref e.a)) = H2 at s2 e2
      refine ⟨l, _, rfl, .inl ⟨SqL.of e2, fun u hu => ?_⟩⟩
      have s3 : Sm [] H (upd H2 u (.tup (rfs L'))) := s2.new hu
      have e3 : (upd H2 u (.tup (rfs L'))) u = some (.tup (rfs L')) := upd_same
      generalize upd H2 u (.tup (rfs L')) = H3 at s3 e3
      have hA3 := s3.keep hA
      refine ⟨.ref a, rfl, a, C, dx, [], rfl, hA3, T.cl, T.nK, (by decide), ?_⟩
      have s4 : Sm [a] H (upd H3 a (.ins C dx (putF "tables_kept" (.ref u) []))) := s3.nil.put (by simp)
      have nua : u ≠ a := ne_of e3 hA3 (by intro z; cases z)
      have hAn : ∀ o, H a = some o → (∀ xs, o ≠ .tup xs) ∧ ∀ o' u, o ≠ .frz o' u := fun o e => by
        rw [hA] at e
        cases e
        exact ⟨fun xs z => (by cases z), fun o' u z => (by cases z)⟩
      refine q _ L' pL s4 ⟨⟨dx, u, upd_same, ?_⟩, fun e he => (hall.but s4 hAn) e (pL.mem_iff.mp he), (pL.map TbE.nm).nodup_iff.mpr hnd, by rw [pL.length_eq]; exact hl⟩
      rw [upd_ne nua]
      exact e3
end
end K92

/-! Schema: __contains__, __getitem__ -/
namespace K92
open PySem PySem.Spec PyProof.Rows L2
open AutoSeq1 (wpAny_loadPart')
/-! ### a text beside any value -/
theorem dict_eq_str (a : Addr) (c : Value) (dt : Data) (dd : Option Addr) (sl : Array (Option Value)) (b : Str) (u : Nat) :
    Meets (Builtin.«dict.__eq__» ⟨[.ref a, .str b u], []⟩) (fun _ R s => s.heap.get? a = some { cls := .type "dict", dict := dd, data := dt, slots := sl } ∧ R (.ok (.ret .notImplemented)) s) :=
  .of_wp fun prog w A R s h => by
    obtain ⟨hp, g, d, tk, os⟩ := s
    obtain ⟨hl, h⟩ := h
    have f1 := PySem.F.sub_str_dict
    wp_walk using wpAny_loadPart' hl
    exact ⟨_, rfl, h⟩
theorem str_eq_dict (a : Addr) (es : Array DictEntry) (n : Nat) (dd : Option Addr) (sl : Array (Option Value)) (b : Str) (u : Nat) :
    Meets (Builtin.«str.__eq__» ⟨[.str b u, .ref a], []⟩) (fun _ R s => s.heap.get? a = some { cls := .type "dict", dict := dd, data := .dict es n, slots := sl } ∧ R (.ok (.ret .notImplemented)) s) :=
  .of_wp fun prog w A R s h => by
    obtain ⟨hp, g, d, tk, os⟩ := s
    obtain ⟨hl, h⟩ := h
    wp_walk using wpAny_loadPart' hl, wpAny_load hl
    exact ⟨_, rfl, h⟩
theorem shaped_str {z : Str} (h : PyData.strOk z = true) : SeqAt.shaped (.str z) = true := by
  simp [SeqAt.shaped, PyData.canLay0, PyData.depth, h]
theorem sh_strOk {z : Str} (h : Sh z) : PyData.strOk z = true := by
  unfold PyData.strOk
  rw [← Array.all_toList, List.all_eq_true]
  intro c hc
  have := h.sp.ok c hc
  exact decide_eq_true (by omega)
section
variable {X : Cx}
/-- a text == any value: data, or a dict -/
def rEqM (K : PySem.W.Frag) : R2 := fun x y H Q => ∃ z : Str, x = .str z ∧ ((∃ e, PyData.strOk z = true ∧ Dp K H y e ∧ SeqAt.shaped e = true ∧ Q (.bl (PyData.eqv (.str z) e)) H) ∨ ∃ d kvs, y = .ref d ∧ H d = some (.dK kvs) ∧ Q (.bl false) H)
theorem op_eqM (hu : X.A.units + 64 < cLine) : OpR X (compareOp .Eq) (rEqM X.K) := by
  intro pins s σ H x y v u Q I rx ry h
  obtain ⟨z, rfl, ⟨e, zo, he, se, q⟩ | ⟨d, kvs, rfl, hd, q⟩⟩ := h
  · exact op_eqD hu pins s σ H (.str z) y v u Q I rx ry ⟨.str z, e, .str z, he, shaped_str zo, se, q⟩
  · obtain ⟨t, rfl⟩ := (show ∃ t, v = Value.str z t from rx)
    cases (show u = Value.ref d from ry)
    obtain ⟨_, _, vs, _, ob, es, ep, ho, ⟨hc, hdi, hs⟩, hdat, _⟩ := dk_of I.hok hd
    obtain ⟨oc, od, odt, os⟩ := ob
    simp only at hc hdi hs hdat
    subst hc hdi hs hdat
    show wpAny _ _ (richCompare .Eq (.str z t) (.ref d)) _ _ s
    refine SeqAt.rc_eq_decline_or (k := false) (typeIs_str s z t) ⟨_, ho, rfl⟩ (by decide) F.sub_dict_str F.slot_str_eq F.slot_dict_eq_refl
      (fun _ hq => call_meets F.slot_str_eq (typeIs_str s z t) F.entry_str_eq (F.args_str_eq_2 _ _) (str_eq_dict d es ep none #[] z t) ⟨ho, hq⟩)
      (fun _ hq => call_meets F.slot_dict_eq_refl ⟨_, ho, rfl⟩ F.entry_dict_eq (F.args_dict_eq_2 _ _) (dict_eq_str d (.type "dict") _ none #[] z t) ⟨ho, hq⟩)
      (fun _ hq => wpAny_of_eq (rfl : isSame (.str z t) (.ref d) = pure false) hq) (.inr (by omega)) ⟨.bl false, H, I, rfl, q⟩
end
section
variable {P : Program} {w : World} {K : PySem.W.Frag} {mg : Str → Option Value} {base : Heap}
def spSc (K : PySem.W.Frag) (C : Addr) : Sp := fun vs H Q _ => ∃ (a : Addr) (z : Str) (L : List TbE), vs = [.ref a, .str z] ∧ SchAt K C H a L ∧ ∀ H', Sm [] H H' → Q (.bl (decide (z ∈ L.map TbE.nm))) H'
theorem ok_sc {f C fi fp fg p : Addr} {fd : FuncData} (F : Fun K "__contains__" "Schema.__contains__" sSc f fd) (T : SchC K mg C fi fp fg f p) : FnOk P w K mg base CX0 1 f fd ["self", "name"] (spSc K C) := by
  refine F.ok scSc (fun vs H Q E h => ?_) (fun cdv A outer s H vs Q E hr h => ?_)
  · obtain ⟨a, z, L, rfl, _⟩ := h
    rfl
  · obtain ⟨a, z, L, rfl, hS, q⟩ := h
    have nd := scSc.nd
    refine ⟨_, pss_one (ps_ret (pe_cmpR op_in_seq (pv 1) (pe_lc (own := [("table", 2)]) (g := gName 2) (tt := tYes) (te := tOp (rIx K) (tVar 2) (tC (.int 0))) rfl nd (pi_tup (pe_fld (pv 0) rfl)) (blkOk_by (N := ["self", "name", "table"]) (sc := defScope sSc) (by decide +kernel))
          (fun _ _ _ _ _ => pg_name (i := 2) nd rfl (.inl rfl)) (fun _ _ _ _ _ => pts_nil) (fun _ _ _ _ _ => pe_ix ix_seq (pv 2) pe_int (fun _ _ => rfl))) (by rfl))), ?_⟩
    obtain ⟨dx, t, h1, h2⟩ := hS.ex
    refine ⟨.str z, rfl, .ref a, rfl, a, C, dx, _, .ref t, rfl, h1, T.cl, T.nK, by rfl, ?_⟩
    refine ⟨t, rfl, ⟨_, SqT.of h2⟩, fun D hD => nms_it2 (p := t) (M := L) (SqT.of h2) hS.all hS.few hD fun H5 s5 h5 => ?_⟩
    refine ⟨D, _, rfl, .inl (SqL.of h5), rfl, flat_strs _, ?_⟩
    rw [if_neg (by simp), inV_str]
    exact q H5 s5
/-- no table has this name -/
def NoNm (K : PySem.W.Frag) (H : Hp) (L : List TbE) (x : V) : Prop := (∃ e, Dp K H x e ∧ SeqAt.shaped e = true ∧ ∀ f ∈ L, PyData.eqv (.str f.nm) e = false) ∨ ∃ d kvs, x = .ref d ∧ H d = some (.dK kvs)
def spSg (K : PySem.W.Frag) (C NT : Addr) : Sp := fun vs H Q E => ∃ (a : Addr) (x : V) (L : List TbE), vs = [.ref a, x] ∧ SchAt K C H a L ∧
  ((∃ e ∈ L, x = .str e.nm ∧ Q (.ref e.a) H) ∨ (NoNm K H L x ∧ ∀ d H', Sm [] H H' → H d = none → H' d = some (.xd [("name", x)]) → E (.ref NT) (some d) H'))
theorem nm_inj {L : List TbE} (h : (L.map TbE.nm).Nodup) {e f : TbE} (he : e ∈ L) (hf : f ∈ L) (n : e.nm = f.nm) : e = f := by
  induction L with
  | nil => cases he
  | cons g L ih =>
    rw [List.map_cons, List.nodup_cons] at h
    rcases List.mem_cons.mp he with e1 | h1
    · rcases List.mem_cons.mp hf with e2 | h2
      · rw [e1, e2]
      · exact absurd (List.mem_map.mpr ⟨f, h2, by rw [← n, e1]⟩) h.1
    · rcases List.mem_cons.mp hf with e2 | h2
      · exact absurd (List.mem_map.mpr ⟨e, h1, by rw [n, e2]⟩) h.1
      · exact ih h.2 h1 h2
theorem eqv_strs (a b : Str) : PyData.eqv (.str a) (.str b) = decide (a = b) := by
  simp only [PyData.eqv]
  by_cases h : a = b
  · subst h
    simp
  · simp [h]
theorem ok_sg {f C fi fp fc p NT fN WE : Addr} {fd fdN : FuncData} (F : Fun K "__getitem__" "Schema.__getitem__" sSg f fd) (T : SchC K mg C fi fp f fc p) (TN : NtC K mg NT fN WE) (FN : FnOk P w K mg base CX0 1 fN fdN ["self", "name"] (spNt NT)) (bN : Binds K fdN ["self", "name"] []) :
    FnOk P w K mg base (L2.CX P w) 3 f fd ["self", "name"] (spSg K C NT) := by
  refine F.okX scSg (fun vs H Q E h => ?_) (fun cdv A outer s H vs Q E hr h => ?_)
  · obtain ⟨a, x, L, rfl, _⟩ := h
    rfl
  · obtain ⟨a, x, L, rfl, hS, hcase⟩ := h
    have nd := scSg.nd
    refine ⟨_, pss_cons (ps_for (passes_of rfl) rfl (pi_tup (pe_fld (pv 0) rfl)) (pg_name (i := 2) nd rfl (.inl rfl))
        (pss_one (ps_if (pt_cmpR (op_eqM hr.units) (pe_ix ix_seq (pv 2) pe_int (fun _ _ => rfl)) (pv 1) (nomark _)) (pss_one (ps_ret (pv 2))) pss_nil)))
      (pss_one (ps_raise rfl (takes_of rfl rfl rfl rfl) (pmk_nt TN FN hr bN (pv 1)))), ?_⟩
    obtain ⟨dx, t, h1, h2⟩ := hS.ex
    refine ⟨.ref a, rfl, a, C, dx, _, .ref t, rfl, h1, T.cl, T.nK, by rfl, t, rfl, ⟨_, SqT.of h2⟩, ?_⟩
    rcases hcase with ⟨e0, m0, rfl, q⟩ | ⟨hno, q⟩
    · refine for_tup (xs := rfs L) (fun i σ H' => ∃ y2 : Option V, σ = [some (.ref a), some (.str e0.nm), y2] ∧ H' = H ∧ ∀ f ∈ L.take i, f.nm ≠ e0.nm) ?_ ?_ ?_ ?_
      · exact ⟨none, rfl, rfl, fun f h => by simp at h⟩
      · rintro i σ H' _ ⟨y2, rfl, rfl, _⟩
        exact SqT.of h2
      · rintro i y σ H' hy ⟨y2, rfl, rfl, hn⟩
        obtain ⟨e, he, rfl⟩ := rf_at hy
        have em := List.mem_of_getElem? he
        refine ⟨.ref e.a, rfl, ix_tab (hS.all e em) ⟨.str e0.nm, rfl, e.nm, rfl, .inl ⟨.str e0.nm, sh_strOk (hS.all e em).nm, .str _, shaped_str (sh_strOk (hS.all e0 m0).nm), _, rfl, ?_⟩⟩⟩
        rw [eqv_strs]
        by_cases hh : e.nm = e0.nm
        · obtain rfl := nm_inj hS.nd em m0 hh
          exact ite2 (fun _ => ⟨.ref e.a, rfl, q⟩) fun z => absurd (decide_eq_true rfl) z
        · refine ite2 (fun z => absurd (of_decide_eq_true z) hh) fun _ => ⟨_, rfl, rfl, fun f hf => ?_⟩
          rw [List.take_add_one, he, Option.toList_some] at hf
          rcases List.mem_append.mp hf with hf | hf
          · exact hn f hf
          · rw [List.mem_singleton] at hf
            rw [hf]
            exact hh
      · rintro σ H' ⟨y2, rfl, rfl, hn⟩
        rw [List.length_map, List.take_length] at hn
        exact absurd rfl (hn e0 m0)
    · refine for_tup (xs := rfs L) (fun i σ H' => ∃ y2 : Option V, σ = [some (.ref a), some x, y2] ∧ H' = H) ?_ ?_ ?_ ?_
      · exact ⟨none, rfl, rfl⟩
      · rintro i σ H' _ ⟨y2, rfl, rfl⟩
        exact SqT.of h2
      · rintro i y σ H' hy ⟨y2, rfl, rfl⟩
        obtain ⟨e, he, rfl⟩ := rf_at hy
        have em := List.mem_of_getElem? he
        refine ⟨.ref e.a, rfl, ix_tab (hS.all e em) ⟨x, rfl, e.nm, rfl, ?_⟩⟩
        rcases hno with ⟨d, hd, sd, nd'⟩ | ⟨d, kvs, rfl, hd⟩
        · refine .inl ⟨d, sh_strOk (hS.all e em).nm, hd, sd, _, rfl, ?_⟩
          rw [nd' e em]
          exact ite2 (fun z => by cases z) fun _ => ⟨_, rfl, rfl⟩
        · exact .inr ⟨d, kvs, rfl, hd, _, rfl, ite2 (fun z => by cases z) fun _ => ⟨_, rfl, rfl⟩⟩
      · rintro σ H' ⟨y2, rfl, rfl⟩
        exact nt_rd (i := 1) rfl fun d H5 s5 h5 h6 => q d H5 s5 h5 h6
end
end K92

/-! databases: is_row, are_rows, are_triples, require_data -/
namespace K92
open PySem PySem.Spec PyProof.Rows L2
abbrev sIr : Stmt := topS 39
theorem scIr : FnScope ["thing", "width", "number", "values", "value"] ["thing", "width"] (defScope sIr) := ⟨rfl, rfl, rfl, by decide +kernel, rfl, by decide +kernel, by decide +kernel⟩
abbrev sAr : Stmt := topS 40
theorem scAr : FnScope ["thing", "width", "following", "one", "number", "values"] ["thing", "width", "following"] (defScope sAr) := ⟨rfl, rfl, rfl, by decide +kernel, rfl, by decide +kernel, by decide +kernel⟩
abbrev sAt : Stmt := topS 41
theorem scAt : FnScope ["schema", "thing", "part"] ["schema", "thing"] (defScope sAt) := ⟨rfl, rfl, rfl, by decide +kernel, rfl, by decide +kernel, by decide +kernel⟩
abbrev sRd : Stmt := topS 42
theorem scRd : FnScope ["schema", "thing", "name", "following", "rows"] ["schema", "thing"] (defScope sRd) := ⟨rfl, rfl, rfl, by decide +kernel, rfl, by decide +kernel, by decide +kernel⟩
structure Gd (mg : Str → Option Value) : Prop where
  rparts : ∃ t, mg "ROW_PARTS" = some (.int 2 t)
  dparts : ∃ t, mg "DATA_PARTS" = some (.int 3 t)
/-- a row with its number where it stands -/
structure RwE where
  a : Addr
  n : Int
  v : Addr
  r : List Int
structure RwOk (H : Hp) (W : Nat) (e : RwE) : Prop where
  at_ : H e.a = some (.tup [.int e.n, .ref e.v])
  vs : H e.v = some (.tup (e.r.map V.int))
  len : e.r.length = W
  pos : 0 ≤ e.n
theorem RwOk.kp {H H' : Hp} {W : Nat} {e : RwE} (t : RwOk H W e) (k : Kp H H') : RwOk H' W e := ⟨k _ _ t.at_, k _ _ t.vs, t.len, t.pos⟩
abbrev rws (L : List RwE) : List V := L.map fun e => V.ref e.a
theorem rw_at {L : List RwE} {i : Nat} {x : V} (h : (rws L)[i]? = some x) : ∃ e, L[i]? = some e ∧ x = .ref e.a := by
  rw [List.getElem?_map] at h
  cases q : L[i]? with
  | none => rw [q] at h; cases h
  | some e => rw [q] at h; exact ⟨e, rfl, (Option.some.inj h).symm⟩
section
variable {P : Program} {w : World} {K : PySem.W.Frag} {mg : Str → Option Value} {base : Heap}
def spIr : Sp := fun vs H Q _ => ∃ (e : RwE) (W : Nat), vs = [.ref e.a, .int W] ∧ RwOk H W e ∧ W ≤ 4 ∧ ∀ H', Sm [] H H' → Q (.bl true) H'
theorem ok_ir {f : Addr} {fd : FuncData} (F : Fun K "is_row" "is_row" sIr f fd) (B : Bn mg) (G : Gd mg) (cInt : Cal P w K mg base "is_integer" ["thing"] 1 (spInt K)) (cCn : Cal P w K mg base "is_count" ["thing"] 2 spCn) : FnOk P w K mg base CX0 3 f fd ["thing", "width"] spIr := by
  refine F.ok scIr (fun vs H Q E h => ?_) (fun cdv A outer s H vs Q E hr h => ?_)
  · obtain ⟨e, W, rfl, _⟩ := h
    rfl
  · obtain ⟨e, W, rfl, he, hW, q⟩ := h
    have nd := scIr.nd
    obtain ⟨tP, eP⟩ := G.rparts
    refine ⟨_, pss_cons (ps_if (PW.pt (pw_or (pt_not (pt_val (pe_is B B.tuple boot_tuple (pv 0)))) (pw_or1 (pt_cmpR op_ne (pe_callB call_len (by rfl) B.len boot_len (pa_cons (pv 0) pa_nil)) (pe_glob (v := .int 2) (by rfl) eP ⟨tP, rfl⟩) (nomark _))))) (pss_one (ps_ret pe_bl)) pss_nil)
      (pss_cons (ps_asg (pv 0) (pg_tup rfl (pgs_cons (pg_name (i := 2) nd rfl (.inl rfl)) (pgs_cons (pg_name (i := 3) nd rfl (.inl rfl)) pgs_nil))))
      (pss_cons (ps_if (PW.pt (pw_or (pt_not (pt_val (pe_own cCn hr (pa_cons (pv 2) pa_nil)))) (pw_or (pt_not (pt_val (pe_is B B.tuple boot_tuple (pv 3)))) (pw_or1 (pt_cmpR op_ne (pe_callB call_len (by rfl) B.len boot_len (pa_cons (pv 3) pa_nil)) (pv 1) (nomark _)))))) (pss_one (ps_ret pe_bl)) pss_nil)
      (pss_one (ps_ret (pe_callB (cr_all rfl) (by rfl) B.all boot_all (pa_cons
        (pe_lc (own := [("value", 4)]) (g := gName 4) (tt := tYes) (te := tCall (spInt K) [] E0 (tCons (tVar 4) tNil)) rfl nd
          (pi_tup (pv 3)) (blkOk_by (N := ["thing", "width", "number", "values", "value"]) (sc := defScope sIr) (by decide +kernel))
          (fun _ _ _ _ _ => pg_name (i := 4) nd rfl (.inl rfl)) (fun _ _ _ _ _ => pts_nil) (fun _ _ _ _ _ => pe_own (cInt.mono (by decide)) hr (pa_cons (pv 4) pa_nil))) pa_nil)))))), ?_⟩
    have hlen : (e.r.map V.int).length = W := by rw [List.length_map]; exact he.len
    refine ⟨.ref e.a, rfl, .ref e.a, "tuple", "tuple", true, rfl, TyX.tup he.at_, by decide +kernel, true, rfl, ite2 (fun z => by cases z) fun _ => ?_⟩
    refine ⟨.ref e.a, rfl, .ref e.a, 2, rfl, .inr ⟨_, SqT.of he.at_, rfl⟩, rfl, _, rfl, ite2 (fun z => by simp at z) fun _ => ?_⟩
    refine next_in ?_
    dsimp only
    refine ⟨.ref e.a, rfl, e.a, _, rfl, SqT.of he.at_, rfl, _, _, rfl, _, _, rfl, rfl, ?_⟩
    refine ⟨.int e.n, rfl, e.n, rfl, true, by rw [decide_eq_true he.pos], ite2 (fun z => by cases z) fun _ => ?_⟩
    refine ⟨.ref e.v, rfl, .ref e.v, "tuple", "tuple", true, rfl, TyX.tup he.vs, by decide +kernel, true, rfl, ite2 (fun z => by cases z) fun _ => ?_⟩
    refine ⟨.ref e.v, rfl, .ref e.v, W, rfl, .inr ⟨_, SqT.of he.vs, hlen.symm⟩, .int W, rfl, rfl, _, rfl, ite2 (fun z => by simp at z) fun _ => ?_⟩
    refine next_in ?_
    dsimp only
    refine ⟨.ref e.v, rfl, e.v, rfl, ⟨_, SqT.of he.vs⟩, fun D hD => ?_⟩
    refine lc_it (walk_tup (K := K) (a := e.v) (xs := e.r.map V.int)) (fun i H' => ∃ bs : List Bool, H' D = some (.lst (bs.map V.bl)) ∧ Sm [] H H' ∧ bs.length = i ∧ bs.all id = true) ⟨[], upd_same, Sm.refl.new hD, rfl, rfl⟩ ?_ ?_ ?_
    · rintro i H' _ ⟨bs, h1, h2, _⟩
      exact SqT.of (h2.keep he.vs)
    · rintro i x H3 H4 hi ⟨bs, h1, h2, h3, h4⟩ ⟨rfl, hx⟩
      obtain ⟨z, hz, rfl⟩ : ∃ z, e.r[i]? = some z ∧ x = .int z := by
        rw [List.getElem?_map] at hx
        cases c : e.r[i]? with
        | none => rw [c] at hx; cases hx
        | some z => rw [c] at hx; exact ⟨z, rfl, (Option.some.inj hx).symm⟩
      refine ⟨rfl, .int z, rfl, .int z, "int", true, false, rfl, TyX.int z, by decide +kernel, by decide +kernel, bs.map V.bl, h1, ?_, bs ++ [true], ?_, h2.own hD, ?_, ?_⟩
      · rw [List.length_map]
        exact small16 (by omega)
      · rw [upd_same, List.map_append]
        rfl
      · rw [List.length_append, h3]
        rfl
      · rw [List.all_append, h4]
        rfl
    · rintro H' ⟨bs, h1, h2, h3, h4⟩
      refine ⟨D, bs, rfl, SqL.of h1, ?_⟩
      rw [h4]
      exact q H' h2
/-- the rows of a table -/
structure RwsOk (H : Hp) (W : Nat) (L : List RwE) (fo : Int) : Prop where
  all : ∀ e ∈ L, RwOk H W e
  asc : Asc ((L.map fun e => V.int e.n) ++ [.int fo])
  few : L.length ≤ 90
  fo : 0 ≤ fo
theorem RwsOk.kp {H H' : Hp} {W : Nat} {L : List RwE} {fo : Int} (t : RwsOk H W L fo) (k : Kp H H') : RwsOk H' W L fo := ⟨fun e h => (t.all e h).kp k, t.asc, t.few, t.fo⟩
def spAr : Sp := fun vs H Q _ => ∃ (a : Addr) (W : Nat) (fo : Int) (L : List RwE), vs = [.ref a, .int W, .int fo] ∧ H a = some (.tup (rws L)) ∧ RwsOk H W L fo ∧ W ≤ 4 ∧ ∀ H', Sm [] H H' → Q (.bl true) H'
theorem ok_ar {f : Addr} {fd : FuncData} (F : Fun K "are_rows" "are_rows" sAr f fd) (B : Bn mg) (cCn : Cal P w K mg base "is_count" ["thing"] 2 spCn) (cIr : Cal P w K mg base "is_row" ["thing", "width"] 3 spIr) (cAs : Cal P w K mg base "do_ascend" ["things"] 1 (spAs K)) : FnOk P w K mg base CX0 4 f fd ["thing", "width", "following"] spAr := by
  refine F.ok scAr (fun vs H Q E h => ?_) (fun cdv A outer s H vs Q E hr h => ?_)
  · obtain ⟨a, W, fo, L, rfl, _⟩ := h
    rfl
  · obtain ⟨a, W, fo, L, rfl, hA, hL, hW, q⟩ := h
    have nd := scAr.nd
    refine ⟨_, pss_cons (ps_if (PW.pt (pw_or (pt_not (pt_val (pe_own (cCn.mono (by decide)) hr (pa_cons (pv 2) pa_nil)))) (pw_or (pt_not (pt_val (pe_is B B.tuple boot_tuple (pv 0)))) (pw_or1 (pt_not (pt_val (pe_callB (cr_all rfl) (by rfl) B.all boot_all (pa_cons
        (pe_lc (own := [("one", 3)]) (g := gName 3) (tt := tYes) (te := tCall spIr [] E0 (tCons (tVar 3) (tCons (tVar 1) tNil))) rfl nd
          (pi_tup (pv 0)) (blkOk_by (N := ["thing", "width", "following", "one", "number", "values"]) (sc := defScope sAr) (by decide +kernel))
          (fun _ _ _ _ _ => pg_name (i := 3) nd rfl (.inl rfl)) (fun _ _ _ _ _ => pts_nil) (fun _ _ _ _ _ => pe_own cIr hr (pa_cons (pv 3) (pa_cons (pv 1) pa_nil)))) pa_nil)))))))) (pss_one (ps_ret pe_bl)) pss_nil)
      (pss_one (ps_ret (pe_own (cAs.mono (by decide)) hr (pa_cons (pe_op op_cat
        (pe_lc (own := [("number", 4), ("values", 5)]) (g := gTup K 2 (gCons (gName 4) (gCons (gName 5) gNil))) (tt := tYes) (te := tVar 4) rfl nd
          (pi_tup (pv 0)) (blkOk_by (N := ["thing", "width", "following", "one", "number", "values"]) (sc := defScope sAr) (by decide +kernel))
          (fun _ _ _ _ _ => pg_tup rfl (pgs_cons (pg_name (i := 4) nd rfl (.inl rfl)) (pgs_cons (pg_name (i := 5) nd rfl (.inl rfl)) pgs_nil))) (fun _ _ _ _ _ => pts_nil) (fun _ _ _ _ _ => pv 4)) (pe_lst (pa_cons (pv 2) pa_nil))) pa_nil)))), ?_⟩
    have few := hL.few
    refine ⟨.int fo, rfl, fo, rfl, true, by rw [decide_eq_true hL.fo], ite2 (fun z => by cases z) fun _ => ?_⟩
    refine ⟨.ref a, rfl, .ref a, "tuple", "tuple", true, rfl, TyX.tup hA, by decide +kernel, true, rfl, ite2 (fun z => by cases z) fun _ => ?_⟩
    refine ⟨.ref a, rfl, a, rfl, ⟨_, SqT.of hA⟩, fun D hD => ?_⟩
    refine lc_it (walk_tup (K := K) (a := a) (xs := rws L)) (fun i H' => ∃ bs : List Bool, H' D = some (.lst (bs.map V.bl)) ∧ Sm [] H H' ∧ bs.length = i ∧ bs.all id = true) ⟨[], upd_same, Sm.refl.new hD, rfl, rfl⟩ ?_ ?_ ?_
    · rintro i H' _ ⟨bs, h1, h2, _⟩
      exact SqT.of (h2.keep hA)
    · rintro i x H3 H4 hi ⟨bs, h1, h2, h3, h4⟩ ⟨rfl, hx⟩
      obtain ⟨e, he, rfl⟩ := rw_at hx
      have il := (List.getElem?_eq_some_iff.mp he).1
      refine ⟨rfl, .ref e.a, rfl, .int W, rfl, e, W, rfl, (hL.all e (List.mem_of_getElem? he)).kp h2.kp, hW, fun H5 s5 => ⟨bs.map V.bl, s5.keep h1, ?_, bs ++ [true], ?_, (h2.trans s5).own hD, ?_, ?_⟩⟩
      · rw [List.length_map]
        exact small1000 (by omega)
      · rw [upd_same, List.map_append]
        rfl
      · rw [List.length_append, h3]
        rfl
      · rw [List.all_append, h4]
        rfl
    · rintro H1 ⟨bs, h1, s1, h3, h4⟩
      refine ⟨D, bs, rfl, SqL.of h1, true, by rw [h4], ite2 (fun z => by cases z) fun _ => ?_⟩
      refine next_in ?_
      dsimp only
      have hA1 := s1.keep hA
      have hL1 := hL.kp s1.kp
      refine ⟨.ref a, rfl, a, rfl, ⟨_, SqT.of hA1⟩, fun D2 hD2 => ?_⟩
      refine lc_it (walk_tup (K := K) (a := a) (xs := rws L)) (fun i H' => H' D2 = some (.lst ((L.take i).map fun e => V.int e.n)) ∧ Sm [] H1 H') ⟨upd_same, Sm.refl.new hD2⟩ ?_ ?_ ?_
      · rintro i H' _ ⟨h1, h2⟩
        exact SqT.of (h2.keep hA1)
      · rintro i x H3 H4 hi ⟨h1, h2⟩ ⟨rfl, hx⟩
        obtain ⟨e, he, rfl⟩ := rw_at hx
        have il := (List.getElem?_eq_some_iff.mp he).1
        refine ⟨e.a, _, rfl, SqT.of (h2.keep (hL1.all e (List.mem_of_getElem? he)).at_), rfl, _, _, rfl, _, _, rfl, rfl, rfl, .int e.n, rfl, _, h1, ?_, ?_, h2.own hD2⟩
        · rw [List.length_map, List.length_take]
          exact small1000 (by omega)
        · rw [upd_same, List.take_add_one, he, Option.toList_some, List.map_append]
          rfl
      · rintro H2 ⟨h1, s2⟩
        rw [List.length_map, List.take_length] at h1
        refine ⟨.int fo, rfl, (by show 1 ≤ sizeLine; decide), fun p hp => ?_⟩
        have n1 : D2 ≠ p := ne_of_none h1 hp
        have s3 : Sm [] H1 (upd H2 p (.lst [.int fo])) := s2.new hp
        have e3 : (upd H2 p (.lst [.int fo])) p = some (.lst [.int fo]) := upd_same
        have d3 : (upd H2 p (.lst [.int fo])) D2 = some (.lst (L.map fun e => V.int e.n)) := by
          rw [upd_ne n1]
          exact h1
        generalize upd H2 p (.lst [.int fo]) = H3 at s3 e3 d3
        refine ⟨D2, p, _, _, rfl, rfl, d3, e3, ?_, fun u hu => ?_⟩
        · rw [List.length_map]
          have : (1000 : Nat) ≤ sizeLine := by decide
          show L.length + 1 ≤ sizeLine
          omega
        have s4 : Sm [] H3 (upd H3 u (.lst ((L.map fun e => V.int e.n) ++ [.int fo]))) := Sm.refl.new hu
        refine ⟨u, rfl, .inl ⟨_, SqL.of upd_same, upd_same, hL.asc, ?_⟩, fun H5 s5 => q H5 (((s1.trans s3).trans s4).trans s5)⟩
        rw [List.length_append, List.length_map]
        show L.length + 1 ≤ 100
        omega
end
end K92

/-! databases: are_triples, require_data, first_duplicate -/
namespace K92
open PySem PySem.Spec PyProof.Rows L2
/-- the part of a table where it stands -/
structure PtE where
  a : Addr
  nm : Str
  fo : Int
  t : Addr
  L : List RwE
structure PtOk (H : Hp) (W : Nat) (e : PtE) : Prop where
  at_ : H e.a = some (.tup [.str e.nm, .int e.fo, .ref e.t])
  tb : H e.t = some (.tup (rws e.L))
  ok : RwsOk H W e.L e.fo
theorem PtOk.kp {H H' : Hp} {W : Nat} {e : PtE} (t : PtOk H W e) (k : Kp H H') : PtOk H' W e := ⟨k _ _ t.at_, k _ _ t.tb, t.ok.kp k⟩
theorem ix_pt0 {K : PySem.W.Frag} {H : Hp} {W : Nat} {Q : VK} {e : PtE} (t : PtOk H W e) (q : Q (.str e.nm) H) : rIx K (.ref e.a) (.int 0) H Q := .inr (.inl ⟨e.a, _, 0, _, rfl, rfl, SqT.of t.at_, by rfl, q⟩)
theorem passF {P : Program} {w : World} {X : Cx} : Passes (L2.CX P w) X E0 := fun _ _ _ _ _ _ _ h => by
  obtain ⟨a, B, H', cls, d, _, _, _, _, _, _, _, z⟩ := h
  exact z.elim
section
variable {P : Program} {w : World} {K : PySem.W.Frag} {mg : Str → Option Value} {base : Heap}
def spAt (K : PySem.W.Frag) (C : Addr) : Sp := fun vs H Q _ => ∃ (s d : Addr) (L : List TbE) (e : PtE) (W : Nat), vs = [.ref s, .ref d] ∧ SchAt K C H s L ∧ H d = some (.tup [.ref e.a]) ∧ PtOk H W e ∧ Sh e.nm ∧ e.nm ∈ L.map TbE.nm ∧ ∀ H', Sm [] H H' → Q (.bl true) H'
theorem ok_at {f C fi fp fg fc p : Addr} {fd fdC : FuncData} (F : Fun K "are_triples" "are_triples" sAt f fd) (B : Bn mg) (G : Gd mg) (T : SchC K mg C fi fp fg fc p) (FC : FnOk P w K mg base CX0 1 fc fdC ["self", "name"] (spSc K C)) (bC : Binds K fdC ["self", "name"] [])
    (cIn : Cal P w K mg base "is_name" ["thing"] 1 spIn) (cAs : Cal P w K mg base "do_ascend" ["things"] 1 (spAs K)) : FnOk P w K mg base CX0 2 f fd ["schema", "thing"] (spAt K C) := by
  refine F.ok scAt (fun vs H Q E h => ?_) (fun cdv A outer s0 H vs Q E hr h => ?_)
  · obtain ⟨s, d, L, e, W, rfl, _⟩ := h
    rfl
  · obtain ⟨s, d, L, e, W, rfl, hS, hD, he, hsh, hin, q⟩ := h
    have nd := scAt.nd
    obtain ⟨tP, eP⟩ := G.dparts
    refine ⟨_, pss_cons (ps_if (pt_not (pt_val (pe_is B B.tuple boot_tuple (pv 1)))) (pss_one (ps_ret pe_bl)) pss_nil)
      (pss_cons (ps_for PassesOwn.never rfl (pi_tup (pv 1)) (pg_name (i := 2) nd rfl (.inl rfl)) (pss_one (ps_if (PW.pt (pw_or (pt_not (pt_val (pe_is B B.tuple boot_tuple (pv 2)))) (pw_or (pt_cmpR op_ne (pe_callB call_len (by rfl) B.len boot_len (pa_cons (pv 2) pa_nil)) (pe_glob (v := .int 3) (by rfl) eP ⟨tP, rfl⟩) (nomark _))
          (pw_or (pt_not (pt_val (pe_own cIn hr (pa_cons (pe_ix ix_seq (pv 2) pe_int (fun _ _ => rfl)) pa_nil)))) (pw_or1 (pt_cmpR (op_notinO T.ci T.cf (FC.raw bC .nil) hr pass0) (pe_ix ix_seq (pv 2) pe_int (fun _ _ => rfl)) (pv 0) (by rfl))))))) (pss_one (ps_ret pe_bl)) pss_nil)))
      (pss_one (ps_ret (pe_own cAs hr (pa_cons (pe_lc (own := [("part", 2)]) (g := gName 2) (tt := tYes) (te := tOp (rIx K) (tVar 2) (tC (.int 0))) rfl nd
          (pi_tup (pv 1)) (blkOk_by (N := ["schema", "thing", "part"]) (sc := defScope sAt) (by decide +kernel))
          (fun _ _ _ _ _ => pg_name (i := 2) nd rfl (.inl rfl)) (fun _ _ _ _ _ => pts_nil) (fun _ _ _ _ _ => pe_ix ix_seq (pv 2) pe_int (fun _ _ => rfl))) pa_nil))))), ?_⟩
    refine ⟨.ref d, rfl, .ref d, "tuple", "tuple", true, rfl, TyX.tup hD, by decide +kernel, true, rfl, ite2 (fun z => by cases z) fun _ => ?_⟩
    refine next_in ?_
    dsimp only
    refine ⟨.ref d, rfl, d, rfl, ⟨_, SqT.of hD⟩, for_tup (xs := [V.ref e.a]) (fun i σ H' => ∃ y2 : Option V, σ = [some (.ref s), some (.ref d), y2] ∧ Sm [] H H') ?_ ?_ ?_ ?_⟩
    · exact ⟨none, rfl, Sm.refl⟩
    · rintro i σ H' _ ⟨y2, rfl, s1⟩
      exact SqT.of (s1.keep hD)
    · rintro i x σ H1 hx ⟨y2, rfl, s1⟩
      have ex : x = .ref e.a := by
        match i, hx with
        | 0, hx => exact (Option.some.inj hx).symm
      subst ex
      have he1 := he.kp s1.kp
      refine ⟨.ref e.a, rfl, .ref e.a, "tuple", "tuple", true, rfl, TyX.tup he1.at_, by decide +kernel, true, rfl, ite2 (fun z => by cases z) fun _ => ?_⟩
      refine ⟨.ref e.a, rfl, .ref e.a, 3, rfl, .inr ⟨_, SqT.of he1.at_, rfl⟩, rfl, _, rfl, ite2 (fun z => by simp at z) fun _ => ?_⟩
      refine ⟨.ref e.a, rfl, ix_pt0 he1 ⟨e.nm, rfl, hsh, fun H2 s2 => ⟨true, rfl, ite2 (fun z => by cases z) fun _ => ?_⟩⟩⟩
      have he2 := he1.kp s2.kp
      have hS2 := hS.sm (s1.trans s2)
      obtain ⟨dx, t, h1, h2⟩ := hS2.ex
      refine ⟨.ref e.a, rfl, ix_pt0 he2 ⟨.ref s, rfl, s, dx, _, rfl, h1, s, e.nm, L, rfl, hS2, fun H3 s3 => ⟨_, rfl, _, rfl, ?_⟩⟩⟩
      rw [decide_eq_true hin]
      exact ite2 (fun z => by cases z) fun _ => ⟨_, rfl, (s1.trans s2).trans s3⟩
    · rintro σ H1 ⟨y2, rfl, s1⟩
      have hD1 := s1.keep hD
      have he1 := he.kp s1.kp
      refine ⟨.ref d, rfl, d, rfl, ⟨_, SqT.of hD1⟩, fun D hDn => ?_⟩
      refine lc_it (walk_tup (K := K) (a := d) (xs := [V.ref e.a])) (fun i H' => H' D = some (.lst (([V.str e.nm]).take i)) ∧ Sm [] H1 H') ⟨upd_same, Sm.refl.new hDn⟩ ?_ ?_ ?_
      · rintro i H' _ ⟨h1, h2⟩
        exact SqT.of (h2.keep hD1)
      · rintro i x H3 H4 hi ⟨h1, h2⟩ ⟨rfl, hx⟩
        match i, hi, hx, h1 with
        | 0, _, hx, h1 =>
          cases Option.some.inj hx
          exact ⟨rfl, .ref e.a, rfl, ix_pt0 (he1.kp h2.kp) ⟨_, h1, (by show 0 < sizeLine; decide), upd_same, h2.own hDn⟩⟩
        | i + 1, hi, _, _ => exact absurd hi (by simp)
      · rintro H' ⟨h1, h2⟩
        refine ⟨D, rfl, .inl ⟨[V.str e.nm], SqL.of h1, h1, fun i x y hx hy => ?_, (by show 1 ≤ 100; decide)⟩, fun H5 s5 => q H5 ((s1.trans h2).trans s5)⟩
        simp at hy
theorem ix_tb1 {H : Hp} {Q : VK} {e : TbE} (t : Tbl K H e.a e.nm e.c e.cs) (q : Q (.ref e.c) H) : rIx K (.ref e.a) (.int 1) H Q := by
  obtain ⟨i, u, h1, _, _⟩ := t.ex
  exact .inr (.inl ⟨e.a, _, 1, _, rfl, rfl, SqT.of h1, by rfl, q⟩)
def spRd (K : PySem.W.Frag) (C : Addr) : Sp := fun vs H Q _ => ∃ (s d : Addr) (L : List TbE) (e : PtE) (b : TbE), vs = [.ref s, .ref d] ∧ SchAt K C H s L ∧ H d = some (.tup [.ref e.a]) ∧ b ∈ L ∧ e.nm = b.nm ∧ PtOk H b.cs.length e ∧ ∀ H', Sm [] H H' → Q .non H'
theorem ok_rd {f C fi fp fg fc p NT : Addr} {fd fdG : FuncData} (F : Fun K "require_data" "require_data" sRd f fd) (B : Bn mg) (T : SchC K mg C fi fp fg fc p) (FG : FnOk P w K mg base (L2.CX P w) 3 fg fdG ["self", "name"] (spSg K C NT)) (bG : Binds K fdG ["self", "name"] [])
    (cAt : Cal P w K mg base "are_triples" ["schema", "thing"] 2 (spAt K C)) (cAr : Cal P w K mg base "are_rows" ["thing", "width", "following"] 4 spAr) : FnOk P w K mg base CX0 5 f fd ["schema", "thing"] (spRd K C) := by
  refine F.ok scRd (fun vs H Q E h => ?_) (fun cdv A outer s0 H vs Q E hr h => ?_)
  · obtain ⟨s, d, L, e, b, rfl, _⟩ := h
    rfl
  · obtain ⟨s, d, L, e, b, rfl, hS, hD, hb, hnm, he, q⟩ := h
    have nd := scRd.nd
    refine ⟨_, pss_cons (ps_if (pt_not (pt_val (pe_own (cAt.mono (by decide)) hr (pa_cons (pv 0) (pa_cons (pv 1) pa_nil))))) (pss_one ps_never) pss_nil)
      (pss_one (ps_for PassesOwn.never rfl (pi_tup (pv 1)) (pg_tup rfl (pgs_cons (pg_name (i := 2) nd rfl (.inl rfl)) (pgs_cons (pg_name (i := 3) nd rfl (.inl rfl)) (pgs_cons (pg_name (i := 4) nd rfl (.inl rfl)) pgs_nil))))
        (pss_one (ps_if (pt_not (pt_val (pe_own cAr hr (pa_cons (pv 4) (pa_cons (pe_callB call_len (by rfl) B.len boot_len (pa_cons (pe_ix ix_seq (pe_subO (pv 0) (pv 2) T.gi T.gn T.gf (FG.raw bG .nil) hr passF) pe_int (fun _ _ => rfl)) pa_nil)) (pa_cons (pv 3) pa_nil)))))) (pss_one ps_never) pss_nil)))), ?_⟩
    have hsh : Sh e.nm := by
      rw [hnm]
      exact (hS.all b hb).nm
    refine ⟨.ref s, rfl, .ref d, rfl, s, d, L, e, b.cs.length, rfl, hS, hD, he, hsh, List.mem_map.mpr ⟨b, hb, hnm.symm⟩, fun H1 s1 => ⟨true, rfl, ite2 (fun z => by cases z) fun _ => ?_⟩⟩
    refine next_in ?_
    dsimp only
    have hD1 := s1.keep hD
    refine ⟨.ref d, rfl, d, rfl, ⟨_, SqT.of hD1⟩, for_tup (xs := [V.ref e.a]) (fun i σ H' => ∃ y2 y3 y4 : Option V, σ = [some (.ref s), some (.ref d), y2, y3, y4] ∧ Sm [] H H') ?_ ?_ ?_ ?_⟩
    · exact ⟨none, none, none, rfl, s1⟩
    · rintro i σ H' _ ⟨y2, y3, y4, rfl, s2⟩
      exact SqT.of (s2.keep hD)
    · rintro i x σ H2 hx ⟨y2, y3, y4, rfl, s2⟩
      have ex : x = .ref e.a := by
        match i, hx with
        | 0, hx => exact (Option.some.inj hx).symm
      subst ex
      have he2 := he.kp s2.kp
      have hS2 := hS.sm s2
      obtain ⟨dx, t, h1, h2⟩ := hS2.ex
      have hbt := hS2.all b hb
      refine ⟨e.a, _, rfl, SqT.of he2.at_, rfl, _, _, rfl, _, _, rfl, _, _, rfl, rfl, ?_⟩
      refine ⟨.ref e.t, rfl, .ref s, rfl, .str e.nm, rfl, s, dx, _, rfl, h1, s, .str e.nm, L, rfl, hS2, .inl ⟨b, hb, by rw [hnm], ix_tb1 hbt ?_⟩⟩
      refine ⟨.ref b.c, b.cs.length, rfl, .inr ⟨_, hbt.col, by rw [List.length_map]⟩, .int e.fo, rfl, ?_⟩
      refine ⟨e.t, b.cs.length, e.fo, e.L, rfl, he2.tb, he2.ok, ?_, fun H3 s3 => ⟨true, rfl, ite2 (fun z => by cases z) fun _ => ⟨_, _, _, rfl, s2.trans s3⟩⟩⟩
      have := hbt.ok.le
      omega
    · rintro σ H2 ⟨y2, y3, y4, rfl, s2⟩
      exact q H2 s2
end
end K92

/-! databases: first_duplicate -/
namespace K92
open PySem PySem.Spec PyProof.Rows L2
abbrev sFd : Stmt := topS 43
abbrev nFd : List Str := ["table", "rows", "name", "columns", "indexes", "unique", "index", "column", "values", "twice", "number", "one", "other"]
theorem scFd : FnScope ["table", "rows", "name", "columns", "indexes", "unique", "index", "column", "values", "twice", "number", "one", "other"] ["table", "rows"] (defScope sFd) := ⟨rfl, rfl, rfl, by decide +kernel, rfl, by decide +kernel, by decide +kernel⟩
section
variable {P : Program} {w : World} {K : PySem.W.Frag} {mg : Str → Option Value} {base : Heap}
def spFd (K : PySem.W.Frag) : Sp := fun vs H Q _ => ∃ (b : TbE) (t : Addr) (L : List RwE), vs = [.ref b.a, .ref t] ∧ Tbl K H b.a b.nm b.c b.cs ∧ H t = some (.tup (rws L)) ∧ (∀ e ∈ L, RwOk H b.cs.length e) ∧ L.length ≤ 90 ∧ ∀ H', Sm [] H H' → Q .non H'
theorem ok_fd {f : Addr} {fd : FuncData} (F : Fun K "first_duplicate" "first_duplicate" sFd f fd) (B : Bn mg) : FnOk P w K mg base CX0 1 f fd ["table", "rows"] (spFd K) := by
  refine F.ok scFd (fun vs H Q E h => ?_) (fun cdv A outer s0 H vs Q E hr h => ?_)
  · obtain ⟨b, t, L, rfl, _⟩ := h
    rfl
  · obtain ⟨b, t, L, rfl, hb, hT, hL, few, q⟩ := h
    have nd := scFd.nd
    refine ⟨_, pss_cons (ps_asg (pv 0) (pg_tup rfl (pgs_cons (pg_name (i := 2) nd rfl (.inl rfl)) (pgs_cons (pg_name (i := 3) nd rfl (.inl rfl)) (pgs_cons (pg_name (i := 4) nd rfl (.inl rfl)) (pgs_cons (pg_name (i := 5) nd rfl (.inl rfl)) pgs_nil))))))
      (pss_cons (ps_for PassesOwn.never rfl (pi_enT (by rfl) B.enumerate (pa_cons (pv 3) pa_nil)) (pg_tup rfl (pgs_cons (pg_name (i := 6) nd rfl (.inr rfl) (.inl rfl)) (pgs_cons (pg_name (i := 7) nd rfl (.inl rfl)) pgs_nil)))
        (pss_cons (ps_set (i := 8) nd rfl (.inl rfl) (pe_callB cr_sortedI (by rfl) B.sorted boot_sorted (pa_cons
            (pe_lc (own := [("number", 10), ("values", 8)]) (g := gTup K 2 (gCons (gName 10) (gCons (gName 8) gNil))) (tt := tYes) (te := tOp (rIx K) (tVar 8) (tVar 6)) rfl nd (pi_tup (pv 1)) (blkOk_by (N := nFd) (sc := defScope sFd) (by decide +kernel))
              (fun _ _ _ _ _ => pg_tup rfl (pgs_cons (pg_name (i := 10) nd rfl (.inl rfl)) (pgs_cons (pg_name (i := 8) nd rfl (.inl rfl)) pgs_nil))) (fun _ _ _ _ _ => pts_nil) (fun _ _ _ _ _ => pe_ix ix_seq (pv 8) (pv 6) (fun _ _ => rfl))) pa_nil)))
        (pss_cons (ps_setLc (i := 9) (own := [("one", 11), ("other", 12)]) (g := gTup K 2 (gCons (gName 11) (gCons (gName 12) gNil))) (tt := tTest (tOp rEq (tVar 11) (tVar 12))) (te := tVar 11) rfl nd rfl rfl (sw_true rfl rfl rfl rfl) (RZ.pi_zipA (by rfl) B.zip (pa_cons (pv 8) (pa_cons (pe_slice sl_any (pv 8) (po_some pe_int) po_none) pa_nil)))
            (blkOk_by (N := nFd) (sc := defScope sFd) (by decide +kernel))
            (fun _ _ _ _ _ => pg_tup rfl (pgs_cons (pg_name (i := 11) nd rfl (.inl rfl)) (pgs_cons (pg_name (i := 12) nd rfl (.inl rfl)) pgs_nil))) (fun _ _ _ _ _ => pts_one (pt_cmpR op_eq (pv 11) (pv 12) (nomark _))) (fun _ _ _ _ _ => pv 11))
        (pss_one (ps_if (PW.pt (pw_and (pt_cmpR op_in_seq (pv 7) (pv 5) (by rfl)) (pw_and1 (pt_cmpR (op_neD hr.units) (pv 9) (pe_lst pa_nil) (nomark _))))) (pss_one ps_never) pss_nil)))))
      (pss_one (ps_ret pe_non))), ?_⟩
    obtain ⟨i4, u5, h1, h2, h3⟩ := hb.ex
    have few4 := hb.ok.le
    refine ⟨.ref b.a, rfl, b.a, _, rfl, SqT.of h1, rfl, _, _, rfl, _, _, rfl, _, _, rfl, _, _, rfl, rfl, ?_⟩
    refine ⟨.ref b.c, rfl, b.c, _, rfl, hb.col, for_it (walk_enT (xs := b.cs.map V.str)) (fun i σ H' => ∃ y6 y7 y8 y9 : Option V, σ = [some (.ref b.a), some (.ref t), some (.str b.nm), some (.ref b.c), some (.ref i4), some (.ref u5), y6, y7, y8, y9, none, none, none] ∧ Sm [] H H') ?_ ?_ ?_ ?_⟩
    · exact ⟨none, none, none, none, rfl, Sm.refl⟩
    · rintro i σ H' _ ⟨y6, y7, y8, y9, rfl, s1⟩
      exact sqt_sm hb.col s1
    · rintro i x σ H1 H2 hi ⟨y6, y7, y8, y9, rfl, s1⟩ ⟨T0, n0, x0, rfl, hT0, rfl, en, hx⟩
      cases en
      obtain ⟨z, hz, rfl⟩ := str_at hx
      have il : i < b.cs.length := (List.getElem?_eq_some_iff.mp hz).1
      have s2 : Sm [] H (upd H1 T0 (.tup [.int (i : Nat), .str z])) := s1.new hT0
      have e2 : (upd H1 T0 (.tup [.int (i : Nat), .str z])) T0 = some (.tup [.int (i : Nat), .str z]) := upd_same
      generalize upd H1 T0 (.tup [.int (i : Nat), .str z]) = H2 at s2 e2
      refine ⟨T0, _, rfl, SqT.of e2, rfl, _, _, rfl, _, _, rfl, rfl, ?_⟩
      have hT2 := s2.keep hT
      have hL2 : ∀ e ∈ L, RwOk H2 b.cs.length e := fun e he => (hL e he).kp s2.kp
      refine ⟨.ref t, rfl, t, rfl, ⟨_, SqT.of hT2⟩, fun D hD => ?_⟩
      refine lc_it (walk_tup (K := K) (a := t) (xs := rws L)) (fun k H' => H' D = some (.lst (((L.take k).map fun e => e.r.getD i 0).map V.int)) ∧ Sm [] H2 H') ⟨upd_same, Sm.refl.new hD⟩ ?_ ?_ ?_
      · rintro k H' _ ⟨g1, g2⟩
        exact SqT.of (g2.keep hT2)
      · rintro k x H3 H4 hk ⟨g1, g2⟩ ⟨rfl, hx⟩
        obtain ⟨e, he, rfl⟩ := rw_at hx
        have eo := (hL2 e (List.mem_of_getElem? he)).kp g2.kp
        have kl := (List.getElem?_eq_some_iff.mp he).1
        have at_ : (e.r.map V.int)[i]? = some (.int (e.r.getD i 0)) := by
          have : i < e.r.length := by rw [eo.len]; exact il
          rw [List.getElem?_map, List.getD_eq_getElem?_getD, List.getElem?_eq_getElem this]
          rfl
        refine ⟨e.a, _, rfl, SqT.of eo.at_, rfl, _, _, rfl, _, _, rfl, rfl, rfl, .ref e.v, rfl, .int i, rfl, .inr (.inl ⟨e.v, _, i, _, rfl, rfl, SqT.of eo.vs, atI_nat at_, _, g1, ?_, ?_, g2.own hD⟩)⟩
        · rw [List.length_map, List.length_map, List.length_take]
          exact small1000 (by omega)
        · rw [upd_same, List.take_add_one, he, Option.toList_some, List.map_append, List.map_append]
          rfl
      · rintro H3 ⟨g1, g2⟩
        rw [List.length_map, List.take_length] at g1
        refine ⟨D, _, rfl, SqL.of g1, fun ns p perm _ hp => ?_⟩
        have ln : ns.length ≤ 90 := by
          rw [perm.length_eq, List.length_map]
          exact few
        have s4 : Sm [] H (upd H3 p (.lst (ns.map V.int))) := (s2.trans g2).new hp
        have e4 : (upd H3 p (.lst (ns.map V.int))) p = some (.lst (ns.map V.int)) := upd_same
        generalize upd H3 p (.lst (ns.map V.int)) = H4 at s4 e4
        refine ⟨.ref p, rfl, .ref p, rfl, 1, rfl, .inl ⟨p, ns.map V.int, rfl, SqL.of e4, fun u hu => ?_⟩⟩
        rw [cut1]
        have s5 : Sm [] H4 (upd H4 u (.lst ((ns.map V.int).drop 1))) := Sm.refl.new hu
        have e5 : (upd H4 u (.lst ((ns.map V.int).drop 1))) u = some (.lst ((ns.map V.int).drop 1)) := upd_same
        generalize upd H4 u (.lst ((ns.map V.int).drop 1)) = H5 at s5 e5
        have e45 := s5.keep e4
        refine ⟨p, u, ns.map V.int, (ns.map V.int).drop 1, rfl, .inl ⟨SqL.of e45, SqL.of e5, fun D2 hD2 => ?_⟩⟩
        refine lc_it (walk_zip (n := min (ns.map V.int).length ((ns.map V.int).drop 1).length) rfl) (fun k H' => ∃ acc, H' D2 = some (.lst acc) ∧ acc.length ≤ k ∧ Sm [] H5 H') ⟨[], upd_same, Nat.le_refl _, Sm.refl.new hD2⟩ ?_ ?_ ?_
        · rintro k H' _ ⟨acc, a1, a2, a3⟩
          exact ⟨SqL.of (a3.keep e45), SqL.of (a3.keep e5)⟩
        · rintro k x H6 H7 hk ⟨acc, a1, a2, a3⟩ ⟨T, x, y, rfl, hT', rfl, hx, hy⟩
          have k90 : k < 90 := by
            have := Nat.min_le_left (ns.map V.int).length ((ns.map V.int).drop 1).length
            rw [List.length_map] at this hk
            omega
          have isI : ∀ {j : Nat} {v : V}, (ns.map V.int)[j]? = some v → ∃ m, v = .int m := fun {j v} h => by
            rw [List.getElem?_map] at h
            cases c : ns[j]? with
            | none => rw [c] at h; cases h
            | some m => rw [c] at h; exact ⟨m, (Option.some.inj h).symm⟩
          obtain ⟨m, rfl⟩ := isI hx
          obtain ⟨n, rfl⟩ : ∃ n, y = .int n := by
            have hy2 : ((ns.map V.int).drop 1)[k]? = some y := hy
            rw [List.getElem?_drop] at hy2
            exact isI hy2
          have s7 : Sm [] H6 (upd H6 T (.tup [.int m, .int n])) := Sm.refl.new hT'
          refine ⟨T, _, rfl, SqT.of upd_same, rfl, _, _, rfl, _, _, rfl, rfl, rfl, .int m, rfl, .int n, rfl, rfl, _, rfl, ite2 (fun _ => ?_) fun _ => ?_⟩
          · refine ⟨.int m, rfl, acc, s7.keep a1, small1000 (by omega), acc ++ [.int m], upd_same, ?_, (a3.trans s7).own hD2⟩
            rw [List.length_append]
            show acc.length + 1 ≤ k + 1
            omega
          · exact ⟨acc, s7.keep a1, by omega, a3.trans s7⟩
        · rintro H6 ⟨acc, a1, a2, a3⟩
          have s6 := (s4.trans s5).trans a3
          refine ⟨.str z, rfl, .ref u5, rfl, u5, [], rfl, .inr (sqt_sm h3 s6), rfl, rfl, _, rfl, ite2 (fun z => by simp [inV] at z) fun _ => ?_⟩
          exact ite2 (fun z => by cases z) fun _ => ⟨_, _, _, _, rfl, s6⟩
    · rintro σ H1 ⟨y6, y7, y8, y9, rfl, s1⟩
      exact q H1 s1
end
end K92

/-! class Database -/
namespace K92
open PySem PySem.Spec PyProof.Rows L2
abbrev sDi : Stmt := inClass (topS 49) 0
abbrev nDi : List Str := ["self", "schema", "data", "told", "name", "following", "rows", "duplicate", "table"]
theorem scDi : FnScope ["self", "schema", "data", "told", "name", "following", "rows", "duplicate", "table"] ["self", "schema", "data"] (defScope sDi) := ⟨rfl, rfl, rfl, by decide +kernel, rfl, by decide +kernel, by decide +kernel⟩
abbrev sDs1 : Stmt := inClass (topS 49) 1
theorem scDs1 : FnScope ["self"] ["self"] (defScope sDs1) := ⟨rfl, rfl, rfl, by decide +kernel, rfl, by decide +kernel, by decide +kernel⟩
abbrev sDp : Stmt := inClass (topS 49) 5
theorem scDp : FnScope ["self", "name", "part"] ["self", "name"] (defScope sDp) := ⟨rfl, rfl, rfl, by decide +kernel, rfl, by decide +kernel, by decide +kernel⟩
abbrev sDg : Stmt := inClass (topS 49) 6
theorem scDg : FnScope ["self", "name"] ["self", "name"] (defScope sDg) := ⟨rfl, rfl, rfl, by decide +kernel, rfl, by decide +kernel, by decide +kernel⟩
/-- what the top has made of Database -/
structure DbC (K : PySem.W.Frag) (mg : Str → Option Value) (C fi fs fp fg p : Addr) : Prop where
  cl : Cls K C
  mkS : Mk K C fi
  nS : NoAttr K C "schema_kept"
  nP : NoAttr K C "parts_kept"
  gC : mg "Database" = some (.ref C)
  pr : PropOf K C "schema" p fs
  mt : Meth K C "part_of" fp
  gi : PySem.W.findIn K (.ref C) "__getitem__" = some (some (.ref fg))
  gn : PySem.W.fnIn K fg = true
  gf : PySem.W.isFn K (.ref fg) = true
abbrev pfs (L : List PtE) : List V := L.map fun e => V.ref e.a
theorem pf_at {L : List PtE} {i : Nat} {x : V} (h : (pfs L)[i]? = some x) : ∃ e, L[i]? = some e ∧ x = .ref e.a := by
  rw [List.getElem?_map] at h
  cases q : L[i]? with
  | none => rw [q] at h; cases h
  | some e => rw [q] at h; exact ⟨e, rfl, (Option.some.inj h).symm⟩
/-- a database over a schema: a part for each table -/
structure DbAt (K : PySem.W.Frag) (CS CD : Addr) (H : Hp) (d s : Addr) (L : List TbE) (ps : List PtE) : Prop where
  ex : ∃ dx t, H d = some (.ins CD dx [("schema_kept", .ref s), ("parts_kept", .ref t)]) ∧ H t = some (.tup (pfs ps))
  sch : SchAt K CS H s L
  nm : ps.map PtE.nm = L.map TbE.nm
  pts : ∀ e ∈ ps, ∃ b ∈ L, e.nm = b.nm ∧ PtOk H b.cs.length e
theorem DbAt.sm {K : PySem.W.Frag} {CS CD : Addr} {H H' : Hp} {d s : Addr} {L : List TbE} {ps : List PtE} (t : DbAt K CS CD H d s L ps) (s1 : Sm [] H H') : DbAt K CS CD H' d s L ps := by
  obtain ⟨dx, p, h1, h2⟩ := t.ex
  refine ⟨⟨dx, p, s1.keep h1, s1.keep h2⟩, t.sch.sm s1, t.nm, fun e he => ?_⟩
  obtain ⟨b, hb, hn, ho⟩ := t.pts e he
  exact ⟨b, hb, hn, ho.kp s1.kp⟩
/-- a walk that stands for the comprehension's turns, the keys texts -/
theorem dck_it {J : It} {n : Nat} {G : Hp → Prop} {Y : Nat → Hp → V → Hp → Prop} (wk : Walk J n G Y) {g : TG} {tt : TT} {tk tv : TE} {vs : List Nat} {σ : L2.St} {H1 : Hp} {D : Addr} {R : Hp → Prop} (Pv : Nat → Hp → Prop) (first : Pv 0 (upd H1 D (.dK []))) (hG : ∀ i H, i ≤ n → Pv i H → G H)
    (turn : ∀ i x H H', i < n → Pv i H → Y i H x H' → g x (wipe σ vs) H' fun σ2 H2 => wipe σ2 vs = wipe σ vs ∧ tt σ2 H2 fun b H3 =>
      if b = true then tk σ2 H3 fun y H4 => tv σ2 H4 fun z H5 => ∃ kvs k, y = kV k ∧ H5 D = some (.dK kvs) ∧ kvs.length < sizeLine ∧ Pv (i + 1) (upd H5 D (.dK (putK kvs k z))) else Pv (i + 1) H3) (last : ∀ H, Pv n H → R H) :
    ∃ W : Nat → Nat → Hp → Prop, (∃ m, W 0 m (upd H1 D (.dK []))) ∧ ∀ i m H, W i m H →
      (J.stop i H ∧ R H) ∨ (J.go i H ∧ ∃ Nx : Hp → Prop, (∀ H', Nx H' → ∃ m', m' < m ∧ W (i + 1) m' H') ∧ ∀ x H', J.yld i H x H' → g x (wipe σ vs) H' fun σ2 H2 => wipe σ2 vs = wipe σ vs ∧ tt σ2 H2 fun b H3 =>
        if b = true then tk σ2 H3 fun y H4 => tv σ2 H4 fun z H5 => ∃ kvs k, y = kV k ∧ H5 D = some (.dK kvs) ∧ kvs.length < sizeLine ∧ Nx (upd H5 D (.dK (putK kvs k z))) else Nx H3) := by
  refine ⟨fun i m H => m + i = n ∧ Pv i H, ⟨n, rfl, first⟩, ?_⟩
  rintro i m H ⟨sum, p⟩
  cases m with
  | zero =>
    have e : i = n := by omega
    subst e
    exact .inl ⟨wk.stops H (hG i H (Nat.le_refl _) p), last H p⟩
  | succ m =>
    have lt : i < n := by omega
    have st := hG i H (Nat.le_of_lt lt) p
    exact .inr ⟨wk.goes i H lt st, Pv (i + 1), fun H' p' => ⟨m, Nat.lt_succ_self m, by omega, p'⟩, fun x H' y => turn i x H H' lt p (wk.yields i H x H' lt st y)⟩
theorem SchAt.but {K : PySem.W.Frag} {C : Addr} {H H' : Hp} {a d : Addr} {L : List TbE} (t : SchAt K C H a L) (s : Sm [d] H H') (n : ∀ o, H d = some o → (∀ xs, o ≠ .tup xs) ∧ ∀ o' u, o ≠ .frz o' u) (ne : a ≠ d) : SchAt K C H' a L := by
  obtain ⟨dx, p, h1, h2⟩ := t.ex
  refine ⟨⟨dx, p, s _ _ h1 (by simpa using ne), s _ _ h2 fun z => ?_⟩, t.all.but s n, t.nd, t.few⟩
  rw [List.mem_singleton] at z
  exact (n _ (z ▸ h2)).1 _ rfl
abbrev dbF (s t : V) : List (Str × V) := [("schema_kept", s), ("parts_kept", t)]
theorem put2 {s t : V} : putF "parts_kept" t [(("schema_kept" : Str), s)] = dbF s t := by
  show (if ("schema_kept" : Str) = "parts_kept" then [(("schema_kept" : Str), t)] else (("schema_kept" : Str), s) :: putF "parts_kept" t []) = dbF s t
  rw [if_neg (by decide +kernel)]
  rfl
theorem look2 {s t : V} : (dbF s t).lookup ("parts_kept" : Str) = some t := by
  rw [← put2, lookup_putF, if_pos rfl]
theorem look1 {s t : V} : (dbF s t).lookup ("schema_kept" : Str) = some s := by
  rw [← put2, lookup_putF, if_neg (by decide +kernel)]
  rfl
theorem val1 (k k' : Str) (v : V) : valV [((Sum.inr k : Key), v)] (Sum.inr k') = if k = k' then some v else none := by
  by_cases h : k = k'
  · subst h
    rw [if_pos rfl]
    simp [valV]
  · rw [if_neg h]
    simp [valV, h]
section
variable {P : Program} {w : World} {K : PySem.W.Frag} {mg : Str → Option Value} {base : Heap}
def spDi (K : PySem.W.Frag) (CS CD : Addr) : Sp := fun vs H Q _ => ∃ (d dx s x : Addr) (L : List TbE) (e : PtE) (b : TbE), vs = [.ref d, .ref s, .ref x] ∧ H d = some (.ins CD dx []) ∧ SchAt K CS H s L ∧ H x = some (.tup [.ref e.a]) ∧ b ∈ L ∧ e.nm = b.nm ∧ PtOk H b.cs.length e ∧
  ∀ H' ps, Sm [d] H H' → DbAt K CS CD H' d s L ps → (∀ f ∈ ps, f.L = if f.nm = e.nm then e.L else []) → Q .non H'
theorem ok_di {f CS fi fp fg fc p Nt CD fs fpo fgd pd : Addr} {fdG : FuncData} {oc dV kV doc pm cdv ct : Value} {od an : Option Addr} {osl : Array (Option Value)} (B : Bn mg) (T : SchC K mg CS fi fp fg fc p) (TD : DbC K mg CD f fs fpo fgd pd)
    (FG : FnOk P w K mg base (L2.CX P w) 3 fg fdG ["self", "name"] (spSg K CS Nt)) (bG : Binds K fdG ["self", "name"] []) {fdP : FuncData} (FP : FnOk P w K mg base CX0 1 fp fdP ["self"] (getSp CS "tables_kept")) (bP : Binds K fdP ["self"] [])
    (cRd : Cal P w K mg base "require_data" ["schema", "thing"] 5 (spRd K CS)) (cFd : Cal P w K mg base "first_duplicate" ["table", "rows"] 1 (spFd K))
    (lk : K.lookup f = some ⟨oc, od, .func (PySem.W.fnOf "__init__" "Database.__init__" (defArgs sDi) (defBody sDi) (defScope sDi) dV kV doc pm an cdv ct), osl⟩) (hcd : PySem.W.codeIn K cdv "Database.__init__" = true) :
    FnOk P w K mg base CX0 6 f (PySem.W.fnOf "__init__" "Database.__init__" (defArgs sDi) (defBody sDi) (defScope sDi) dV kV doc pm an cdv ct) ["self", "schema", "data"] (spDi K CS CD) := by
  refine fn_of lk hcd scDi (fun vs H Q E h => ?_) (fun A outer s0 H vs Q E hr h => ?_)
  · obtain ⟨d, dx, s, x, L, e, b, rfl, _⟩ := h
    rfl
  · obtain ⟨d, dx, s, x, L, e, b, rfl, hd, hS, hx, hb, hnm, he, q⟩ := h
    have nd := scDi.nd
    have hu := hu_of hr
    refine ⟨_, pss_cons (ps_expr (pe_own cRd hr (pa_cons (pv 1) (pa_cons (pv 2) pa_nil))))
      (pss_cons (ps_set (i := 3) nd rfl (.inr rfl) (pe_dc (own := [("name", 4), ("following", 5), ("rows", 6)]) (g := gTup K 3 (gCons (gName 4) (gCons (gName 5) (gCons (gName 6) gNil)))) (tt := tYes) (tk := tVar 4) (tv := tTup (tCons (tVar 4) (tCons (tVar 5) (tCons (tVar 6) tNil)))) rfl nd (pi_tup (pv 2)) (blkOk_by (N := nDi) (sc := defScope sDi) (by decide +kernel))
          (fun _ _ _ _ _ => pg_tup rfl (pgs_cons (pg_name (i := 4) nd rfl (.inl rfl)) (pgs_cons (pg_name (i := 5) nd rfl (.inl rfl)) (pgs_cons (pg_name (i := 6) nd rfl (.inl rfl)) pgs_nil))))
          (fun _ _ _ _ _ => pts_nil) (fun _ _ _ _ _ => pv 4) (fun _ _ _ _ _ => pe_tup (pa_cons (pv 4) (pa_cons (pv 5) (pa_cons (pv 6) pa_nil))))))
      (pss_cons (ps_fld (pv 0) (pv 1) rfl)
      (pss_cons (ps_fld (pv 0) (pe_callTy call_tuple_of (by rfl) B.tuple boot_tuple (pa_cons
          (pe_lc (own := [("table", 8)]) (g := gName 8) (tt := tYes) (te := tDGet2 (tVar 3) (tOp (rIx K) (tVar 8) (tC (.int 0))) (tTup (tCons (tOp (rIx K) (tVar 8) (tC (.int 0))) (tCons (tC (.int 0)) (tCons (tTup tNil) tNil))))) rfl nd
            (pi_tup (pe_prop (pv 1) T.cl T.pr FP (hr.mono (by decide)) bP .nil pass0 (by rfl))) (blkOk_by (N := nDi) (sc := defScope sDi) (by decide +kernel))
            (fun _ _ _ _ _ => pg_name (i := 8) nd rfl (.inl rfl)) (fun _ _ _ _ _ => pts_nil)
            (fun _ _ _ _ _ => pe_dget2 hu (pv 3) (pe_ix ix_seq (pv 8) pe_int (fun _ _ => rfl)) (pe_tup (pa_cons (pe_ix ix_seq (pv 8) pe_int (fun _ _ => rfl)) (pa_cons pe_int (pa_cons (pe_tup pa_nil) pa_nil)))) ⟨by rfl, by rfl, by rfl, by rfl⟩)) pa_nil)) rfl)
      (pss_one (ps_for (passes_of rfl) rfl (pi_tup (pe_fld (pv 0) rfl)) (pg_tup rfl (pgs_cons (pg_name (i := 4) nd rfl (.inl rfl)) (pgs_cons (pg_name (i := 5) nd rfl (.inl rfl)) (pgs_cons (pg_name (i := 6) nd rfl (.inl rfl)) pgs_nil))))
        (pss_cons (ps_set (i := 7) nd rfl (.inl rfl) (pe_own (cFd.mono (by decide)) hr (pa_cons (pe_subO (pv 1) (pv 4) T.gi T.gn T.gf (FG.raw bG .nil) (hr.mono (by decide)) passF) (pa_cons (pv 6) pa_nil))))
        (pss_one (ps_if (pt_cmpR op_notN (pv 7) pe_non (nomark _)) (pss_one ps_never) pss_nil)))))))), ?_⟩
    have hSi : ∀ {H'}, SchAt K CS H' s L → ∃ dx t, H' s = some (.ins CS dx [("tables_kept", .ref t)]) ∧ H' t = some (.tup (rfs L)) := fun h => h.ex
    have nsd : s ≠ d := fun z => by
      obtain ⟨dxs, t, h1, _⟩ := hS.ex
      rw [z, hd] at h1
      cases h1
    refine ⟨.ref s, rfl, .ref x, rfl, s, x, L, e, b, rfl, hS, hx, hb, hnm, he, fun H1 s1 => ?_⟩
    have hx1 := s1.keep hx
    have he1 := he.kp s1.kp
    refine ⟨.ref x, rfl, x, rfl, ⟨_, SqT.of hx1⟩, fun D hD => ?_⟩
    refine dck_it (walk_tup (K := K) (a := x) (xs := [V.ref e.a])) (fun i H' => Sm [] H1 H' ∧ ((i = 0 ∧ H' D = some (.dK [])) ∨ (i = 1 ∧ ∃ t0, H' t0 = some (.tup [.str e.nm, .int e.fo, .ref e.t]) ∧ H' D = some (.dK [(Sum.inr e.nm, .ref t0)])))) ⟨Sm.refl.new hD, .inl ⟨rfl, upd_same⟩⟩ ?_ ?_ ?_
    · rintro i H' _ ⟨g1, _⟩
      exact SqT.of (g1.keep hx1)
    · rintro i y H2 H3 hi ⟨g1, g2⟩ ⟨rfl, hy⟩
      match i, hi, hy, g2 with
      | i + 1, hi, _, _ => exact absurd hi (by simp)
      | 0, _, hy, g2 =>
        cases Option.some.inj hy
        rcases g2 with ⟨_, g2⟩ | ⟨z, _⟩
        · refine ⟨e.a, _, rfl, SqT.of (g1.keep he1.at_), rfl, _, _, rfl, _, _, rfl, _, _, rfl, rfl, rfl, ?_⟩
          refine ⟨.str e.nm, rfl, .str e.nm, rfl, .int e.fo, rfl, .ref e.t, rfl, (by show 3 ≤ sizeLine; decide), fun t0 ht0 => ?_⟩
          have nD : D ≠ t0 := ne_of_none g2 ht0
          refine ⟨[], Sum.inr e.nm, rfl, ?_, (by show 0 < sizeLine; decide), (g1.new ht0).own hD, .inr ⟨rfl, t0, ?_, upd_same⟩⟩
          · rw [upd_ne nD]
            exact g2
          · rw [upd_ne (Ne.symm nD)]
            exact upd_same
        · cases z
    rintro H2 ⟨s2, ⟨z, _⟩ | ⟨_, t0, ht0, hD2⟩⟩
    · cases z
    have s12 := s1.trans s2
    have hd2 := s12.keep hd
    refine ⟨.ref s, rfl, .ref d, rfl, d, CD, dx, [], rfl, hd2, TD.cl, TD.nS, (by decide), ?_⟩
    have s3 : Sm [d] H (upd H2 d (.ins CD dx (putF "schema_kept" (.ref s) []))) := s12.nil.put (by simp)
    have e3 : (upd H2 d (.ins CD dx (putF "schema_kept" (.ref s) []))) d = some (.ins CD dx [("schema_kept", .ref s)]) := upd_same
    have hD3 : (upd H2 d (.ins CD dx (putF "schema_kept" (.ref s) []))) D = some (.dK [(Sum.inr e.nm, .ref t0)]) := by
      rw [upd_ne (ne_of hD2 hd2 (by intro z; cases z))]
      exact hD2
    have ht3 : (upd H2 d (.ins CD dx (putF "schema_kept" (.ref s) []))) t0 = some (.tup [.str e.nm, .int e.fo, .ref e.t]) := by
      rw [upd_ne (ne_of ht0 hd2 (by intro z; cases z))]
      exact ht0
    generalize upd H2 d (.ins CD dx (putF "schema_kept" (.ref s) [])) = H3 at s3 e3 hD3 ht3
    have hdn : ∀ o, H d = some o → (∀ xs, o ≠ .tup xs) ∧ ∀ o' u, o ≠ .frz o' u := fun o z => by
      rw [hd] at z
      cases z
      exact ⟨fun xs z => (by cases z), fun o' u z => (by cases z)⟩
    have ntd : NT [d] H := fun a ha xs z => by
      rw [List.mem_singleton] at ha
      rw [ha, hd] at z
      cases z
    have hS3 := hS.but s3 hdn nsd
    have he3 := he.kp (s3.kpD ntd)
    obtain ⟨dxs, ts, k1, k2⟩ := hS3.ex
    refine ⟨.ref s, rfl, s, dxs, _, rfl, k1, s, dxs, _, .ref ts, rfl, k1, by rfl, ts, rfl, ⟨_, SqT.of k2⟩, fun D2 hDn => ?_⟩
    refine lc_it (walk_tup (K := K) (a := ts) (xs := rfs L)) (fun i H' => ∃ ps : List PtE, H' D2 = some (.lst (pfs ps)) ∧ Sm [] H3 H' ∧ ps.map PtE.nm = (L.take i).map TbE.nm ∧ (∀ f ∈ ps, ∃ b ∈ L, f.nm = b.nm ∧ PtOk H' b.cs.length f) ∧ ∀ f ∈ ps, f.L = if f.nm = e.nm then e.L else []) ⟨[], upd_same, Sm.refl.new hDn, rfl, fun f h => absurd h (by simp), fun f h => absurd h (by simp)⟩ ?_ ?_ ?_
    · rintro i H' _ ⟨ps, g1, g2, _⟩
      exact SqT.of (g2.keep k2)
    · rintro i y H0 H4 hi ⟨ps, g1, g2, g3, g4, g5⟩ ⟨rfl, hy⟩
      obtain ⟨tb, htb, rfl⟩ := rf_at hy
      have tbm := List.mem_of_getElem? htb
      have il := (List.getElem?_eq_some_iff.mp htb).1
      have few := hS.few
      have lps : ps.length ≤ 4 := by
        have := congrArg List.length g3
        rw [List.length_map, List.length_map, List.length_take] at this
        omega
      have tbo := (hS3.all tb tbm).sm g2
      refine ⟨rfl, .ref D, rfl, D, rfl, .inl ⟨_, .inl (g2.keep hD3)⟩, .ref tb.a, rfl, ix_tab tbo ⟨.ref tb.a, rfl, ix_tab tbo ⟨Nat.zero_le _, fun u hu => ⟨(by show 3 ≤ sizeLine; decide), fun v hv => ?_⟩⟩⟩⟩
      have s5 : Sm [] H4 (upd H4 u (.tup [])) := Sm.refl.new hu
      have u5 : (upd H4 u (.tup [])) u = some (.tup []) := upd_same
      generalize upd H4 u (.tup []) = H5 at s5 u5 hv
      have s6 : Sm [] H5 (upd H5 v (.tup [.str tb.nm, .int 0, .ref u])) := Sm.refl.new hv
      have v6 : (upd H5 v (.tup [.str tb.nm, .int 0, .ref u])) v = some (.tup [.str tb.nm, .int 0, .ref u]) := upd_same
      generalize upd H5 v (.tup [.str tb.nm, .int 0, .ref u]) = H6 at s6 v6
      have u6 := s6.keep u5
      have g26 := (g2.trans s5).trans s6
      refine ⟨_, DGet.k (k := Sum.inr tb.nm) (g26.keep hD3), ?_⟩
      rw [val1]
      have fin : ∀ f : PtE, f.nm = tb.nm → PtOk H6 tb.cs.length f → (f.L = if f.nm = e.nm then e.L else []) → ∃ acc, H6 D2 = some (.lst acc) ∧ acc.length < sizeLine ∧ ∃ ps : List PtE, (upd H6 D2 (.lst (acc ++ [.ref f.a]))) D2 = some (.lst (pfs ps)) ∧ Sm [] H3 (upd H6 D2 (.lst (acc ++ [.ref f.a]))) ∧ ps.map PtE.nm = (L.take (i + 1)).map TbE.nm ∧ (∀ f2 ∈ ps, ∃ b ∈ L, f2.nm = b.nm ∧ PtOk (upd H6 D2 (.lst (acc ++ [.ref f.a]))) b.cs.length f2) ∧ ∀ f2 ∈ ps, f2.L = if f2.nm = e.nm then e.L else [] := fun f fn fo fl => by
        have d6 := (s5.trans s6).keep g1
        have kp9 : Kp H6 (upd H6 D2 (.lst (pfs ps ++ [.ref f.a]))) := fun b xs z => by
          rw [upd_ne (ne_of z d6 (by intro w; cases w))]
          exact z
        refine ⟨pfs ps, d6, small16 (by rw [List.length_map]; omega), ps ++ [f], ?_, g26.own hDn, ?_, fun f' hf' => ?_, fun f' hf' => ?_⟩
        · rw [upd_same]
          simp [pfs]
        · rw [List.map_append, g3, List.take_add_one, htb, Option.toList_some, List.map_append]
          simp [fn]
        · rcases List.mem_append.mp hf' with h | h
          · obtain ⟨b', hb', n', o'⟩ := g4 f' h
            exact ⟨b', hb', n', o'.kp ((s5.trans s6).kp.trans kp9)⟩
          · rw [List.mem_singleton] at h
            rw [h]
            exact ⟨tb, tbm, fn, fo.kp kp9⟩
        · rcases List.mem_append.mp hf' with h | h
          · exact g5 f' h
          · rw [List.mem_singleton] at h
            rw [h]
            exact fl
      by_cases hh : e.nm = tb.nm
      · rw [if_pos hh]
        have etb : tb = b := nm_inj hS.nd tbm hb (by rw [← hh, hnm])
        have he6 := he3.kp g26.kp
        refine fin ⟨t0, e.nm, e.fo, e.t, e.L⟩ hh ⟨g26.keep ht3, he6.tb, by rw [etb]; exact he6.ok⟩ ?_
        exact (if_pos rfl).symm
      · rw [if_neg hh]
        refine fin ⟨v, tb.nm, 0, u, []⟩ rfl ⟨v6, u6, fun f h => absurd h (by simp), fun i x y hx hy => ?_, Nat.zero_le _, Int.le_refl _⟩ ?_
        · simp at hy
        · exact (if_neg (Ne.symm hh)).symm
    · rintro H4 ⟨ps, g1, g2, g3, g4, g5⟩
      rw [List.length_map, List.take_length] at g3
      refine ⟨D2, _, rfl, .inl ⟨SqL.of g1, fun tt htt => ?_⟩⟩
      have s5 : Sm [] H3 (upd H4 tt (.tup (pfs ps))) := g2.new htt
      have k5 : Kp H4 (upd H4 tt (.tup (pfs ps))) := Kp.refl.new htt
      have e5 : (upd H4 tt (.tup (pfs ps))) tt = some (.tup (pfs ps)) := upd_same
      generalize upd H4 tt (.tup (pfs ps)) = H5 at s5 k5 e5
      have d5 := s5.keep e3
      refine ⟨.ref d, rfl, d, CD, dx, _, rfl, d5, TD.cl, TD.nP, (by show 1 < 1000; decide), ?_⟩
      rw [put2]
      have s6 : Sm [d] H (upd H5 d (.ins CD dx (dbF (.ref s) (.ref tt)))) := (s3.trans s5.nil).put (by simp)
      have e6 : (upd H5 d (.ins CD dx (dbF (.ref s) (.ref tt)))) d = some (.ins CD dx (dbF (.ref s) (.ref tt))) := upd_same
      have t6 : (upd H5 d (.ins CD dx (dbF (.ref s) (.ref tt)))) tt = some (.tup (pfs ps)) := by
        rw [upd_ne (ne_of e5 d5 (by intro z; cases z))]
        exact e5
      have k6 : Kp H5 (upd H5 d (.ins CD dx (dbF (.ref s) (.ref tt)))) := fun b xs z => by
        rw [upd_ne (ne_of z d5 (by intro w; cases w))]
        exact z
      generalize upd H5 d (.ins CD dx (dbF (.ref s) (.ref tt))) = H6 at s6 e6 t6 k6
      have hS6 := hS.but s6 hdn nsd
      have db : DbAt K CS CD H6 d s L ps := ⟨⟨dx, tt, e6, t6⟩, hS6, g3, fun f hf => by
        obtain ⟨b', hb', n', o'⟩ := g4 f hf
        exact ⟨b', hb', n', o'.kp (k5.trans k6)⟩⟩
      refine ⟨.ref d, rfl, d, CD, dx, _, .ref tt, rfl, e6, TD.cl, TD.nP, look2, tt, rfl, ⟨_, SqT.of t6⟩, for_tup (xs := pfs ps) (fun i σ H' => ∃ y4 y5 y6 y7 : Option V, σ = [some (.ref d), some (.ref s), some (.ref x), some (.ref D), y4, y5, y6, y7, none] ∧ Sm [] H6 H') ?_ ?_ ?_ ?_⟩
      · exact ⟨none, none, none, none, rfl, Sm.refl⟩
      · rintro i σ H' _ ⟨y4, y5, y6, y7, rfl, s7⟩
        exact SqT.of (s7.keep t6)
      · rintro i y σ H7 hy ⟨y4, y5, y6, y7, rfl, s7⟩
        obtain ⟨f, hf, rfl⟩ := pf_at hy
        have db7 := db.sm s7
        obtain ⟨b', hb', n', o'⟩ := db7.pts f (List.mem_of_getElem? hf)
        obtain ⟨dx7, t7, h71, h72⟩ := db7.sch.ex
        refine ⟨f.a, _, rfl, SqT.of o'.at_, rfl, _, _, rfl, _, _, rfl, _, _, rfl, rfl, ?_⟩
        refine ⟨.ref s, rfl, .str f.nm, rfl, s, dx7, _, rfl, h71, s, .str f.nm, L, rfl, db7.sch, .inl ⟨b', hb', by rw [n'], ?_⟩⟩
        refine ⟨.ref f.t, rfl, b', f.t, f.L, rfl, db7.sch.all b' hb', o'.tb, o'.ok.all, o'.ok.few, fun H8 s8 => ?_⟩
        exact ⟨.non, rfl, rfl, _, rfl, ite2 (fun z => by simp at z) fun _ => ⟨_, _, _, _, rfl, s7.trans s8⟩⟩
      · rintro σ H7 ⟨y4, y5, y6, y7, rfl, s7⟩
        exact q H7 ps (s6.trans s7.nil) (db.sm s7) g5
end
end K92

/-! Database: part_of, __getitem__; zone_of_table -/
namespace K92
open PySem PySem.Spec PyProof.Rows L2
abbrev sZt : Stmt := topS 30
theorem scZt : FnScope ["database", "table", "number", "values"] ["database", "table"] (defScope sZt) := ⟨rfl, rfl, rfl, by decide +kernel, rfl, by decide +kernel, by decide +kernel⟩
section
variable {P : Program} {w : World} {K : PySem.W.Frag} {mg : Str → Option Value} {base : Heap}
theorem pt_inj {L : List PtE} (h : (L.map PtE.nm).Nodup) {e f : PtE} (he : e ∈ L) (hf : f ∈ L) (n : e.nm = f.nm) : e = f := by
  induction L with
  | nil => cases he
  | cons g L ih =>
    rw [List.map_cons, List.nodup_cons] at h
    rcases List.mem_cons.mp he with e1 | h1
    · rcases List.mem_cons.mp hf with e2 | h2
      · rw [e1, e2]
      · exact absurd (List.mem_map.mpr ⟨f, h2, by rw [← n, e1]⟩) h.1
    · rcases List.mem_cons.mp hf with e2 | h2
      · exact absurd (List.mem_map.mpr ⟨e, h1, by rw [n, e2]⟩) h.1
      · exact ih h.2 h1 h2
def spDp (K : PySem.W.Frag) (CS CD : Addr) : Sp := fun vs H Q _ => ∃ (d s : Addr) (L : List TbE) (ps : List PtE) (e : PtE), vs = [.ref d, .str e.nm] ∧ DbAt K CS CD H d s L ps ∧ e ∈ ps ∧ Q (.ref e.a) H
theorem ok_dp {f CS CD fi fs fg p : Addr} {fd : FuncData} (F : Fun K "part_of" "Database.part_of" sDp f fd) (T : DbC K mg CD fi fs f fg p) : FnOk P w K mg base CX0 1 f fd ["self", "name"] (spDp K CS CD) := by
  refine F.ok scDp (fun vs H Q E h => ?_) (fun cdv A outer s0 H vs Q E hr h => ?_)
  · obtain ⟨d, s, L, ps, e, rfl, _⟩ := h
    rfl
  · obtain ⟨d, s, L, ps, e, rfl, hd, he, q⟩ := h
    have nd := scDp.nd
    refine ⟨_, pss_cons (ps_for PassesOwn.never rfl (pi_tup (pe_fld (pv 0) rfl)) (pg_name (i := 2) nd rfl (.inl rfl))
        (pss_one (ps_if (pt_cmpR op_eq (pe_ix ix_seq (pv 2) pe_int (fun _ _ => rfl)) (pv 1) (nomark _)) (pss_one (ps_ret (pv 2))) pss_nil)))
      (pss_one ps_never), ?_⟩
    obtain ⟨dx, t, h1, h2⟩ := hd.ex
    have hnd : (ps.map PtE.nm).Nodup := by
      rw [hd.nm]
      exact hd.sch.nd
    refine ⟨.ref d, rfl, d, CD, dx, _, .ref t, rfl, h1, T.cl, T.nP, look2, t, rfl, ⟨_, SqT.of h2⟩, for_tup (xs := pfs ps) (fun i σ H' => ∃ y2 : Option V, σ = [some (.ref d), some (.str e.nm), y2] ∧ H' = H ∧ ∀ f ∈ ps.take i, f.nm ≠ e.nm) ?_ ?_ ?_ ?_⟩
    · exact ⟨none, rfl, rfl, fun f h => by simp at h⟩
    · rintro i σ H' _ ⟨y2, rfl, rfl, _⟩
      exact SqT.of h2
    · rintro i y σ H' hy ⟨y2, rfl, rfl, hn⟩
      obtain ⟨g, hg, rfl⟩ := pf_at hy
      have gm := List.mem_of_getElem? hg
      obtain ⟨b, hb, n, o⟩ := hd.pts g gm
      refine ⟨.ref g.a, rfl, ix_pt0 o ⟨.str e.nm, rfl, rfl, _, rfl, ?_⟩⟩
      by_cases hh : g.nm = e.nm
      · obtain rfl := pt_inj hnd gm he hh
        exact ite2 (fun _ => ⟨.ref g.a, rfl, q⟩) fun z => absurd (decide_eq_true rfl) z
      · refine ite2 (fun z => absurd (V.str.inj (of_decide_eq_true z)) hh) fun _ => ⟨_, rfl, rfl, fun f hf => ?_⟩
        rw [List.take_add_one, hg, Option.toList_some] at hf
        rcases List.mem_append.mp hf with hf | hf
        · exact hn f hf
        · rw [List.mem_singleton] at hf
          rw [hf]
          exact hh
    · rintro σ H' ⟨y2, rfl, rfl, hn⟩
      rw [List.length_map, List.take_length] at hn
      exact absurd rfl (hn e he)
def spDg (K : PySem.W.Frag) (CS CD : Addr) : Sp := fun vs H Q _ => ∃ (d s : Addr) (L : List TbE) (ps : List PtE) (e : PtE), vs = [.ref d, .str e.nm] ∧ DbAt K CS CD H d s L ps ∧ e ∈ ps ∧ Q (.ref e.t) H
theorem ok_dg {f CS CD fi fs fp p : Addr} {fd fdP : FuncData} (F : Fun K "__getitem__" "Database.__getitem__" sDg f fd) (T : DbC K mg CD fi fs fp f p) (FP : FnOk P w K mg base CX0 1 fp fdP ["self", "name"] (spDp K CS CD)) (bP : Binds K fdP ["self", "name"] []) : FnOk P w K mg base CX0 2 f fd ["self", "name"] (spDg K CS CD) := by
  refine F.ok scDg (fun vs H Q E h => ?_) (fun cdv A outer s0 H vs Q E hr h => ?_)
  · obtain ⟨d, s, L, ps, e, rfl, _⟩ := h
    rfl
  · obtain ⟨d, s, L, ps, e, rfl, hd, he, q⟩ := h
    refine ⟨_, pss_one (ps_ret (pe_ix ix_seq (pe_meth (pv 0) T.cl T.mt FP hr bP .nil pass0 (pa_cons (pv 1) pa_nil)) pe_int (fun _ _ => rfl))), ?_⟩
    obtain ⟨dx, t, h1, h2⟩ := hd.ex
    obtain ⟨b, hb, n, o⟩ := hd.pts e he
    refine ⟨.ref d, rfl, d, dx, _, rfl, h1, by rfl, .str e.nm, rfl, d, s, L, ps, e, rfl, hd, he, ?_⟩
    exact .inr (.inl ⟨e.a, _, 2, _, rfl, rfl, SqT.of o.at_, by rfl, q⟩)
/-- zone_of_table -/
def spZt (K : PySem.W.Frag) (CS CD Nt : Addr) : Sp := fun vs H Q E => ∃ (d s : Addr) (x : V) (L : List TbE) (ps : List PtE), vs = [.ref d, x] ∧ DbAt K CS CD H d s L ps ∧
  ((∃ e ∈ ps, ∃ b ∈ L, x = .str e.nm ∧ e.nm = b.nm ∧ ∀ v H', Sm [] H H' → BdsO H' v (zoneO b.cs (("" : Str) :: b.cs) (e.L.map RwE.r)) → Q v H') ∨
    (NoNm K H L x ∧ ∀ dd H', Sm [] H H' → H dd = none → H' dd = some (.xd [("name", x)]) → E (.ref Nt) (some dd) H'))
theorem rowAll_of {H : Hp} {W : Nat} : ∀ {L : List RwE}, (∀ e ∈ L, RwOk H W e) → RowAll H W (L.map fun e => V.ref e.v) (L.map RwE.r)
  | [], _ => .nil
  | e :: L, h => .cons (h e List.mem_cons_self).vs (h e List.mem_cons_self).len (rowAll_of fun f hf => h f (List.mem_cons_of_mem _ hf))
theorem ok_zt {f CS fi fp fg fc p Nt CD fi2 fs fpo fgd pd : Addr} {fd fdG fdS fdD : FuncData} (F : Fun K "zone_of_table" "zone_of_table" sZt f fd) (B : Bn mg) (T : SchC K mg CS fi fp fg fc p) (TD : DbC K mg CD fi2 fs fpo fgd pd)
    (FG : FnOk P w K mg base (L2.CX P w) 3 fg fdG ["self", "name"] (spSg K CS Nt)) (bG : Binds K fdG ["self", "name"] []) (FS : FnOk P w K mg base CX0 1 fs fdS ["self"] (getSp CD "schema_kept")) (bS : Binds K fdS ["self"] [])
    (FD : FnOk P w K mg base CX0 2 fgd fdD ["self", "name"] (spDg K CS CD)) (bD : Binds K fdD ["self", "name"] []) (cZo : Cal P w K mg base "zone_of" ["columns", "rows"] 2 (spZo K)) : FnOk P w K mg base (L2.CX P w) 5 f fd ["database", "table"] (spZt K CS CD Nt) := by
  refine F.okX scZt (fun vs H Q E h => ?_) (fun cdv A outer s0 H vs Q E hr h => ?_)
  · obtain ⟨d, s, x, L, ps, rfl, _⟩ := h
    rfl
  · obtain ⟨d, s, x, L, ps, rfl, hd, hc⟩ := h
    have nd := scZt.nd
    refine ⟨_, pss_one (ps_ret (pe_own (cZo.mono (by decide)) hr (pa_cons
        (pe_ix ix_seq (pe_subO (E := E) (pe_prop (pv 0) TD.cl TD.pr FS (hr.mono (by decide)) bS .nil pass0 (by rfl)) (pv 1) T.gi T.gn T.gf (FG.raw bG .nil) hr (passes_call (takes_of rfl rfl rfl rfl) fun _ _ _ _ h => h)) pe_int (fun _ _ => rfl))
        (pa_cons (pe_callTy call_tuple_of (by rfl) B.tuple boot_tuple (pa_cons
          (pe_lc (own := [("number", 2), ("values", 3)]) (g := gTup K 2 (gCons (gName 2) (gCons (gName 3) gNil))) (tt := tYes) (te := tVar 3) rfl nd (pi_tup (pe_subO (pv 0) (pv 1) TD.gi TD.gn TD.gf (FD.raw bD .nil) (hr.mono (by decide)) pass0)) (blkOk_by (N := ["database", "table", "number", "values"]) (sc := defScope sZt) (by decide +kernel))
            (fun _ _ _ _ _ => pg_tup rfl (pgs_cons (pg_name (i := 2) nd rfl (.inl rfl)) (pgs_cons (pg_name (i := 3) nd rfl (.inl rfl)) pgs_nil))) (fun _ _ _ _ _ => pts_nil) (fun _ _ _ _ _ => pv 3)) pa_nil)) pa_nil)))), ?_⟩
    obtain ⟨dx, t, h1, h2⟩ := hd.ex
    obtain ⟨dxs, ts, k1, k2⟩ := hd.sch.ex
    refine ⟨.ref d, rfl, d, dx, _, rfl, h1, d, dx, _, .ref s, rfl, h1, look1, x, rfl, s, dxs, _, rfl, k1, s, x, L, rfl, hd.sch, ?_⟩
    rcases hc with ⟨e, he, b, hb, rfl, hn, q⟩ | ⟨hno, q⟩
    · refine .inl ⟨b, hb, by rw [hn], ix_tb1 (hd.sch.all b hb) ?_⟩
      obtain ⟨b', hb', n', o⟩ := hd.pts e he
      obtain rfl := nm_inj hd.sch.nd hb hb' (by rw [← hn, n'])
      have hbt := hd.sch.all b hb
      refine ⟨.ref d, rfl, .str e.nm, rfl, d, dx, _, rfl, h1, d, s, L, ps, e, rfl, hd, he, e.t, rfl, ⟨_, SqT.of o.tb⟩, fun D hD => ?_⟩
      have few := o.ok.few
      refine lc_it (walk_tup (K := K) (a := e.t) (xs := rws e.L)) (fun i H' => H' D = some (.lst ((e.L.take i).map fun e => V.ref e.v)) ∧ Sm [] H H') ⟨upd_same, Sm.refl.new hD⟩ ?_ ?_ ?_
      · rintro i H' _ ⟨g1, g2⟩
        exact SqT.of (g2.keep o.tb)
      · rintro i y H3 H4 hi ⟨g1, g2⟩ ⟨rfl, hy⟩
        obtain ⟨r, hr', rfl⟩ := rw_at hy
        have il := (List.getElem?_eq_some_iff.mp hr').1
        refine ⟨r.a, _, rfl, SqT.of (g2.keep (o.ok.all r (List.mem_of_getElem? hr')).at_), rfl, _, _, rfl, _, _, rfl, rfl, rfl, .ref r.v, rfl, _, g1, ?_, ?_, g2.own hD⟩
        · rw [List.length_map, List.length_take]
          exact small1000 (by omega)
        · rw [upd_same, List.take_add_one, hr', Option.toList_some, List.map_append]
          rfl
      · rintro H3 ⟨g1, g2⟩
        rw [List.length_map, List.take_length] at g1
        refine ⟨D, _, rfl, .inl ⟨SqL.of g1, fun u hu => ?_⟩⟩
        have s4 : Sm [] H (upd H3 u (.tup (e.L.map fun e => V.ref e.v))) := g2.new hu
        have e4 : (upd H3 u (.tup (e.L.map fun e => V.ref e.v))) u = some (.tup (e.L.map fun e => V.ref e.v)) := upd_same
        generalize upd H3 u (.tup (e.L.map fun e => V.ref e.v)) = H4 at s4 e4
        refine ⟨b.c, u, b.cs, _, e.L.map RwE.r, rfl, sqt_sm hbt.col s4, hbt.ok.le, hbt.ok.nd, fun z => (hbt.ok.sh _ z).ne rfl, e4, rowAll_of fun f hf => (o.ok.all f hf).kp s4.kp, ?_, fun v H5 s5 hv => q v H5 (s4.trans s5) hv⟩
        rw [List.length_map]
        omega
    · exact .inr ⟨hno, q⟩
end
end K92

/-! helpers taken over from k91 (extract.py) -/
namespace ZM
variable {α : Type} [DecidableEq α]
theorem okR_cl {B Z : Br α} {f : Tb α} (c : Cl B f) (s : Snd B f) (hB : ∀ t ∈ B, t.1 ≠ t.2.1) (hZ : ∀ t, t ∈ Z ↔ t.1 ≠ t.2.1 ∧ getT f (t.1, t.2.1) = some t.2.2) (x : α → Int) : okR Z x ↔ okR B x := by
  constructor
  · intro h t ht
    obtain ⟨u, e, hu⟩ := c.bnd t ht
    have := h (t.1, t.2.1, u) ((hZ _).mpr ⟨hB t ht, e⟩)
    simp only at this
    omega
  · intro h t ht
    obtain ⟨n, e⟩ := (hZ t).mp ht
    exact (s _ _ _ n e).row h
end ZM
namespace K92
open PySem PySem.Spec PyProof.Rows L2
open ZM (getT putT)
theorem lay_all : ∀ {ds : List PyData}, (∀ d ∈ ds, d.canLay0 = true) → PyData.canLayAll0 ds = true
  | [], _ => by simp [PyData.canLayAll0]
  | d :: ds, h => by
    simp only [PyData.canLayAll0, Bool.and_eq_true]
    exact ⟨h d List.mem_cons_self, lay_all fun x hx => h x (List.mem_cons_of_mem _ hx)⟩
theorem depth_all {n : Nat} : ∀ {ds : List PyData}, (∀ d ∈ ds, d.depth ≤ n) → PyData.depthAll ds ≤ n
  | [], _ => by simp [PyData.depthAll]
  | d :: ds, h => by
    have h1 := h d List.mem_cons_self
    have h2 := depth_all (ds := ds) fun x hx => h x (List.mem_cons_of_mem _ hx)
    simp only [PyData.depthAll]
    omega
theorem Sp0.lay {z : Str} {n : Nat} (h : Sp0 z n) : (PyData.str z).canLay0 = true := by
  simp only [PyData.canLay0, PyData.strOk]
  rw [Array.all_eq_true_iff_forall_mem]
  intro c hc
  exact decide_eq_true (by have := h.ok c (Array.mem_toList_iff.mpr hc); omega)
theorem Deck.upd {H : Hp} {d c : Addr} {n : Nat} (D : Deck H d c n) {p : Addr} {o : HO} (h : p ∉ [d, c]) : Deck (L2.upd H p o) d c n := by
  obtain ⟨cells, b, g1, g2, g3⟩ := D.ex
  refine ⟨cells, b, ?_, ?_, g3⟩
  · rw [upd_ne (fun e => h (by rw [← e]; simp))]; exact g1
  · rw [upd_ne (fun e => h (by rw [← e]; simp))]; exact g2
theorem un65_of {k : Nat} {A : Around} (r : Room k A) : A.units + 65 < cLine := by have := r.un; omega
theorem list_kp {H : Hp} {p : Addr} {xs ys : List V} (h : H p = some (.lst xs)) : Kp H (L2.upd H p (.lst ys)) := fun b zs e => by
  rw [upd_ne (ne_of e h (by intro z; cases z))]
  exact e
structure CalK (P : Program) (w : World) (K : PySem.W.Frag) (mg : Str → Option Value) (base : Heap) (nm : Str) (ps ks : List Str) (gV : List V → List V → List V) (k : Nat) (sp : Sp) : Prop where
  ex : ∃ (f : Addr) (fd : FuncData) (g : List Value → List Value → List Value), FnOk P w K mg base CX0 k f fd ps sp ∧ mg nm = some (.ref f) ∧ PySem.W.keepIn K (.ref f) = true ∧ KBinds K fd ps ks g gV
theorem CalK.mono {P : Program} {w : World} {K : PySem.W.Frag} {mg : Str → Option Value} {base : Heap} {nm : Str} {ps ks : List Str} {gV : List V → List V → List V} {j k : Nat} {sp : Sp} (C : CalK P w K mg base nm ps ks gV j sp) (h : j ≤ k) : CalK P w K mg base nm ps ks gV k sp := by
  obtain ⟨f, fd, g, a, b, c, d⟩ := C.ex
  exact ⟨f, fd, g, a.mono h, b, c, d⟩
theorem pe_ownC {X : Cx} {k : Nat} {nm : Str} {ps ks : List Str} {gV : List V → List V → List V} {sp : Sp} {p pos : Pos} {kws : List Keyword} {tk : TA} (C : CalK X.prog X.w X.K X.mg X.base nm ps ks gV k sp) (hr : Room k X.A) (hkw : PK X kws tk) (hg : Gl X nm := by rfl)
    (hall : (backToKw pos (keywordEach kws X.env)).all (·.1.isSome) = true := by rfl) (hks : (backToKw pos (keywordEach kws X.env)).filterMap (·.1) = ks := by rfl) (hdb : (nm == ("__debug__" : Str)) = false := by decide)
    (hpl : ((backTo pos (starEach [] X.env)).any (·.1) || (backToKw pos (keywordEach kws X.env)).any (·.1.isNone)) = false := by rfl) :
    PE X (.Call (.Name nm p) [] kws pos) (tCallK sp gV E0 tNil tk) := by
  obtain ⟨f, fd, g, a, b, c, d⟩ := C.ex
  exact pe_ownK a hr b c d hkw hg hall hks hdb hpl
theorem cut_is {K : PySem.W.Frag} {H1 : Hp} {a : Addr} {xs : List V} {lo hi : Option Int} {R : VK} (ha : H1 a = some (.tup xs)) (q : ∀ b H2, Sm [] H1 H2 → H2 b = some (.tup (cutV xs lo hi)) → R (.ref b) H2) : rSlA K (.ref a) lo hi H1 R := by
  refine ⟨a, xs, rfl, SqT.of ha, fun hw => ?_, fun _ p hp => q p _ (Sm.refl.new hp) upd_same⟩
  refine q a H1 Sm.refl ?_
  unfold cutV
  rw [hw.1, hw.2, List.drop_zero, Nat.sub_zero, List.take_length]
  exact ha
theorem cat_is {K : PySem.W.Frag} {H1 : Hp} {a b : Addr} {xs ys : List V} {R : VK} (ha : H1 a = some (.tup xs)) (hb : H1 b = some (.tup ys)) (hl : xs.length + ys.length ≤ 1000) (q : ∀ c H2, Sm [] H1 H2 → H2 c = some (.tup (xs ++ ys)) → R (.ref c) H2) : rCatA K (.ref a) (.ref b) H1 R := by
  have big : (1000 : Nat) ≤ sizeLine := by decide
  refine ⟨a, b, xs, ys, rfl, rfl, SqT.of ha, SqT.of hb, by omega, fun e => ?_, fun _ e => ?_, fun _ _ p hp => q p _ (Sm.refl.new hp) upd_same⟩
  · subst e
    exact q b H1 Sm.refl hb
  · subst e
    exact q a H1 Sm.refl (by rw [List.append_nil]; exact ha)
theorem cut_to {xs : List V} {j : Nat} (h : j ≤ xs.length) : cutV xs none (some (j : Int)) = xs.take j := by
  unfold cutV
  rw [HT.sIx_none, HT.sIx_nat, List.drop_zero, Nat.sub_zero, Nat.min_eq_left h]
theorem cut_from {xs : List V} {j : Nat} (h : j ≤ xs.length) : cutV xs (some (j : Int)) none = xs.drop j := by
  unfold cutV
  rw [HT.sIx_none, HT.sIx_nat, Nat.min_eq_left h]
  exact List.take_of_length_le (by rw [List.length_drop]; exact Nat.le_refl _)
theorem bok_iff {cs : List Str} {L : List Tr} : ZM.Bok (nmL cs) L ↔ ZM.Bok (("" : Str) :: cs) L := by
  unfold ZM.Bok
  simp only [nmL_mem]
structure Zon (cs : List Str) (L Z : List Tr) : Prop where
  ok : ZM.Bok (nmL cs) L
  n : ¬ ZM.Neg L
  mem : ∀ t, t ∈ Z ↔ t.1 ≠ t.2.1 ∧ getT (ZM.ltab (nmL cs) L) (t.1, t.2.1) = some t.2.2
  len : Z.length ≤ 16
theorem Zon.bok {cs : List Str} {L Z : List Tr} (h : Zon cs L Z) : ZM.Bok (nmL cs) Z := fun t ht => by
  obtain ⟨n, e⟩ := (h.mem t).mp ht
  obtain ⟨a, b, _⟩ := (ZM.ltab_inv h.ok).dom _ _ _ e
  exact ⟨a, b, n⟩
theorem Zon.neg {cs : List Str} {L Z : List Tr} (h : Zon cs L Z) : ZM.negD (nmL cs) (ZM.ltab (nmL cs) L) = false := ZM.neg_false (ZM.negD_iff h.ok) h.n
theorem Zon.row {cs : List Str} {L Z : List Tr} (h : Zon cs L Z) (r : List Int) : inB cs r Z = inB cs r L := by
  rw [Bool.eq_iff_iff, inB_iff, inB_iff]
  exact ZM.okR_cl (ZM.ltab_cl h.ok h.neg) (ZM.ltab_snd h.ok) h.ok.ne h.mem _
def kw3 {α : Type} : List α → List α → List α
  | [], [a, b, c] => [a, c, b]
  | _, _ => []
theorem nopart_in {σ : L2.St} {H : Hp} {Q : Option Int → Hp → Prop} (h : Q none H) : tNoPart σ H Q := h
theorem alk_bls {H : Hp} {a b : Addr} {bs : List Bool} (ha : H a = some (.lst (bs.map V.bl))) (hb : H b = some (.lst (bs.map V.bl))) : Alk H 1 (.ref a) (.ref b) := by
  refine .inr ⟨a, b, _, _, rfl, rfl, .inr ⟨ha, hb⟩, rfl, fun i x y hx hy => ?_⟩
  rw [hx] at hy
  obtain rfl := Option.some.inj hy
  obtain ⟨c, _, rfl⟩ := List.mem_map.mp (List.mem_of_getElem? hx)
  exact ⟨rfl, rfl⟩
theorem yes_in {σ : L2.St} {H : Hp} {Q : Bool → Hp → Prop} (h : Q true H) : tYes σ H Q := h
theorem TrAll.dp {K : PySem.W.Frag} {H : Hp} : ∀ {vs : List V} {ts : List Tr}, TrAll H vs ts → DpAll K H vs (ts.map trD)
  | _, _, .nil => .nil
  | _, _, .cons ⟨p, e, h⟩ r => by
    subst e
    exact .cons (.tup (SqT.of h) (.cons (.str _) (.cons (.str _) (.cons (.int _) .nil)))) r.dp
theorem Bds.dp {K : PySem.W.Frag} {H : Hp} {a : Addr} {B : List Tr} (h : Bds H a B) : Dp K H (.ref a) (.tuple (B.map trD)) := by
  obtain ⟨xs, e, r⟩ := h
  exact .tup (SqT.of e) r.dp
def Txs (B : List Tr) : Prop := ∀ t ∈ B, Sp0 t.1 16 ∧ Sp0 t.2.1 16
theorem Txs.shaped {B : List Tr} (h : Txs B) : SeqAt.shaped (.tuple (B.map trD)) = true := by
  have h1 : PyData.canLayAll0 (B.map trD) = true := lay_all fun d hd => by
    obtain ⟨t, ht, rfl⟩ := List.mem_map.mp hd
    obtain ⟨a, b⟩ := h t ht
    have a' := a.lay
    have b' := b.lay
    show (PyData.tuple [.str t.1, .str t.2.1, .int t.2.2]).canLay0 = true
    simp only [PyData.canLay0, PyData.canLayAll0] at a' b' ⊢
    rw [a', b']
    rfl
  have h2 : PyData.depthAll (B.map trD) ≤ 1 := depth_all fun d hd => by
    obtain ⟨t, ht, rfl⟩ := List.mem_map.mp hd
    rw [depth_trD]
    exact Nat.le_refl _
  have h3 : (PyData.tuple (B.map trD)).depth ≤ 64 := by
    simp only [PyData.depth]
    omega
  have h4 : (PyData.tuple (B.map trD)).canLay0 = true := by
    simp only [PyData.canLay0]
    exact h1
  show ((PyData.tuple (B.map trD)).canLay0 && decide ((PyData.tuple (B.map trD)).depth ≤ 64)) = true
  rw [h4, Bool.true_and]
  exact decide_eq_true h3
theorem Sp0.empty {n : Nat} : Sp0 "" n := ⟨Nat.zero_le _, fun c hc => absurd (show c ∈ ([] : List Nat) from hc) (by simp)⟩
theorem txs_of {cs : List Str} {B : List Tr} (h : ∀ x ∈ cs, Sh x) (hB : ZM.Bok (nmL cs) B) : Txs B := fun t ht => by
  have at_ : ∀ x ∈ nmL cs, Sp0 x 16 := fun x hx => by
    rcases List.mem_cons.mp (nmL_mem.mp hx) with rfl | z
    · exact Sp0.empty
    · exact (h x z).sp.mono (by decide)
  obtain ⟨a, b, _⟩ := hB t ht
  exact ⟨at_ _ a, at_ _ b⟩
def rRepr (K : PySem.W.Frag) : List V → Hp → VK → Prop := fun xs H Q => ∃ (a : Addr) (d : PyData), xs = [.ref a] ∧ Dp K H (.ref a) d ∧ d.showable = true ∧ d.hasDict = false ∧ d.depth ≤ 60 ∧ d.shown.length ≤ sizeLine ∧ Q (.str d.shown) H
theorem call_repr {X : Cx} (hg : X.A.guards = some []) (hu : X.A.units + 65 < cLine) : CallR X (.builtin "repr") (rRepr X.K) := by
  intro pins s σ H xs us Q I r h
  obtain ⟨a, d, rfl, hd, h1, h2, h3, h4, q⟩ := h
  obtain ⟨u, rfl, rx⟩ := vals1 r
  obtain ⟨as, rd⟩ := Dp.reads I d (V.ref a) u hd rx
  cases (show u = Value.ref a from rx)
  exact repr_of_reads' rd h1 (fun z => by rw [h2] at z; cases z) hg (by omega) (fun _ _ e => e) (fun h' u tk k => ⟨.str d.shown, H, I.kept (t' := tk) k, ⟨u, rfl⟩, q⟩) h4
theorem strs_dp {K : PySem.W.Frag} {H : Hp} : ∀ cs : List Str, DpAll K H (cs.map V.str) (cs.map PyData.str)
  | [] => .nil
  | c :: cs => .cons (.str c) (strs_dp cs)
theorem all_of {p : PyData → Bool} {pa : List PyData → Bool} (h0 : pa [] = true) (hc : ∀ x xs, pa (x :: xs) = (p x && pa xs)) : ∀ xs : List PyData, (∀ x ∈ xs, p x = true) → pa xs = true
  | [], _ => h0
  | x :: xs, h => by
    rw [hc, h x List.mem_cons_self, all_of h0 hc xs fun y hy => h y (List.mem_cons_of_mem _ hy)]
    rfl
theorem weight_all {n : Nat} : ∀ {ds : List PyData}, (∀ d ∈ ds, d.weight ≤ n) → PyData.weightAll ds ≤ ds.length * (n + 1)
  | [], _ => by simp [PyData.weightAll]
  | d :: ds, h => by
    have h1 := h d List.mem_cons_self
    have h2 := weight_all (ds := ds) fun x hx => h x (List.mem_cons_of_mem _ hx)
    simp only [PyData.weightAll, List.length_cons]
    rw [Nat.add_mul, Nat.one_mul]
    omega
theorem neg_mem {L L' : List Tr} (h : ∀ t, t ∈ L' ↔ t ∈ L) : ZM.Neg L' ↔ ZM.Neg L :=
  ⟨fun ⟨i, v, w, hv⟩ => ⟨i, v, w.mono fun t ht => .one ((h t).mp ht), hv⟩, fun ⟨i, v, w, hv⟩ => ⟨i, v, w.mono fun t ht => .one ((h t).mpr ht), hv⟩⟩
theorem closed_same {cs : List Str} {L L' : List Tr} (hO : ZM.Bok (nmL cs) L) (hm : ∀ t, t ∈ L' ↔ t ∈ L) : closedO cs L' = tightO cs L := by
  have hO' : ZM.Bok (("" : Str) :: cs) L' := fun t ht => bok_iff.mp hO t ((hm t).mp ht)
  unfold closedO tightO
  by_cases n : ZM.Neg L
  · rw [if_pos ((ZM.negP_iff hO').mpr ((neg_mem hm).mpr n)), if_pos ((ZM.negD_iff hO).mpr n)]
  · have n' : ¬ ZM.Neg L' := fun z => n ((neg_mem hm).mp z)
    rw [if_neg (fun z => n' ((ZM.negP_iff hO').mp z)), if_neg (fun z => n ((ZM.negD_iff hO).mp z))]
    rw [sortT_uniq (ZM.tabs_perm hO' hO n' fun t => (hm t).symm)]
theorem zon_of {cs : List Str} {L Z : List Tr} (hO : ZM.Bok (nmL cs) L) (h3 : cs.length ≤ 3) (h : tightO cs L = some Z) : Zon cs L Z := by
  unfold tightO at h
  by_cases n : ZM.Neg L
  · rw [if_pos ((ZM.negD_iff hO).mpr n)] at h
    cases h
  · rw [if_neg (fun z => n ((ZM.negD_iff hO).mp z))] at h
    have e := Option.some.inj h
    have I := ZM.ltab_inv hO
    have p : Z.Perm (ZM.trs (ZM.offD (ZM.ltab (nmL cs) L))) := by
      rw [← e]
      exact sortT_perm _
    refine ⟨hO, n, fun t => ?_, ?_⟩
    · rw [p.mem_iff, ZM.mem_trs (ZM.offD_nod I.nod), ZM.offD_get]
      by_cases q : t.1 = t.2.1
      · rw [if_pos q]
        exact ⟨fun z => (by cases z), fun z => absurd q z.1⟩
      · rw [if_neg q]
        exact ⟨fun z => ⟨q, z⟩, fun z => z.2⟩
    · rw [p.length_eq]
      have l := inv_len I (by rw [nmL_len]; omega)
      unfold ZM.trs ZM.offD
      rw [List.length_map]
      exact Nat.le_trans (List.length_filter_le _ _) l
theorem tight_none {cs : List Str} {L : List Tr} (hO : ZM.Bok (nmL cs) L) (h : tightO cs L = none) : ZM.Neg L := by
  unfold tightO at h
  by_cases n : ZM.Neg L
  · exact n
  · rw [if_neg (fun z => n ((ZM.negD_iff hO).mp z))] at h
    cases h
theorem zone_row {cs : List Str} {L : List Tr} (hO : ZM.Bok (nmL cs) L) (h3 : cs.length ≤ 3) (r : List Int) : zoneB cs r (tightO cs L) = inB cs r L := by
  cases e : tightO cs L with
  | none =>
    have n := tight_none hO e
    cases q : inB cs r L with
    | false => rfl
    | true => exact absurd (inB_iff.mp q) (n.row _)
  | some Z => exact (zon_of hO h3 e).row r
theorem zoneOk_of {cs : List Str} {L : List Tr} (hO : ZM.Bok (nmL cs) L) (h3 : cs.length ≤ 3) : zoneOk cs (tightO cs L) := by
  cases e : tightO cs L with
  | none => trivial
  | some Z =>
    have := (zon_of hO h3 e).len
    exact ⟨bok_iff.mp (zon_of hO h3 e).bok, by omega⟩
theorem Alk.up {H : Hp} : ∀ {n : Nat} {x y : V}, Alk H n x y → Alk H (n + 1) x y
  | 0, x, y, h => .inl h
  | n + 1, x, y, h => by
    rcases h with h | ⟨a, b, xs, ys, e1, e2, h, hl, hi⟩
    · exact .inl h
    · exact .inr ⟨a, b, xs, ys, e1, e2, h, hl, fun i x y hx hy => (hi i x y hx hy).up⟩
theorem alk_eqs {H : Hp} {a b : Addr} {xs : List V} (ha : H a = some (.tup xs)) (hb : H b = some (.tup xs)) (hf : ∀ x ∈ xs, flatV' x = true) : Alk H 1 (.ref a) (.ref b) :=
  .inr ⟨a, b, xs, xs, rfl, rfl, .inl ⟨ha, hb⟩, rfl, fun i x y hx hy => by
    rw [hx] at hy
    obtain rfl := Option.some.inj hy
    exact ⟨rfl, hf x (List.mem_of_getElem? hx)⟩⟩
theorem alk_tr {H : Hp} {x y : V} {t : Tr} (hx : TrAt H x t) (hy : TrAt H y t) : Alk H 1 x y := by
  obtain ⟨p, rfl, h1⟩ := hx
  obtain ⟨q, rfl, h2⟩ := hy
  refine alk_eqs h1 h2 fun v hv => ?_
  simp only [trV, List.mem_cons, List.not_mem_nil, or_false] at hv
  rcases hv with rfl | rfl | rfl <;> rfl
theorem alk_bds {H : Hp} {a b : Addr} {Z : List Tr} (ha : Bds H a Z) (hb : Bds H b Z) : Alk H 2 (.ref a) (.ref b) := by
  obtain ⟨xs, e1, r1⟩ := ha
  obtain ⟨ys, e2, r2⟩ := hb
  refine .inr ⟨a, b, xs, ys, rfl, rfl, .inl ⟨e1, e2⟩, by rw [r1.len, r2.len], fun i x y hx hy => ?_⟩
  obtain ⟨t, ht, h1⟩ := r1.get hx
  obtain ⟨u, hu, h2⟩ := r2.get hy
  rw [ht] at hu
  obtain rfl := Option.some.inj hu
  exact alk_tr h1 h2
theorem alk_bdsO {H : Hp} {x y : V} {o : Option (List Tr)} (hx : BdsO H x o) (hy : BdsO H y o) : Alk H 2 x y := by
  rcases hx with ⟨rfl, rfl⟩ | ⟨Z, a, rfl, rfl, h1⟩
  · rcases hy with ⟨_, rfl⟩ | ⟨Z, a, e, _, _⟩
    · exact .inl ⟨rfl, rfl⟩
    · cases e
  · rcases hy with ⟨e, _⟩ | ⟨Z', b, e, rfl, h2⟩
    · cases e
    · cases e
      exact alk_bds h1 h2
theorem alk_two {H : Hp} {a b : Addr} {x y u v : V} {n : Nat} (ha : H a = some (.lst [x, y])) (hb : H b = some (.lst [u, v])) (h1 : Alk H n x u) (h2 : Alk H n y v) : Alk H (n + 1) (.ref a) (.ref b) :=
  .inr ⟨a, b, _, _, rfl, rfl, .inr ⟨ha, hb⟩, rfl, fun i p q hp hq => by
    match i, hp, hq with
    | 0, hp, hq =>
      cases hp
      cases hq
      exact h1
    | 1, hp, hq =>
      cases hp
      cases hq
      exact h2
    | i + 2, hp, hq => simp at hp⟩
def kwV {α : Type} : List α → List α → List α
  | [], [v, z, c] => [c, z, v]
  | _, _ => []
def kw2 {α : Type} : List α → List α → List α
  | [], [b, c] => [c, b]
  | _, _ => []
end K92

/-! the law's least zone -/
namespace K92
open PySem PySem.Spec PyProof.Rows L2
open ZM (getT putT)
abbrev sLz : Stmt := topS 75
abbrev nLz : List Str := ["columns", "rows", "found", "one", "other", "most", "row"]
theorem scLz : FnScope ["columns", "rows", "found", "one", "other", "most", "row"] ["columns", "rows"] (defScope sLz) := ⟨rfl, rfl, rfl, by decide +kernel, rfl, by decide +kernel, by decide +kernel⟩
theorem flat_perm {α β : Type} {f g : α → List β} : ∀ {l : List α}, (∀ i ∈ l, (f i).Perm (g i)) → (l.flatMap f).Perm (l.flatMap g)
  | [], _ => .nil
  | x :: l, h => by
    rw [List.flatMap_cons, List.flatMap_cons]
    exact (h x List.mem_cons_self).append (flat_perm fun i hi => h i (List.mem_cons_of_mem _ hi))
theorem gap_ns {cs ns ms : List Str} {rows : List (List Int)} (h : ns.Perm ms) : zoneO cs ns rows = zoneO cs ms rows := by
  unfold zoneO
  by_cases e : rows = []
  · rw [if_pos e, if_pos e]
  · rw [if_neg e, if_neg e]
    have a : (gapL cs ns rows).Perm (gapL cs ms rows) := by
      have h1 : (gapL cs ns rows).Perm (ns.flatMap (gapR cs ms rows)) := flat_perm fun i _ => (h.filter _).map _
      exact h1.trans (h.flatMap_right _)
    rw [sortT_uniq a]
theorem nmL_perm (cs : List Str) : (nmL cs).Perm (("" : Str) :: cs) := by
  unfold nmL
  exact List.perm_append_comm
theorem rowall_dp {K : PySem.W.Frag} {H : Hp} {n : Nat} : ∀ {xs : List V} {rs : List (List Int)}, RowAll H n xs rs → DpAll K H xs (rs.map fun r => PyData.tuple (r.map PyData.int))
  | _, _, .nil => .nil
  | _, _, .cons h _ t => .cons (.tup (SqT.of h) (ints_dp _)) (rowall_dp t)
theorem rows_lay : ∀ rs : List (List Int), PyData.canLayAll0 (rs.map fun r => PyData.tuple (r.map PyData.int)) = true
  | [] => by simp [PyData.canLayAll0]
  | r :: rs => by simp [PyData.canLayAll0, PyData.canLay0, ints_lay r, rows_lay rs]
theorem rows_depth : ∀ rs : List (List Int), PyData.depthAll (rs.map fun r => PyData.tuple (r.map PyData.int)) ≤ 1
  | [] => by simp [PyData.depthAll]
  | r :: rs => by
    have := rows_depth rs
    simp only [List.map_cons, PyData.depthAll, PyData.depth, ints_depth]
    omega
theorem rows_shaped (rs : List (List Int)) : SeqAt.shaped (.list (rs.map fun r => PyData.tuple (r.map PyData.int))) = true := by
  have h1 := rows_depth rs
  have h2 : (PyData.list (rs.map fun r => PyData.tuple (r.map PyData.int))).depth ≤ 64 := by
    simp only [PyData.depth]
    omega
  have h3 : (PyData.list (rs.map fun r => PyData.tuple (r.map PyData.int))).canLay0 = true := by
    simp only [PyData.canLay0]
    exact rows_lay rs
  show ((PyData.list (rs.map fun r => PyData.tuple (r.map PyData.int))).canLay0 && decide ((PyData.list (rs.map fun r => PyData.tuple (r.map PyData.int))).depth ≤ 64)) = true
  rw [h3, Bool.true_and]
  exact decide_eq_true h2
theorem rows_nil (rs : List (List Int)) : PyData.eqv (.list (rs.map fun r => PyData.tuple (r.map PyData.int))) (.list []) = decide (rs = []) := by
  cases rs with
  | nil => simp [PyData.eqv, PyData.eqvAll]
  | cons n ns => simp [PyData.eqv, PyData.eqvAll]
section
variable {P : Program} {w : World} {K : PySem.W.Frag} {mg : Str → Option Value} {base : Heap}
def spLz (K : PySem.W.Frag) : Sp := fun vs H Q _ => ∃ (a b : Addr) (cs : List Str) (xs : List V) (rows : List (List Int)), vs = [.ref a, .ref b] ∧ Cols H a cs ∧ Nms cs ∧ H b = some (.lst xs) ∧ RowAll H cs.length xs rows ∧ rows.length ≤ 100 ∧
  ∀ v H', Sm [] H H' → BdsO H' v (zoneO cs (("" : Str) :: cs) rows) → Q v H'
theorem ok_lz {f : Addr} {fd : FuncData} (F : Fun K "_law_least_zone" "_law_least_zone" sLz f fd) (B : Bn mg) (cVl : Cal P w K mg base "_law_value" ["columns", "values", "one"] 1 (spVl K)) : FnOk P w K mg base CX0 2 f fd ["columns", "rows"] (spLz K) := by
  refine F.ok scLz (fun vs H Q E h => ?_) (fun cdv A outer s H vs Q E hr h => ?_)
  · obtain ⟨a, b, cs, xs, rows, rfl, _⟩ := h
    rfl
  · obtain ⟨a, b, cs, xs, rows, rfl, hA, hC, hb, hR, hr10, q⟩ := h
    have nd := scLz.nd
    refine ⟨_, pss_cons (ps_if (pt_cmpR (op_eqD hr.units) (pv 1) (pe_lst pa_nil) (nomark _)) (pss_one (ps_ret pe_non)) pss_nil)
      (pss_cons (ps_set (i := 2) nd rfl (.inl rfl) (pe_lst pa_nil))
      (pss_cons (ps_for PassesOwn.never rfl (pi_tup (pe_op op_catA (pv 0) (pe_tup (pa_cons pe_str pa_nil)))) (pg_name (i := 3) nd rfl (.inr rfl) (.inl rfl))
        (pss_one (ps_for PassesOwn.never rfl (pi_tup (pe_op op_catA (pv 0) (pe_tup (pa_cons pe_str pa_nil)))) (pg_name (i := 4) nd rfl (.inr rfl) (.inl rfl))
          (pss_one (ps_if (pt_cmpR op_ne (pv 3) (pv 4) (nomark _))
            (pss_cons (ps_set (i := 5) nd rfl (.inl rfl) (pe_callB (cr_max rfl) (by rfl) B.max boot_max (pa_cons
                (pe_lc (own := [("row", 6)]) (g := gName 6) (tt := tYes) (te := tOp (rI0 fun i j => .int (i - j)) (tCall (spVl K) [] E0 (tCons (tVar 0) (tCons (tVar 6) (tCons (tVar 3) tNil)))) (tCall (spVl K) [] E0 (tCons (tVar 0) (tCons (tVar 6) (tCons (tVar 4) tNil))))) rfl nd (pi_list (pv 1)) (blkOk_by (N := nLz) (sc := defScope sLz) (by decide +kernel))
                  (fun _ _ _ _ _ => pg_name (i := 6) nd rfl (.inl rfl)) (fun _ _ _ _ _ => pts_nil) (fun _ _ _ _ _ => pe_op op_sub (pe_own cVl hr (pa_cons (pv 0) (pa_cons (pv 6) (pa_cons (pv 3) pa_nil)))) (pe_own cVl hr (pa_cons (pv 0) (pa_cons (pv 6) (pa_cons (pv 4) pa_nil)))))) pa_nil)))
            (pss_one (ps_expr (pe_bm PySem.F.plainAttrs_list PySem.F.slot_list_append PySem.F.type_list_append mt_append (pv 2) (pa_cons (pe_tup (pa_cons (pv 3) (pa_cons (pv 4) (pa_cons (pv 5) pa_nil)))) pa_nil))))) pss_nil)))))
      (pss_one (ps_ret (pe_callTy call_tuple_of (by rfl) B.tuple boot_tuple (pa_cons (pe_callB (cr_sortT (un8_of hr)) (by rfl) B.sorted boot_sorted (pa_cons (pv 2) pa_nil)) pa_nil)))))), ?_⟩
    have hxl := hR.len
    refine ⟨.ref b, rfl, Nat.zero_le _, fun e0 he0 => ?_⟩
    have s1 : Sm [] H (upd H e0 (.lst [])) := Sm.refl.new he0
    have l1 : (upd H e0 (.lst [])) e0 = some (.lst []) := upd_same
    generalize upd H e0 (.lst []) = H1 at s1 l1
    refine ⟨_, _, .lst (SqL.of (s1.keep hb)) (rowall_dp (hR.kp s1.kp)), .lst (SqL.of l1) .nil, rows_shaped rows, by rfl, _, rfl, ?_⟩
    rw [rows_nil]
    rw [← gap_ns (nmL_perm cs)] at q
    by_cases h0 : rows = []
    · subst h0
      exact ite2 (fun _ => q .non H1 s1 (.inl ⟨rfl, rfl⟩)) fun z => absurd rfl (fun w => z (decide_eq_true w))
    · have hp : 0 < rows.length := List.length_pos_iff.mpr h0
      refine ite2 (fun z => absurd (of_decide_eq_true z) h0) fun _ => ?_
      refine next_in ?_
      dsimp only
      refine ⟨Nat.zero_le _, fun F0 hF0 => ?_⟩
      have hFH : H F0 = none := s1.free hF0 (by simp)
      have s2 : Sm [] H (upd H1 F0 (.lst [])) := s1.new hF0
      have eF : (upd H1 F0 (.lst [])) F0 = some (.lst []) := upd_same
      generalize upd H1 F0 (.lst []) = H2 at s2 eF
      have cle := hC.le
      have nl4 : (nmL cs).length ≤ 4 := by
        rw [nmL_len]
        omega
      have nt : NT [F0] H2 := fun x hx ys e => by
        rw [List.mem_singleton] at hx
        rw [hx, eF] at e
        cases e
      have hA2 := hA.sm s2 (by simp)
      have nAF : a ∉ [F0] := fun z => by
        rw [List.mem_singleton] at z
        obtain ⟨o, e, _⟩ := hA2
        rw [z, eF] at e
        cases e
      have hb2 := s2.keep hb
      have nbF : b ∉ [F0] := fun z => by
        rw [List.mem_singleton] at z
        rw [z, hFH] at hb
        cases hb
      have hR2 := hR.kp s2.kp
      refine names_rd rfl hA2.sq hC.ne cle fun nA H3 s3 hnA n3 => ⟨nA, rfl, ⟨_, SqT.of n3⟩, ?_⟩
      have nt3 : NT [F0] H3 := fun x hx ys e => by
        rw [List.mem_singleton] at hx
        rw [hx, s3.keep eF] at e
        cases e
      refine for_tup (xs := (nmL cs).map V.str) (fun i σ H' => ∃ (acc : List V) (y3 y4 y5 : Option V), σ = [some (.ref a), some (.ref b), some (.ref F0), y3, y4, y5, none] ∧ Sm [F0] H3 H' ∧ H' F0 = some (.lst acc) ∧ TrAll H' acc (((nmL cs).take i).flatMap (gapR cs (nmL cs) rows)) ∧ acc.length ≤ 4 * i) ?_ ?_ ?_ ?_
      · exact ⟨[], none, none, none, rfl, Sm.refl, s3.keep eF, .nil, Nat.zero_le _⟩
      · rintro i σ H' _ ⟨acc, y3, y4, y5, rfl, s4, _⟩
        exact SqT.of (s4.kpD nt3 _ _ n3)
      · rintro i x σ H4 hx ⟨acc, y3, y4, y5, rfl, s4, hF, hT, hl4⟩
        obtain ⟨z, hz, rfl⟩ := str_at hx
        have zm : z ∈ nmL cs := List.mem_of_getElem? hz
        have i4 : i < 4 := by
          have := (List.getElem?_eq_some_iff.mp hz).1
          omega
        have s24 : Sm [F0] H2 H4 := s3.nil.trans s4
        refine names_rd rfl (hA2.sm s24 nAF).sq hC.ne cle fun nB H5 s5 hnB n5 => ⟨nB, rfl, ⟨_, SqT.of n5⟩, ?_⟩
        have nt5 : NT [F0] H5 := fun x hx ys e => by
          rw [List.mem_singleton] at hx
          rw [hx, s5.keep hF] at e
          cases e
        refine for_tup (xs := (nmL cs).map V.str) (fun j σ H' => ∃ (acc : List V) (y4 y5 : Option V), σ = [some (.ref a), some (.ref b), some (.ref F0), some (.str z), y4, y5, none] ∧ Sm [F0] H5 H' ∧ H' F0 = some (.lst acc) ∧ TrAll H' acc (((nmL cs).take i).flatMap (gapR cs (nmL cs) rows) ++ (((nmL cs).take j).filter fun y => decide (y ≠ z)).map fun y => (z, y, gap cs rows z y)) ∧ acc.length ≤ 4 * i + j) ?_ ?_ ?_ ?_
        · refine ⟨acc, _, _, rfl, Sm.refl, s5.keep hF, ?_, hl4⟩
          show TrAll H5 acc (_ ++ [])
          rw [List.append_nil]
          exact hT.kp s5.kp
        · rintro j σ H' _ ⟨acc, y4, y5, rfl, s6, _⟩
          exact SqT.of (s6.kpD nt5 _ _ n5)
        · rintro j x σ H6 hx ⟨acc, y4, y5, rfl, s6, hF6, hT6, hl6⟩
          obtain ⟨y, hy, rfl⟩ := str_at hx
          have ym : y ∈ nmL cs := List.mem_of_getElem? hy
          have j4 : j < 4 := by
            have := (List.getElem?_eq_some_iff.mp hy).1
            omega
          have s26 : Sm [F0] H2 H6 := (s24.trans s5.nil).trans s6
          refine ⟨.str z, rfl, .str y, rfl, rfl, _, rfl, ite2 (fun hne => ?_) (fun heq => ?_)⟩
          · have hne' : z ≠ y := by simpa using hne
            have hb6 := s26 _ _ hb2 nbF
            have hA6 := hA2.sm s26 nAF
            have hR6 := hR2.kp (s26.kpD nt)
            refine ⟨.ref b, rfl, b, rfl, ⟨_, SqL.of hb6⟩, fun D hD => ?_⟩
            refine lc_it (walk_list (K := K) (a := b) (xs := xs)) (fun k H' => H' D = some (.lst (((rows.take k).map fun r => val cs r z - val cs r y).map V.int)) ∧ Sm [] H6 H') ⟨upd_same, Sm.refl.new hD⟩ ?_ ?_ ?_
            · rintro k H' _ ⟨g1, g2⟩
              exact SqL.of (g2.keep hb6)
            · rintro k x H7 H8 hk ⟨g1, g2⟩ ⟨rfl, hx⟩
              obtain ⟨p, r, rfl, hr1, hp1, hr2⟩ := (hR6.kp g2.kp).get hx
              have kl := (List.getElem?_eq_some_iff.mp hr1).1
              have hA8 := hA6.sm g2 (by simp)
              refine ⟨rfl, .ref a, rfl, .ref p, rfl, .str z, rfl, a, p, cs, r, z, rfl, hA8, SqT.of hp1, hr2.symm, name_or (nmL_mem.mp zm), ?_⟩
              refine ⟨.ref a, rfl, .ref p, rfl, .str y, rfl, a, p, cs, r, y, rfl, hA8, SqT.of hp1, hr2.symm, name_or (nmL_mem.mp ym), _, _, rfl, rfl, ?_⟩
              refine ⟨_, g1, ?_, ?_, g2.own hD⟩
              · rw [List.length_map, List.length_map, List.length_take]
                exact small1000 (by omega)
              · rw [upd_same, List.take_add_one, hr1, Option.toList_some, List.map_append, List.map_append]
                rfl
            · rintro H7 ⟨g1, g2⟩
              rw [hxl, List.take_length] at g1
              refine ⟨D, _, rfl, SqL.of g1, ?_, fun m hm1 hm2 => ?_⟩
              · rw [List.length_map]
                exact hp
              have em : m = gap cs rows z y := mxL_eq (by simpa using h0) hm1 hm2
              subst em
              have hF7 := g2.keep hF6
              refine ⟨.ref F0, rfl, .inl ⟨rfl, _, SqL.of hF7⟩, .str z, rfl, .str y, rfl, .int (gap cs rows z y), rfl, (by show 3 ≤ sizeLine; decide), fun t ht => ?_⟩
              have t8 : (upd H7 t (.tup [.str z, .str y, .int (gap cs rows z y)])) t = some (.tup (trV (z, y, gap cs rows z y))) := upd_same
              have s8 : Sm [] H7 (upd H7 t (.tup [.str z, .str y, .int (gap cs rows z y)])) := Sm.refl.new ht
              generalize upd H7 t (.tup [.str z, .str y, .int (gap cs rows z y)]) = H8 at t8 s8 ⊢
              have hF8 := s8.keep hF7
              have sq : Sm [] H6 H8 := g2.trans s8
              refine ⟨F0, _, _, rfl, rfl, hF8, small16 (by omega), acc ++ [.ref t], _, _, rfl, (s6.trans sq.nil).put (by simp), upd_same, ?_, ?_⟩
              · have kp9 : Kp H8 (upd H8 F0 (.lst (acc ++ [.ref t]))) := fun b xs e => by
                  rw [upd_ne (ne_of e hF8 (by intro z; cases z))]
                  exact e
                rw [List.take_add_one, hy, Option.toList_some, List.filter_append, List.filter_cons_of_pos (by simpa using Ne.symm hne'), List.filter_nil, List.map_append, ← List.append_assoc]
                exact (hT6.kp (sq.kp.trans kp9)).app (.cons ⟨t, rfl, kp9 _ _ t8⟩ .nil)
              · rw [List.length_append]
                show acc.length + 1 ≤ _
                omega
          · have heq' : z = y := by simpa using heq
            refine ⟨acc, _, _, rfl, s6, hF6, ?_, by omega⟩
            rw [List.take_add_one, hy, Option.toList_some, List.filter_append, List.filter_cons_of_neg (by simpa using heq'.symm), List.filter_nil, List.append_nil]
            exact hT6
        · rintro σ H6 ⟨acc, y4, y5, rfl, s6, hF6, hT6, hl6⟩
          rw [List.length_map] at hT6 hl6
          rw [List.take_length] at hT6
          refine ⟨acc, _, _, _, rfl, (s4.trans s5.nil).trans s6, hF6, ?_, by omega⟩
          rw [List.take_add_one, hz, Option.toList_some, List.flatMap_append]
          have : [z].flatMap (gapR cs (nmL cs) rows) = ((nmL cs).filter fun y => decide (y ≠ z)).map fun y => (z, y, gap cs rows z y) := by
            simp [gapR]
          rw [this]
          exact hT6
      · rintro σ H4 ⟨acc, y3, y4, y5, rfl, s4, hF, hT, hl4⟩
        rw [List.length_map, List.take_length] at hT
        refine ⟨.ref F0, rfl, ?_⟩
        refine sortTail (Q := Q) hF hT fun t H6 s6 hb => ?_
        refine q (.ref t) H6 (((s2.trans s3).nil.trans s4).trans' hFH |>.trans s6) (.inr ⟨_, t, ?_, rfl, hb⟩)
        unfold zoneO
        rw [if_neg h0]
        rfl
end
end K92

/-! the law's joined, is_part -/
namespace K92
open PySem PySem.Spec PyProof.Rows L2
open ZM (getT putT)
abbrev sLj : Stmt := topS 77
abbrev nLj : List Str := ["columns", "zone", "other", "a", "b", "k", "table", "found"]
theorem scLj : FnScope ["columns", "zone", "other", "a", "b", "k", "table", "found"] ["columns", "zone", "other"] (defScope sLj) := ⟨rfl, rfl, rfl, by decide +kernel, rfl, by decide +kernel, by decide +kernel⟩
abbrev sLp : Stmt := topS 78
abbrev nLp : List Str := ["zone", "other", "table", "a", "b", "k"]
theorem scLp : FnScope ["zone", "other", "table", "a", "b", "k"] ["zone", "other"] (defScope sLp) := ⟨rfl, rfl, rfl, by decide +kernel, rfl, by decide +kernel, by decide +kernel⟩
theorem merge_tabL : ∀ (B : List Tr) (M : Tb), mergeT (dTb M) (B.map fun t => (encP (t.1, t.2.1), V.int t.2.2)) = dTb (B.foldl (fun M t => putT M (t.1, t.2.1) t.2.2) M)
  | [], M => rfl
  | t :: B, M => by
    have ih := merge_tabL B (putT M (t.1, t.2.1) t.2.2)
    have e : mergeT (dTb M) ((t :: B).map fun t => (encP (t.1, t.2.1), V.int t.2.2)) = mergeT (putK (dTb M) (encP (t.1, t.2.1)) (.int t.2.2)) (B.map fun t => (encP (t.1, t.2.1), V.int t.2.2)) := rfl
    rw [e, dTb_put, ih]
    rfl
abbrev gT3 (K : PySem.W.Frag) : TG := gTup K 3 (gCons (gName 3) (gCons (gName 4) (gCons (gName 5) gNil)))
abbrev tTab (K : PySem.W.Frag) (n : Nat) : TE := tCB (rDictT K) (tCons (tLc (iTup K (tVar n)) (gT3 K) tYes (tTup (tCons (tTup (tCons (tVar 3) (tCons (tVar 4) tNil))) (tCons (tVar 5) tNil))) [3, 4, 5]) tNil)
/-- the table of bounds, as the law makes it -/
theorem ltab_rd {K : PySem.W.Frag} {n : Nat} {x0 x1 x2 y3 y4 y5 : Option V} {rest : L2.St} {H : Hp} {b : Addr} {B : List Tr} {R : VK} (hn : (x0 :: x1 :: x2 :: y3 :: y4 :: y5 :: rest : L2.St)[n]? = some (some (.ref b))) (hB : Bds H b B) (few : B.length ≤ 16)
    (q : ∀ d H2, Sm [] H H2 → H d = none → TabAt H2 d (tabL B) → R (.ref d) H2) : tTab K n (x0 :: x1 :: x2 :: y3 :: y4 :: y5 :: rest) H R := by
  obtain ⟨xs, hb, hxs⟩ := hB
  have hxl := hxs.len
  refine ⟨.ref b, hn, b, rfl, ⟨xs, SqT.of hb⟩, fun D hD => ?_⟩
  refine lc_it (walk_tup (xs := xs)) (fun i H' => ∃ L' : List Pr, H' D = some (.lst (L'.map fun q => V.ref q.t)) ∧ Sm [] H H' ∧ (∀ q ∈ L', q.ok H') ∧ L'.map (fun q => (q.key, q.v)) = (B.take i).map (fun t => (encP (t.1, t.2.1), V.int t.2.2))) ⟨[], upd_same, Sm.refl.new hD, fun q h => absurd h (by simp), rfl⟩ ?_ ?_ ?_
  · rintro i H' _ ⟨L', h1, h2, h3, h4⟩
    exact SqT.of (h2.keep hb)
  · rintro i x H0 H' hi ⟨L', h1, h2, h3, h5⟩ ⟨rfl, hx⟩
    obtain ⟨t, ht, p, rfl, hp⟩ := hxs.get hx
    refine ⟨p, _, rfl, SqT.of (h2.keep hp), rfl, _, _, rfl, _, _, rfl, _, _, rfl, rfl, rfl, ?_⟩
    refine ⟨.str t.1, rfl, .str t.2.1, rfl, (by show 2 ≤ sizeLine; decide), fun p1 hp1 => ?_⟩
    refine ⟨.int t.2.2, rfl, (by show 2 ≤ sizeLine; decide), fun p2 hp2 => ?_⟩
    have s2 : Sm [] H' (upd (upd H' p1 (.tup [.str t.1, .str t.2.1])) p2 (.tup [.ref p1, .int t.2.2])) := (Sm.refl.new hp1).new hp2
    have e1 : (upd (upd H' p1 (.tup [.str t.1, .str t.2.1])) p2 (.tup [.ref p1, .int t.2.2])) p1 = some (.tup [.str t.1, .str t.2.1]) := by
      rw [upd_ne (ne_of_none upd_same hp2)]
      exact upd_same
    have e2 : (upd (upd H' p1 (.tup [.str t.1, .str t.2.1])) p2 (.tup [.ref p1, .int t.2.2])) p2 = some (.tup [.ref p1, .int t.2.2]) := upd_same
    show ∃ acc, (upd (upd H' p1 (.tup [.str t.1, .str t.2.1])) p2 (.tup [.ref p1, .int t.2.2])) D = some (.lst acc) ∧ _
    generalize upd (upd H' p1 (.tup [.str t.1, .str t.2.1])) p2 (.tup [.ref p1, .int t.2.2]) = H2 at s2 e1 e2
    have kp : Kp H2 (upd H2 D (.lst (L'.map (fun q => V.ref q.t) ++ [.ref p2]))) := fun b xs e => by
      rw [upd_ne (ne_of e (s2.keep h1) (by intro z; cases z))]
      exact e
    have hlen : L'.length ≤ i := by
      have := congrArg List.length h5
      rw [List.length_map, List.length_map, List.length_take] at this
      omega
    refine ⟨_, s2.keep h1, ?_, L' ++ [⟨p2, p1, encP (t.1, t.2.1), .int t.2.2⟩], ?_, (h2.trans s2).own hD, fun q hq => ?_, ?_⟩
    · rw [List.length_map]
      exact small16 (by omega)
    · rw [upd_same, List.map_append]
      rfl
    · rcases List.mem_append.mp hq with hq | hq
      · obtain ⟨a1, a2⟩ := h3 q hq
        exact ⟨kp _ _ (s2.keep a1), kp _ _ (s2.keep a2)⟩
      · rw [List.mem_singleton] at hq
        rw [hq]
        exact ⟨kp _ _ e2, kp _ _ e1⟩
    · rw [List.map_append, h5, List.take_add_one, ht, Option.toList_some, List.map_append]
      rfl
  · rintro H' ⟨L', h1, h2, h3, h4⟩
    rw [hxl, List.take_length] at h4
    refine ⟨D, L', rfl, SqL.of h1, h3, fun p hp => ?_⟩
    rw [h4]
    have e : mergeT [] (B.map fun t => (encP (t.1, t.2.1), V.int t.2.2)) = dTb (tabL B) := merge_tabL B []
    rw [e]
    exact q p _ (h2.new hp) (h2.free hp (by simp)) upd_same
section
variable {P : Program} {w : World} {K : PySem.W.Frag} {mg : Str → Option Value} {base : Heap}
def ljoinO : Option (List Tr) → Option (List Tr) → Option (List Tr)
  | none, o => o
  | some Z, none => some Z
  | some Z, some Y => some (joinL Z Y)
def spLj : Sp := fun vs H Q _ => ∃ (a x y : V) (o p : Option (List Tr)), vs = [a, x, y] ∧ BdsO H x o ∧ BdsO H y p ∧ few o ∧ few p ∧ ∀ v H', Sm [] H H' → BdsO H' v (ljoinO o p) → Q v H'
theorem ok_lj {f : Addr} {fd : FuncData} (F : Fun K "_law_joined" "_law_joined" sLj f fd) (B : Bn mg) : FnOk P w K mg base CX0 1 f fd ["columns", "zone", "other"] spLj := by
  refine F.ok scLj (fun vs H Q E h => ?_) (fun cdv A outer s H vs Q E hr h => ?_)
  · obtain ⟨a, x, y, o, p, rfl, _⟩ := h
    rfl
  · obtain ⟨a, x, y, o, p, rfl, ho, hp, fo, fp, q⟩ := h
    have nd := scLj.nd
    have hu := hu_of hr
    refine ⟨_, pss_cons (ps_if (PW.pt (pw_or (pt_cmpR op_isN (pv 1) pe_non (nomark _)) (pw_or1 (pt_cmpR op_isN (pv 2) pe_non (nomark _))))) (pss_one (ps_ret (pe_ifExp (pt_cmpR op_isN (pv 1) pe_non (nomark _)) (pv 2) (pv 1)))) pss_nil)
      (pss_cons (ps_par (i := 6) (j := 7) rfl nd rfl rfl (by decide) rfl rfl (pa_cons (pe_callTy (call_dictT rfl (un8_of hr)) (by rfl) B.dict boot_dict (pa_cons
          (pe_lc (own := [("a", 3), ("b", 4), ("k", 5)]) (g := gT3 K) (tt := tYes) (te := tTup (tCons (tTup (tCons (tVar 3) (tCons (tVar 4) tNil))) (tCons (tVar 5) tNil))) rfl nd (pi_tup (pv 2)) (blkOk_by (N := nLj) (sc := defScope sLj) (by decide +kernel))
            (fun _ _ _ _ _ => pg_tup rfl (pgs_cons (pg_name (i := 3) nd rfl (.inl rfl)) (pgs_cons (pg_name (i := 4) nd rfl (.inl rfl)) (pgs_cons (pg_name (i := 5) nd rfl (.inl rfl)) pgs_nil)))) (fun _ _ _ _ _ => pts_nil)
            (fun _ _ _ _ _ => pe_tup (pa_cons (pe_tup (pa_cons (pv 3) (pa_cons (pv 4) pa_nil))) (pa_cons (pv 5) pa_nil)))) pa_nil)) (pa_cons (pe_lst pa_nil) pa_nil)) (by rfl))
      (pss_cons (ps_for PassesOwn.never rfl (pi_tup (pv 1)) (pg_tup rfl (pgs_cons (pg_name (i := 3) nd rfl (.inl rfl)) (pgs_cons (pg_name (i := 4) nd rfl (.inl rfl)) (pgs_cons (pg_name (i := 5) nd rfl (.inl rfl)) pgs_nil))))
        (pss_one (ps_if (pt_cmp (pc_din hu (pe_tup (pa_cons (pv 3) (pa_cons (pv 4) pa_nil))) (pv 6)))
          (pss_one (ps_expr (pe_bm PySem.F.plainAttrs_list PySem.F.slot_list_append PySem.F.type_list_append mt_append (pv 7) (pa_cons (pe_tup (pa_cons (pv 3) (pa_cons (pv 4) (pa_cons (pe_callB (call_max2 rfl) (by rfl) B.max boot_max (pa_cons (pv 5) (pa_cons (pe_dget hu (pv 6) (pe_tup (pa_cons (pv 3) (pa_cons (pv 4) pa_nil))) (fun _ _ => rfl)) pa_nil))) pa_nil)))) pa_nil)))) pss_nil)))
      (pss_one (ps_ret (pe_callTy call_tuple_of (by rfl) B.tuple boot_tuple (pa_cons (pv 7) pa_nil)))))), ?_⟩
    rcases ho with ⟨rfl, rfl⟩ | ⟨Z, z0, rfl, rfl, hZ⟩
    · refine ⟨.non, rfl, rfl, _, rfl, ite2 (fun _ => ite2 (fun _ => ?_) fun z => absurd rfl z) fun z => absurd rfl z⟩
      exact ⟨.non, rfl, rfl, _, rfl, ite2 (fun _ => ⟨y, rfl, q y H Sm.refl hp⟩) fun z => absurd rfl z⟩
    · refine ⟨.ref z0, rfl, rfl, _, rfl, ite2 (fun z => by simp at z) fun _ => ?_⟩
      rcases hp with ⟨rfl, rfl⟩ | ⟨Y, b, rfl, rfl, hY⟩
      · refine ⟨.non, rfl, rfl, _, rfl, ite2 (fun _ => ?_) fun z => absurd rfl z⟩
        exact ⟨.ref z0, rfl, rfl, _, rfl, ite2 (fun z => by simp at z) fun _ => ⟨.ref z0, rfl, q _ H Sm.refl (.inr ⟨Z, z0, rfl, rfl, hZ⟩)⟩⟩
      · refine ⟨.ref b, rfl, rfl, _, rfl, ite2 (fun z => by simp at z) fun _ => ?_⟩
        refine next_in ?_
        dsimp only
        refine ltab_rd (K := K) (n := 2) (rest := [none, none]) rfl hY (fp _ rfl) fun d H1 s1 d0 t1 => ?_
        refine ⟨Nat.zero_le _, fun F0 hF0 => ⟨_, _, rfl, ?_⟩⟩
        have hFH : H F0 = none := s1.free hF0 (by simp)
        have s2 : Sm [] H (upd H1 F0 (.lst [])) := s1.new hF0
        have eF : (upd H1 F0 (.lst [])) F0 = some (.lst []) := upd_same
        have t2 : TabAt (upd H1 F0 (.lst [])) d (tabL Y) := by
          show upd H1 F0 _ d = _
          rw [upd_ne (ne_of_none t1 hF0)]
          exact t1
        generalize upd H1 F0 (.lst []) = H2 at s2 eF t2
        obtain ⟨xs, ha, hxs⟩ := hZ
        have ha2 := s2.keep ha
        have hxl := hxs.len
        have hz16 : Z.length ≤ 16 := fo _ rfl
        have nt : NT [F0] H2 := fun x hx ys e => by
          rw [List.mem_singleton] at hx
          rw [hx, eF] at e
          cases e
        have nd0 : d ∉ [F0] := fun z => by
          rw [List.mem_singleton] at z
          have t2' : H2 d = some (.dT (dTb (tabL Y))) := t2
          rw [z, eF] at t2'
          cases t2'
        refine ⟨.ref z0, rfl, z0, rfl, ⟨_, SqT.of ha2⟩, for_tup (xs := xs) (fun i σ H' => ∃ (acc : List V) (y3 y4 y5 : Option V), σ = [some a, some (.ref z0), some (.ref b), y3, y4, y5, some (.ref d), some (.ref F0)] ∧ Sm [F0] H2 H' ∧ H' F0 = some (.lst acc) ∧ TrAll H' acc (joinL (Z.take i) Y) ∧ acc.length ≤ i) ?_ ?_ ?_ ?_⟩
        · exact ⟨[], _, _, _, rfl, Sm.refl, eF, .nil, Nat.le_refl _⟩
        · rintro i σ H' _ ⟨acc, y3, y4, y5, rfl, s3, _⟩
          exact SqT.of (s3.kpD nt _ _ ha2)
        · rintro i x σ H3 hx ⟨acc, y3, y4, y5, rfl, s3, hF, hT, hl⟩
          obtain ⟨t, ht, p, rfl, hp⟩ := hxs.get hx
          have il := (List.getElem?_eq_some_iff.mp ht).1
          have t3 : TabAt H3 d (tabL Y) := s3 _ _ t2 nd0
          have step : joinL (Z.take (i + 1)) Y = joinL (Z.take i) Y ++ ((getT (tabL Y) (t.1, t.2.1)).map fun u => (t.1, t.2.1, max t.2.2 u)).toList := by
            unfold joinL
            rw [List.take_add_one, ht, Option.toList_some, List.filterMap_append]
            congr 1
            all_goals cases getT (tabL Y) (t.1, t.2.1) <;> rfl
          refine ⟨p, _, rfl, SqT.of (s3.kpD nt _ _ (s2.keep hp)), rfl, _, _, rfl, _, _, rfl, _, _, rfl, rfl, ?_⟩
          refine if_in (b_in (in_rd t3 rfl rfl rfl fun c H5 hc e5 => ⟨_, rfl, ?_⟩))
          have s5 : Sm [] H3 H5 := by rw [e5]; exact Sm.refl.new hc
          have hF5 := s5.keep hF
          have t5 : TabAt H5 d (tabL Y) := s5.keep t3
          cases g : getT (tabL Y) (t.1, t.2.1) with
          | none =>
            rw [g] at step
            refine ite2 (fun z => by cases z) fun _ => ⟨acc, _, _, _, rfl, s3.trans s5.nil, hF5, ?_, by omega⟩
            rw [step]
            show TrAll H5 acc (_ ++ [])
            rw [List.append_nil]
            exact hT.kp s5.kp
          | some u =>
            rw [g] at step
            refine ite2 (fun _ => ?_) fun z => absurd rfl z
            refine ⟨.ref F0, rfl, .inl ⟨rfl, _, SqL.of hF5⟩, .str t.1, rfl, .str t.2.1, rfl, .int t.2.2, rfl, ?_⟩
            refine get_rd t5 rfl rfl rfl g fun c2 H6 hc2 e6 => ⟨t.2.2, u, rfl, ?_⟩
            rw [max_if]
            have s6 : Sm [] H5 H6 := by rw [e6]; exact Sm.refl.new hc2
            refine ⟨(by show 3 ≤ sizeLine; decide), fun r hr2 => ?_⟩
            have s7 : Sm [] H6 (upd H6 r (.tup [.str t.1, .str t.2.1, .int (max t.2.2 u)])) := Sm.refl.new hr2
            have r7 : (upd H6 r (.tup [.str t.1, .str t.2.1, .int (max t.2.2 u)])) r = some (.tup (trV (t.1, t.2.1, max t.2.2 u))) := upd_same
            generalize upd H6 r (.tup [.str t.1, .str t.2.1, .int (max t.2.2 u)]) = H7 at s7 r7
            have hF7 := s7.keep (s6.keep hF5)
            have sq := (s5.trans s6).trans s7
            refine ⟨F0, _, _, rfl, rfl, hF7, small16 (by omega), acc ++ [.ref r], _, _, _, rfl, (s3.trans sq.nil).put (by simp), upd_same, ?_, ?_⟩
            · have kp3 : Kp H7 (upd H7 F0 (.lst (acc ++ [.ref r]))) := fun b xs e => by
                rw [upd_ne (ne_of e hF7 (by intro z; cases z))]
                exact e
              rw [step]
              exact (hT.kp (sq.kp.trans kp3)).app (.cons ⟨r, rfl, kp3 _ _ r7⟩ .nil)
            · rw [List.length_append]
              show acc.length + 1 ≤ i + 1
              omega
        · rintro σ H3 ⟨acc, y3, y4, y5, rfl, s3, hF, hT, hl⟩
          rw [hxl, List.take_length] at hT
          refine ⟨.ref F0, rfl, F0, _, rfl, .inl ⟨SqL.of hF, fun u hu => ?_⟩⟩
          have s4 : Sm [] H (upd H3 u (.tup acc)) := ((s2.nil.trans s3).trans' hFH).new hu
          exact q (.ref u) _ s4 (.inr ⟨_, u, rfl, rfl, acc, upd_same, hT.kp (Kp.refl.new hu)⟩)
def spLp : Sp := fun vs H Q _ => ∃ (x y : V) (o p : Option (List Tr)), vs = [x, y] ∧ BdsO H x o ∧ BdsO H y p ∧ few o ∧ few p ∧ ∀ H', Sm [] H H' → Q (.bl (partB o p)) H'
theorem ok_lp {f : Addr} {fd : FuncData} (F : Fun K "_law_is_part" "_law_is_part" sLp f fd) (B : Bn mg) : FnOk P w K mg base CX0 1 f fd ["zone", "other"] spLp := by
  refine F.ok scLp (fun vs H Q E h => ?_) (fun cdv A outer s H vs Q E hr h => ?_)
  · obtain ⟨x, y, o, p, rfl, _⟩ := h
    rfl
  · obtain ⟨x, y, o, p, rfl, ho, hp, fo, fp, q⟩ := h
    have nd := scLp.nd
    have hu := hu_of hr
    refine ⟨_, pss_cons (ps_if (PW.pt (pw_or (pt_cmpR op_isN (pv 0) pe_non (nomark _)) (pw_or1 (pt_cmpR op_isN (pv 1) pe_non (nomark _))))) (pss_one (ps_ret (pe_cmpR op_isN (pv 0) pe_non (by first | exact nomark _ | rfl)))) pss_nil)
      (pss_cons (ps_set (i := 2) nd rfl (.inr rfl) (pe_callTy (call_dictT rfl (un8_of hr)) (by rfl) B.dict boot_dict (pa_cons
          (pe_lc (own := [("a", 3), ("b", 4), ("k", 5)]) (g := gT3 K) (tt := tYes) (te := tTup (tCons (tTup (tCons (tVar 3) (tCons (tVar 4) tNil))) (tCons (tVar 5) tNil))) rfl nd (pi_tup (pv 0)) (blkOk_by (N := nLp) (sc := defScope sLp) (by decide +kernel))
            (fun _ _ _ _ _ => pg_tup rfl (pgs_cons (pg_name (i := 3) nd rfl (.inl rfl)) (pgs_cons (pg_name (i := 4) nd rfl (.inl rfl)) (pgs_cons (pg_name (i := 5) nd rfl (.inl rfl)) pgs_nil)))) (fun _ _ _ _ _ => pts_nil)
            (fun _ _ _ _ _ => pe_tup (pa_cons (pe_tup (pa_cons (pv 3) (pa_cons (pv 4) pa_nil))) (pa_cons (pv 5) pa_nil)))) pa_nil)))
      (pss_one (ps_ret (pe_cmpR (op_eqD hr.units)
        (pe_lc (own := [("a", 3), ("b", 4), ("k", 5)]) (g := gT3 K) (tt := tOr (tB (tDNotIn (tTup (tCons (tVar 3) (tCons (tVar 4) tNil))) (tVar 2))) (tTest (tOp (rI0 fun i j => .bl (decide (j < i))) (tDGet (tVar 2) (tTup (tCons (tVar 3) (tCons (tVar 4) tNil)))) (tVar 5)))) (te := tC (.int 1)) rfl nd (pi_tup (pv 1)) (blkOk_by (N := nLp) (sc := defScope sLp) (by decide +kernel))
            (fun _ _ _ _ _ => pg_tup rfl (pgs_cons (pg_name (i := 3) nd rfl (.inl rfl)) (pgs_cons (pg_name (i := 4) nd rfl (.inl rfl)) (pgs_cons (pg_name (i := 5) nd rfl (.inl rfl)) pgs_nil))))
            (fun _ _ _ _ _ => pts_one (PW.pt (pw_or (pt_cmp (pc_dnotin hu (pe_tup (pa_cons (pv 3) (pa_cons (pv 4) pa_nil))) (pv 2))) (pw_or1 (pt_cmpR op_gt (pe_dget hu (pv 2) (pe_tup (pa_cons (pv 3) (pa_cons (pv 4) pa_nil))) (fun _ _ => rfl)) (pv 5) (nomark _))))))
            (fun _ _ _ _ _ => pe_int)) (pe_lst pa_nil) (by first | exact nomark _ | rfl))))), ?_⟩
    rcases ho with ⟨rfl, rfl⟩ | ⟨Z, a, rfl, rfl, hZ⟩
    · refine ⟨.non, rfl, rfl, _, rfl, ite2 (fun _ => ite2 (fun _ => ?_) fun z => absurd rfl z) fun z => absurd rfl z⟩
      exact ⟨.non, rfl, rfl, q H Sm.refl⟩
    · refine ⟨.ref a, rfl, rfl, _, rfl, ite2 (fun z => by simp at z) fun _ => ?_⟩
      rcases hp with ⟨rfl, rfl⟩ | ⟨Y, b, rfl, rfl, hY⟩
      · refine ⟨.non, rfl, rfl, _, rfl, ite2 (fun _ => ?_) fun z => absurd rfl z⟩
        exact ⟨.ref a, rfl, rfl, q H Sm.refl⟩
      · refine ⟨.ref b, rfl, rfl, _, rfl, ite2 (fun z => by simp at z) fun _ => ?_⟩
        refine next_in ?_
        dsimp only
        refine seq_in (asg_in ?_)
        refine ltab_rd (K := K) (n := 0) (rest := []) rfl hZ (fo _ rfl) fun d H1 s1 d0 t1 => ?_
        obtain ⟨xs, hb, hxs⟩ := hY
        have hb1 := s1.keep hb
        have hy16 : Y.length ≤ 16 := fp _ rfl
        have hxl := hxs.len
        refine ⟨.ref b, rfl, b, rfl, ⟨xs, SqT.of hb1⟩, fun D hD => ?_⟩
        refine lc_it (walk_tup (xs := xs)) (fun i H' => ∃ ns : List Int, H' D = some (.lst (ns.map V.int)) ∧ Sm [] H1 H' ∧ ns.length ≤ i ∧ decide (ns = []) = (Y.take i).all (tighter Z)) ⟨[], upd_same, Sm.refl.new hD, Nat.le_refl _, rfl⟩ ?_ ?_ ?_
        · rintro i H' _ ⟨ns, h1, h2, h3, h4⟩
          exact SqT.of (h2.keep hb1)
        · rintro i x H3 H4 hi ⟨ns, h1, h2, h3, h4⟩ ⟨rfl, hx⟩
          obtain ⟨t, ht, p, rfl, hp⟩ := hxs.get hx
          have t4 : TabAt H4 d (tabL Z) := h2.keep t1
          have stp : (Y.take (i + 1)).all (tighter Z) = ((Y.take i).all (tighter Z) && tighter Z t) := by
            rw [List.take_add_one, ht, Option.toList_some, List.all_append]
            simp
          have bad : ∀ H7, Sm [] H4 H7 → tighter Z t = false → ∃ acc, H7 D = some (.lst acc) ∧ acc.length < sizeLine ∧ ∃ ns : List Int, (upd H7 D (.lst (acc ++ [.int 1]))) D = some (.lst (ns.map V.int)) ∧ Sm [] H1 (upd H7 D (.lst (acc ++ [.int 1]))) ∧ ns.length ≤ i + 1 ∧ decide (ns = []) = (Y.take (i + 1)).all (tighter Z) := fun H7 s7 e => by
            refine ⟨_, s7.keep h1, by rw [List.length_map]; exact small16 (by omega), ns ++ [1], ?_, (h2.trans s7).own hD, ?_, ?_⟩
            · rw [upd_same, List.map_append]
              rfl
            · rw [List.length_append]
              show ns.length + 1 ≤ i + 1
              omega
            · rw [stp, e, Bool.and_false]
              simp
          refine ⟨p, _, rfl, SqT.of (h2.keep (s1.keep hp)), rfl, _, _, rfl, _, _, rfl, _, _, rfl, rfl, rfl, ?_⟩
          refine ⟨.str t.1, rfl, .str t.2.1, rfl, (by show 2 ≤ sizeLine; decide), fun c hc => ?_⟩
          have s5 : Sm [] H4 (upd H4 c (.tup [.str t.1, .str t.2.1])) := Sm.refl.new hc
          have e5 : (upd H4 c (.tup [.str t.1, .str t.2.1])) c = some (.tup [.str t.1, .str t.2.1]) := upd_same
          generalize upd H4 c (.tup [.str t.1, .str t.2.1]) = H5 at s5 e5
          have t5 : TabAt H5 d (tabL Z) := s5.keep t4
          refine ⟨.ref d, rfl, d, _, rfl, get_tab (p := (t.1, t.2.1)) t5 e5, _, rfl, ?_⟩
          cases g : getT (tabL Z) (t.1, t.2.1) with
          | none =>
            refine ite2 (fun _ => bad H5 s5 ?_) fun z => absurd rfl z
            unfold tighter
            rw [g]
          | some u =>
            refine ite2 (fun z => by cases z) fun _ => ?_
            refine test_in (op_in (get_rd t5 rfl rfl rfl g fun c2 H6 hc2 e6 => ?_))
            have s6 : Sm [] H5 H6 := by rw [e6]; exact Sm.refl.new hc2
            refine ⟨.int t.2.2, rfl, _, _, rfl, rfl, _, rfl, ?_⟩
            refine ite2 (fun z => bad H6 (s5.trans s6) ?_) fun z => ?_
            · have := of_decide_eq_true z
              unfold tighter
              rw [g]
              exact decide_eq_false (by omega)
            · have hz : ¬ (t.2.2 < u) := fun y => z (decide_eq_true y)
              refine ⟨ns, (s5.trans s6).keep h1, h2.trans (s5.trans s6), by omega, ?_⟩
              have e : tighter Z t = true := by
                unfold tighter
                rw [g]
                exact decide_eq_true (by omega)
              rw [stp, e, Bool.and_true, h4]
        · rintro H3 ⟨ns, h1, h2, h3, h4⟩
          rw [hxl, List.take_length] at h4
          refine ⟨Nat.zero_le _, fun e0 he0 => ?_⟩
          have s4 : Sm [] H3 (upd H3 e0 (.lst [])) := Sm.refl.new he0
          have e4 : (upd H3 e0 (.lst [])) e0 = some (.lst []) := upd_same
          generalize upd H3 e0 (.lst []) = H4 at s4 e4
          refine ⟨_, _, .lst (SqL.of (s4.keep h1)) (ints_dp ns), .lst (SqL.of e4) .nil, ints_shaped ns, by rfl, ?_⟩
          rw [ints_eqv_nil, h4]
          exact q H4 ((s1.trans h2).trans s4)
end
end K92

/-! the law's is_row_in -/
namespace K92
open PySem PySem.Spec PyProof.Rows L2
abbrev sLi : Stmt := topS 79
abbrev nLi : List Str := ["columns", "zone", "row", "it"]
theorem scLi : FnScope ["columns", "zone", "row", "it"] ["columns", "zone", "row"] (defScope sLi) := ⟨rfl, rfl, rfl, by decide +kernel, rfl, by decide +kernel, by decide +kernel⟩
section
variable {P : Program} {w : World} {K : PySem.W.Frag} {mg : Str → Option Value} {base : Heap}
/-- a row that is one of the zone's, None of none -/
def RowZ (cs : List Str) (o : Option (List Tr)) (H : Hp) (v : V) : Prop := (o = none ∧ v = .non) ∨ ∃ Z t r, o = some Z ∧ v = .ref t ∧ H t = some (.tup ((r : List Int).map V.int)) ∧ r.length = cs.length ∧ inB cs r Z = true
def spLi : Sp := fun vs H Q _ => ∃ (a : Addr) (x y : V) (cs : List Str) (o : Option (List Tr)), vs = [.ref a, x, y] ∧ Cols H a cs ∧ cs.length ≤ 3 ∧ BdsO H x o ∧ (∀ Z, o = some Z → ZM.Bok (("" : Str) :: cs) Z) ∧ RowZ cs o H y ∧ ∀ H', Sm [] H H' → Q (.bl true) H'
theorem ok_li {f : Addr} {fd : FuncData} (F : Fun K "_law_is_row_in" "_law_is_row_in" sLi f fd) (B : Bn mg) (cIs : Cal P w K mg base "_law_is_in" ["columns", "bounds", "values"] 2 (spIs K)) : FnOk P w K mg base CX0 3 f fd ["columns", "zone", "row"] spLi := by
  refine F.ok scLi (fun vs H Q E h => ?_) (fun cdv A outer s H vs Q E hr h => ?_)
  · obtain ⟨a, x, y, cs, o, rfl, _⟩ := h
    rfl
  · obtain ⟨a, x, y, cs, o, rfl, hA, hl, hx, hO, hy, q⟩ := h
    have nd := scLi.nd
    refine ⟨_, pss_cons (ps_if (pt_cmpR op_isN (pv 1) pe_non (nomark _)) (pss_one (ps_ret (pe_cmpR op_isN (pv 2) pe_non (by first | exact nomark _ | rfl)))) pss_nil)
      (pss_cons (ps_if (PW.pt (pw_or (pt_not (pt_val (pe_is B B.tuple boot_tuple (pv 2)))) (pw_or1 (pt_cmpR op_ne (pe_callB call_len (by rfl) B.len boot_len (pa_cons (pv 2) pa_nil)) (pe_callB call_len (by rfl) B.len boot_len (pa_cons (pv 0) pa_nil)) (nomark _))))) (pss_one (ps_ret pe_bl)) pss_nil)
      (pss_cons (ps_if (pt_cmpR (op_neD hr.units) (pe_lc (own := [("it", 3)]) (g := gName 3) (tt := tOr (tNot (tB (tCB (rIs K) (tCons (tVar 3) (tCons (tC (.ty "int")) tNil))))) (tB (tCB (rIs K) (tCons (tVar 3) (tCons (tC (.ty "bool")) tNil))))) (te := tC (.int 1)) rfl nd (pi_tup (pv 2)) (blkOk_by (N := nLi) (sc := defScope sLi) (by decide +kernel))
            (fun _ _ _ _ _ => pg_name (i := 3) nd rfl (.inl rfl)) (fun _ _ _ _ _ => pts_one (PW.pt (pw_or (pt_not (pt_val (pe_is B B.int boot_int (pv 3)))) (pw_or1 (pt_val (pe_is B B.bool boot_bool (pv 3))))))) (fun _ _ _ _ _ => pe_int)) (pe_lst pa_nil) (nomark _)) (pss_one (ps_ret pe_bl)) pss_nil)
      (pss_one (ps_ret (pe_own cIs hr (pa_cons (pv 0) (pa_cons (pv 1) (pa_cons (pv 2) pa_nil)))))))), ?_⟩
    rcases hy with ⟨rfl, rfl⟩ | ⟨Z, t, r, rfl, rfl, ht, hrl, hin⟩
    · rcases hx with ⟨_, rfl⟩ | ⟨Z, _, e, _⟩
      · exact ⟨.non, rfl, rfl, _, rfl, ite2 (fun _ => ⟨.non, rfl, rfl, q H Sm.refl⟩) fun z => absurd rfl z⟩
      · cases e
    · rcases hx with ⟨e, _⟩ | ⟨Z', z, e, rfl, hB⟩
      · cases e
      cases e
      have hlen : (r.map V.int).length = cs.length := by rw [List.length_map]; exact hrl
      refine ⟨.ref z, rfl, rfl, _, rfl, ite2 (fun z => by simp at z) fun _ => ?_⟩
      refine next_in ?_
      dsimp only
      refine ⟨.ref t, rfl, .ref t, "tuple", "tuple", true, rfl, TyX.tup ht, by decide +kernel, true, rfl, ite2 (fun z => by cases z) fun _ => ?_⟩
      refine ⟨.ref t, rfl, .ref t, cs.length, rfl, .inr ⟨_, SqT.of ht, hlen.symm⟩, .ref a, rfl, .ref a, cs.length, rfl, .inr ⟨_, hA.sq, by rw [List.length_map]⟩, rfl, _, rfl, ite2 (fun z => by simp at z) fun _ => ?_⟩
      refine next_in ?_
      dsimp only
      refine ⟨.ref t, rfl, t, rfl, ⟨_, SqT.of ht⟩, fun D hD => ?_⟩
      refine lc_it (walk_tup (K := K) (a := t) (xs := r.map V.int)) (fun i H' => H' D = some (.lst []) ∧ Sm [] H H') ⟨upd_same, Sm.refl.new hD⟩ ?_ ?_ ?_
      · rintro i H' _ ⟨h1, h2⟩
        exact SqT.of (h2.keep ht)
      · rintro i x H3 H4 hi ⟨h1, h2⟩ ⟨rfl, hx⟩
        obtain ⟨n, rfl⟩ : ∃ n, x = .int n := by
          rw [List.getElem?_map] at hx
          cases c : r[i]? with
          | none => rw [c] at hx; cases hx
          | some n => rw [c] at hx; exact ⟨n, (Option.some.inj hx).symm⟩
        refine ⟨rfl, .int n, rfl, .int n, "int", "int", true, rfl, TyX.int n, by decide +kernel, true, rfl, ite2 (fun z => by cases z) fun _ => ?_⟩
        exact ⟨.int n, rfl, .int n, "bool", "int", false, rfl, TyX.int n, by decide +kernel, false, rfl, ite2 (fun z => by cases z) fun _ => ⟨h1, h2⟩⟩
      · rintro H1 ⟨h1, s1⟩
        refine ⟨Nat.zero_le _, fun e0 he0 => ?_⟩
        have s2 : Sm [] H1 (upd H1 e0 (.lst [])) := Sm.refl.new he0
        have e2 : (upd H1 e0 (.lst [])) e0 = some (.lst []) := upd_same
        generalize upd H1 e0 (.lst []) = H2 at s2 e2
        refine ⟨_, _, .lst (SqL.of (s2.keep h1)) .nil, .lst (SqL.of e2) .nil, by rfl, by rfl, _, rfl, ite2 (fun z => by simp [PyData.eqv, PyData.eqvAll] at z) fun _ => ?_⟩
        refine next_in ?_
        dsimp only
        have s12 := s1.trans s2
        refine ⟨.ref a, rfl, .ref z, rfl, .ref t, rfl, a, z, t, cs, r, Z, rfl, hA.sm s12 (by simp), hB.kp s12.kp, s12.keep ht, hrl.symm, hO Z rfl, ?_⟩
        rw [hin]
        exact q H2 s12
end
end K92

/-! the two zones' bounds of a turn -/
namespace K92
open PySem PySem.Spec PyProof.Rows L2
abbrev sTz : Stmt := topS 80
abbrev nTz : List Str := ["deck", "columns", "far", "one", "other", "way", "box", "name", "low", "a", "b", "k"]
theorem scTz : FnScope ["deck", "columns", "far", "one", "other", "way", "box", "name", "low", "a", "b", "k"] ["deck", "columns"] (defScope sTz) := ⟨rfl, rfl, rfl, by decide +kernel, rfl, by decide +kernel, by decide +kernel⟩
def bigC : Int := 1000000100
/-- bounds of these columns that are few and not far -/
structure Few (cs : List Str) (n : Nat) (L : List Tr) : Prop where
  bok : ZM.Bok (nmL cs) L
  len : L.length ≤ n
  big : ∀ x ∈ L, -bigC ≤ x.2.2 ∧ x.2.2 ≤ bigC
theorem Few.of {cs : List Str} {L : List Tr} {n m : Nat} (h1 : ZM.Bok (nmL cs) L) (h2 : L.length ≤ m) (h3 : ∀ x ∈ L, -bigB ≤ x.2.2 ∧ x.2.2 ≤ bigB) (h : m ≤ n) : Few cs n L :=
  ⟨h1, by omega, fun x hx => by
    have := h3 x hx
    unfold bigB at this
    unfold bigC
    omega⟩
section
variable {P : Program} {w : World} {K : PySem.W.Frag} {mg : Str → Option Value} {base : Heap}
def spTz (K : PySem.W.Frag) : Sp := fun vs H Q _ => ∃ (d c a : Addr) (n : Nat) (cs : List Str), vs = [.ref d, .ref a] ∧ Deck H d c n ∧ n + 300 < 2 ^ 40 ∧ Cols H a cs ∧ Nms cs ∧
  ∀ (t a1 a2 : Addr) (L M : List Tr) (m : Nat) H', Sm [d, c] H H' → Deck H' d c m → m ≤ n + 150 → H' t = some (.tup [.ref a1, .ref a2]) → Bds H' a1 L → Bds H' a2 M → Few cs 9 L → Few cs 18 M → Q (.ref t) H'
/-- what stands after the draws -/
structure Tz (H H' : Hp) (d c a a1 a2 : Addr) (n m : Nat) (cs : List Str) (L M : List Tr) : Prop where
  sm : Sm [d, c] H H'
  deck : Deck H' d c m
  le : m ≤ n + 150
  one : Bds H' a1 L
  two : Bds H' a2 M
  fo : Few cs 9 L
  ft : Few cs 18 M
theorem Tz.cols {H H' : Hp} {d c a a1 a2 : Addr} {n m : Nat} {cs : List Str} {L M : List Tr} (T : Tz H H' d c a a1 a2 n m cs L M) (hD : Deck H d c n) (hA : Cols H a cs) : Cols H' a cs := hA.sm T.sm (hA.out hD)
theorem ok_tz {f : Addr} {fd : FuncData} (F : Fun K "_law_two_zones" "_law_two_zones" sTz f fd) (B : Bn mg) (cDraw : Cal P w K mg base "_law_draw" ["deck", "ways"] 1 spDraw) (cPick : Cal P w K mg base "_law_pick" ["deck", "some"] 2 spPick) (cLb : Cal P w K mg base "_law_bounds" ["deck", "columns", "many", "far"] 3 (spLb K)) : FnOk P w K mg base CX0 4 f fd ["deck", "columns"] (spTz K) := by
  refine F.ok scTz (fun vs H Q E h => ?_) (fun cdv A outer s H vs Q E hr h => ?_)
  · obtain ⟨d, c, a, n, cs, rfl, _⟩ := h
    rfl
  · obtain ⟨d, c, a, n, cs, rfl, hD, hn, hA, hC, q⟩ := h
    have nd := scTz.nd
    refine ⟨_, pss_cons (ps_set (i := 2) nd rfl (.inl rfl) (pe_own (cPick.mono (by decide)) hr (pa_cons (pv 0) (pa_cons (pe_lst (pa_cons pe_int (pa_cons pe_int (pa_cons pe_int (pa_cons (pe_op op_pow pe_int pe_int) pa_nil))))) pa_nil))))
      (pss_cons (ps_set (i := 3) nd rfl (.inl rfl) (pe_own (cLb.mono (by decide)) hr (pa_cons (pv 0) (pa_cons (pv 1) (pa_cons (pe_own (cDraw.mono (by decide)) hr (pa_cons (pv 0) (pa_cons pe_int pa_nil))) (pa_cons (pv 2) pa_nil))))))
      (pss_cons (ps_set (i := 4) nd rfl (.inl rfl) (pe_own (cLb.mono (by decide)) hr (pa_cons (pv 0) (pa_cons (pv 1) (pa_cons (pe_own (cDraw.mono (by decide)) hr (pa_cons (pv 0) (pa_cons pe_int pa_nil))) (pa_cons (pv 2) pa_nil))))))
      (pss_cons (ps_set (i := 5) nd rfl (.inl rfl) (pe_own (cDraw.mono (by decide)) hr (pa_cons (pv 0) (pa_cons pe_int pa_nil))))
      (Evl.pss_cut (ps_if (pt_cmpR op_eq (pv 5) pe_int (nomark _)) (pss_one (ps_set (i := 4) nd rfl (.inl rfl) (pe_op op_catA (pv 3) (pe_own (cLb.mono (by decide)) hr (pa_cons (pv 0) (pa_cons (pv 1) (pa_cons (pe_op op_add pe_int (pe_own (cDraw.mono (by decide)) hr (pa_cons (pv 0) (pa_cons pe_int pa_nil)))) (pa_cons (pv 2) pa_nil)))))))) pss_nil)
      (Evl.pss_cut (ps_if (pt_cmpR op_eq (pv 5) pe_int (nomark _)) (pss_one (ps_set (i := 4) nd rfl (.inl rfl) (pe_callTy call_tuple_of (by rfl) B.tuple boot_tuple (pa_cons
          (pe_lc (own := [("a", 9), ("b", 10), ("k", 11)]) (g := gTup K 3 (gCons (gName 9) (gCons (gName 10) (gCons (gName 11) gNil)))) (tt := tYes) (te := tTup (tCons (tVar 9) (tCons (tVar 10) (tCons (tOp (rI0 fun i j => .int (i + j)) (tVar 11) (tCall spDraw [] E0 (tCons (tVar 0) (tCons (tC (.int 3)) tNil)))) tNil)))) rfl nd (pi_tup (pv 3)) (blkOk_by (N := nTz) (sc := defScope sTz) (by decide +kernel))
            (fun _ _ _ _ _ => pg_tup rfl (pgs_cons (pg_name (i := 9) nd rfl (.inl rfl)) (pgs_cons (pg_name (i := 10) nd rfl (.inl rfl)) (pgs_cons (pg_name (i := 11) nd rfl (.inl rfl)) pgs_nil)))) (fun _ _ _ _ _ => pts_nil)
            (fun _ _ _ _ _ => pe_tup (pa_cons (pv 9) (pa_cons (pv 10) (pa_cons (pe_op op_add (pv 11) (pe_own (cDraw.mono (by decide)) hr (pa_cons (pv 0) (pa_cons pe_int pa_nil)))) pa_nil))))) pa_nil)))) pss_nil)
      (Evl.pss_cut (ps_if (pt_cmpR op_eq (pv 5) pe_int (nomark _)) (pss_cons (ps_set (i := 6) nd rfl (.inl rfl) (pe_lst pa_nil))
        (pss_cons (ps_for PassesOwn.never rfl (pi_tup (pv 1)) (pg_name (i := 7) nd rfl (.inl rfl))
          (pss_cons (ps_set (i := 8) nd rfl (.inl rfl) (pe_op op_sub (pe_own (cDraw.mono (by decide)) hr (pa_cons (pv 0) (pa_cons pe_int pa_nil))) pe_int))
          (pss_one (ps_expr (pe_bm PySem.F.plainAttrs_list PySem.F.slot_list_extend PySem.F.type_list_extend mt_extend (pv 6) (pa_cons (pe_lst (pa_cons (pe_tup (pa_cons pe_str (pa_cons (pv 7) (pa_cons (pe_op op_sub pe_int (pv 8)) pa_nil))))
            (pa_cons (pe_tup (pa_cons (pv 7) (pa_cons pe_str (pa_cons (pe_op op_add (pv 8) (pe_own (cDraw.mono (by decide)) hr (pa_cons (pv 0) (pa_cons pe_int pa_nil)))) pa_nil)))) pa_nil))) pa_nil))))))
        (pss_one (ps_set (i := 4) nd rfl (.inl rfl) (pe_callTy call_tuple_of (by rfl) B.tuple boot_tuple (pa_cons (pv 6) pa_nil)))))) pss_nil)
      (pss_one (ps_ret (pe_tup (pa_cons (pv 3) (pa_cons (pv 4) pa_nil))))))))))), ?_⟩
    -- far
    refine ⟨.ref d, rfl, 10, 8, rfl, rfl, ⟨by decide, by decide, by decide⟩, (by show 4 ≤ sizeLine; decide), fun lp hlp => ?_⟩
    have s1 : Sm [] H (upd H lp (.lst [.int 3, .int 6, .int 12, .int (10 ^ (8 : Int).toNat)])) := Sm.refl.new hlp
    have e1 : (upd H lp (.lst [.int 3, .int 6, .int 12, .int (10 ^ (8 : Int).toNat)])) lp = some (.lst [.int 3, .int 6, .int 12, .int (10 ^ (8 : Int).toNat)]) := upd_same
    have nlp := hD.outN hlp
    generalize upd H lp (.lst [.int 3, .int 6, .int 12, .int (10 ^ (8 : Int).toNat)]) = H1 at s1 e1
    have D1 := hD.keep s1
    have A1 := hA.sm s1 (by simp)
    refine ⟨d, c, n, .ref lp, _, rfl, D1, by omega, .inl ⟨lp, rfl, e1, nlp⟩, by simp, (by show 4 < 1073741824; decide), fun i2 x2 H2 hx2 s2 D2 => ?_⟩
    obtain ⟨far, rfl, f0, f1⟩ : ∃ far : Int, x2 = .int far ∧ 3 ≤ far ∧ far ≤ 500000000 := by
      have hm := List.mem_of_getElem? hx2
      simp only [List.mem_cons, List.not_mem_nil, or_false] at hm
      rcases hm with rfl | rfl | rfl | rfl
      · exact ⟨3, rfl, by decide, by decide⟩
      · exact ⟨6, rfl, by decide, by decide⟩
      · exact ⟨12, rfl, by decide, by decide⟩
      · exact ⟨_, rfl, by decide, by decide⟩
    have A2 := A1.sm s2 (A1.out D1)
    have s02 : Sm [d, c] H H2 := s1.nil.trans s2
    -- one
    refine ⟨.ref d, rfl, .ref a, rfl, .ref d, rfl, d, c, n + 1, 8, rfl, D2, by omega, by omega, by omega, fun r3 H3 r30 r31 s3 D3 => ?_⟩
    have A3 := A2.sm s3 (A2.out D2)
    refine ⟨.int far, rfl, d, c, a, _, r3, far, cs, rfl, D3, by omega, A3, hC, r30, by omega, f0, f1, fun b L m4 H4 s4 D4 hm4 hB4 hO4 hL4 hX4 => ?_⟩
    have A4 := A3.sm s4 (A3.out D3)
    -- other
    refine ⟨.ref d, rfl, .ref a, rfl, .ref d, rfl, d, c, m4, 8, rfl, D4, by omega, by omega, by omega, fun r5 H5 r50 r51 s5 D5 => ?_⟩
    have A5 := A4.sm s5 (A4.out D4)
    refine ⟨.int far, rfl, d, c, a, _, r5, far, cs, rfl, D5, by omega, A5, hC, r50, by omega, f0, f1, fun b2 M m6 H6 s6 D6 hm6 hB6 hO6 hL6 hX6 => ?_⟩
    have A6 := A5.sm s6 (A5.out D5)
    -- way
    refine ⟨.ref d, rfl, d, c, m6, 5, rfl, D6, by omega, by omega, by omega, fun w7 H7 w70 w71 s7 D7 => ?_⟩
    have s47 : Sm [d, c] H4 H7 := (s5.trans s6).trans s7
    have T7 : Tz H H7 d c a b b2 n (m6 + 1) cs L M := ⟨((s02.trans s3).trans s4).trans s47, D7, by omega, hB4.kp (s47.kpD D4.nt), hB6.kp (s7.kpD D6.nt), Few.of hO4 hL4 hX4 (by omega), Few.of hO6 hL6 hX6 (by omega)⟩
    obtain ⟨m7, hm7, T7'⟩ : ∃ m7, m7 ≤ n + 60 ∧ Tz H H7 d c a b b2 n m7 cs L M := ⟨_, by omega, T7⟩
    clear T7
    clear s47 s7 D7 s6 D6 s5 D5 s4 D4 s3 D3 A6 A5 A4 A3 hB6 hB4 hX6 hO4 hO6 hL4 hL6 s02 A2 s2 D2 hm6 hm4
    clear r50 r51 r5 r30 r31 r3 m6 m4
    -- way 0
    refine ⟨fun σ' H' => ∃ (b2 : Addr) (M : List Tr) (m : Nat), σ' = [some (.ref d), some (.ref a), some (.int far), some (.ref b), some (.ref b2), some (.int w7), none, none, none, none, none, none] ∧ m ≤ n + 90 ∧ Tz H H' d c a b b2 n m cs L M, ?_, ?_⟩
    · refine ⟨.int w7, rfl, rfl, _, rfl, ite2 (fun _ => ?_) (fun _ => ⟨b2, M, m7, rfl, by omega, T7'⟩)⟩
      have A7 := T7'.cols hD hA
      refine ⟨.ref b, rfl, .ref d, rfl, .ref a, rfl, .ref d, rfl, d, c, m7, 2, rfl, T7'.deck, by omega, by omega, by omega, fun r8 H8 r80 r81 s8 D8 => ?_⟩
      refine ⟨1, r8, rfl, rfl, .int far, rfl, d, c, a, _, 1 + r8, far, cs, rfl, D8, by omega, A7.sm s8 (A7.out T7'.deck), hC, by omega, by omega, f0, f1, fun b9 N m9 H9 s9 D9 hm9 hB9 hO9 hL9 hX9 => ?_⟩
      have k79 : Kp H7 H9 := (s8.kpD T7'.deck.nt).trans (s9.kpD D8.nt)
      have F9 : Few cs 9 N := Few.of hO9 hL9 hX9 (by omega)
      have l1 := T7'.fo.len
      refine cat_rd (T7'.one.kp k79) hB9 (by omega) fun t H10 s10 ht => ⟨t, L ++ N, m9, rfl, by omega, ?_⟩
      refine ⟨((T7'.sm.trans s8).trans s9).trans s10.nil, D9.keep s10, by omega, T7'.one.kp (k79.trans s10.kp), ht, T7'.fo, ?_⟩
      exact ⟨bok_app T7'.fo.bok hO9, by rw [List.length_append]; omega, fun x hx => (List.mem_append.mp hx).elim (T7'.fo.big x) (F9.big x)⟩
    clear T7' hm7
    rintro σ8 H8 ⟨b8, M8, m8, rfl, hm8, T8⟩
    -- way 1
    refine ⟨fun σ' H' => ∃ (b2 : Addr) (M : List Tr) (m : Nat), σ' = [some (.ref d), some (.ref a), some (.int far), some (.ref b), some (.ref b2), some (.int w7), none, none, none, none, none, none] ∧ m ≤ n + 100 ∧ Tz H H' d c a b b2 n m cs L M, ?_, ?_⟩
    · refine ⟨.int w7, rfl, rfl, _, rfl, ite2 (fun _ => ?_) (fun _ => ⟨b8, M8, m8, rfl, by omega, T8⟩)⟩
      obtain ⟨xs, hb, hxs⟩ := T8.one
      have hxl := hxs.len
      have l1 := T8.fo.len
      refine ⟨.ref b, rfl, b, rfl, ⟨xs, SqT.of hb⟩, fun D hDn => ?_⟩
      have nD := T8.deck.outN hDn
      refine lc_it (walk_tup (K := K) (a := b) (xs := xs)) (fun i H' => ∃ (acc : List V) (N : List Tr), H' D = some (.lst acc) ∧ Sm [d, c] H8 H' ∧ Deck H' d c (m8 + i) ∧ TrAll H' acc N ∧ N.length = i ∧ ZM.Bok (nmL cs) N ∧ ∀ x ∈ N, -bigC ≤ x.2.2 ∧ x.2.2 ≤ bigC) ?_ ?_ ?_ ?_
      · exact ⟨[], [], upd_same, Sm.refl.new hDn, T8.deck.upd nD, .nil, rfl, fun x h => absurd h (by simp), fun x h => absurd h (by simp)⟩
      · rintro i H' _ ⟨acc, N, h1, h2, _⟩
        exact SqT.of (h2.kpD T8.deck.nt _ _ hb)
      · rintro i x H9 H9' hi ⟨acc, N, h1, h2, h3, h4, h5, h6, h7⟩ ⟨rfl, hx⟩
        obtain ⟨t, ht, p, rfl, hp⟩ := hxs.get hx
        have tm := List.mem_of_getElem? ht
        have kp9 := h2.kpD T8.deck.nt
        refine ⟨p, _, rfl, SqT.of (kp9 _ _ hp), rfl, _, _, rfl, _, _, rfl, _, _, rfl, rfl, rfl, ?_⟩
        refine ⟨.str t.1, rfl, .str t.2.1, rfl, .int t.2.2, rfl, .ref d, rfl, d, c, m8 + i, 3, rfl, h3, by omega, by omega, by omega, fun r H10 r0 r1 s10 D10 => ?_⟩
        refine ⟨t.2.2, r, rfl, rfl, (by show 3 ≤ sizeLine; decide), fun q1 hq1 => ?_⟩
        have s11 : Sm [] H10 (upd H10 q1 (.tup [.str t.1, .str t.2.1, .int (t.2.2 + r)])) := Sm.refl.new hq1
        have e11 : (upd H10 q1 (.tup [.str t.1, .str t.2.1, .int (t.2.2 + r)])) q1 = some (.tup (trV (t.1, t.2.1, t.2.2 + r))) := upd_same
        generalize upd H10 q1 (.tup [.str t.1, .str t.2.1, .int (t.2.2 + r)]) = H11 at s11 e11
        have h1' := s11.keep (s10 _ _ h1 nD)
        refine ⟨acc, h1', small16 (by have := h4.len; omega), acc ++ [.ref q1], N ++ [(t.1, t.2.1, t.2.2 + r)], upd_same, ((h2.trans s10).trans s11.nil).own hDn, (D10.keep s11).upd nD, ?_, ?_, ?_, ?_⟩
        · exact (h4.kp (((s10.kpD h3.nt).trans s11.kp).trans (list_kp h1'))).app (.cons ⟨q1, rfl, list_kp h1' _ _ e11⟩ .nil)
        · rw [List.length_append, h5]
          rfl
        · intro u hu
          rcases List.mem_append.mp hu with hu | hu
          · exact h6 u hu
          · rw [List.mem_singleton] at hu
            subst hu
            exact T8.fo.bok t tm
        · intro u hu
          rcases List.mem_append.mp hu with hu | hu
          · exact h7 u hu
          · rw [List.mem_singleton] at hu
            subst hu
            have := hX4 t tm
            unfold bigB at this
            unfold bigC
            show -1000000100 ≤ t.2.2 + r ∧ t.2.2 + r ≤ 1000000100
            omega
      · rintro H9 ⟨acc, N, h1, h2, h3, h4, h5, h6, h7⟩
        refine ⟨D, acc, rfl, .inl ⟨SqL.of h1, fun t ht => ?_⟩⟩
        have s10 : Sm [] H9 (upd H9 t (.tup acc)) := Sm.refl.new ht
        refine ⟨t, N, m8 + xs.length, rfl, by omega, (T8.sm.trans h2).trans s10.nil, h3.keep s10, by omega, T8.one.kp ((h2.kpD T8.deck.nt).trans s10.kp), ⟨acc, upd_same, h4.kp s10.kp⟩, T8.fo, h6, by omega, h7⟩
    clear T8 hm8
    rintro σ9 H9 ⟨b9, M9, m9, rfl, hm9, T9⟩
    -- way 2
    refine ⟨fun σ' H' => ∃ (b2 : Addr) (M : List Tr) (m : Nat) (y6 y7 y8 : Option V), σ' = [some (.ref d), some (.ref a), some (.int far), some (.ref b), some (.ref b2), some (.int w7), y6, y7, y8, none, none, none] ∧ Tz H H' d c a b b2 n m cs L M, ?_, ?_⟩
    · refine ⟨.int w7, rfl, rfl, _, rfl, ite2 (fun _ => ?_) (fun _ => ⟨b9, M9, m9, _, _, _, rfl, T9⟩)⟩
      refine ⟨Nat.zero_le _, fun D hDn => ?_⟩
      have nD := T9.deck.outN hDn
      have A9 := T9.cols hD hA
      have A9' : Cols (upd H9 D (.lst [])) a cs := A9.sm (Sm.refl.new hDn : Sm [] H9 _) (by simp)
      have naD : a ∉ [d, c] := A9.out T9.deck
      refine ⟨.ref a, rfl, a, rfl, ⟨_, A9'.sq⟩, for_tup (xs := cs.map V.str) (fun i σ H' => ∃ (acc : List V) (N : List Tr) (y7 y8 : Option V), σ = [some (.ref d), some (.ref a), some (.int far), some (.ref b), some (.ref b9), some (.int w7), some (.ref D), y7, y8, none, none, none] ∧ H' D = some (.lst acc) ∧ Sm [d, c] H9 H' ∧ Deck H' d c (m9 + 2 * i) ∧ TrAll H' acc N ∧ N.length = 2 * i ∧ ZM.Bok (nmL cs) N ∧ ∀ x ∈ N, -bigC ≤ x.2.2 ∧ x.2.2 ≤ bigC) ?_ ?_ ?_ ?_⟩
      · exact ⟨[], [], _, _, rfl, upd_same, Sm.refl.new hDn, T9.deck.upd nD, .nil, rfl, fun x h => absurd h (by simp), fun x h => absurd h (by simp)⟩
      · rintro i σ H' _ ⟨acc, N, y7, y8, rfl, h1, h2, _⟩
        exact (A9.sm h2 naD).sq
      · rintro i x σ H10 hx ⟨acc, N, y7, y8, rfl, h1, h2, h3, h4, h5, h6, h7⟩
        obtain ⟨z, hz, rfl⟩ := str_at hx
        have zm : z ∈ cs := List.mem_of_getElem? hz
        have ne : z ≠ "" := fun e => hC.full (e ▸ zm)
        have i3 : i < 3 := by
          have := (List.getElem?_eq_some_iff.mp hz).1
          have := hC.le
          omega
        refine ⟨.ref d, rfl, d, c, _, 5, rfl, h3, by omega, by omega, by omega, fun r H11 r0 r1 s11 D11 => ?_⟩
        refine ⟨r, 2, rfl, rfl, ?_⟩
        have h1b := s11 _ _ h1 nD
        refine ⟨.ref D, rfl, .inl ⟨rfl, _, SqL.of h1b⟩, .str z, rfl, .int (r - 2), rfl, 0, r - 2, rfl, rfl, (by show 3 ≤ sizeLine; decide), fun q1 hq1 => ?_⟩
        have s12 : Sm [] H11 (upd H11 q1 (.tup [.str "", .str z, .int (0 - (r - 2))])) := Sm.refl.new hq1
        have e12 : (upd H11 q1 (.tup [.str "", .str z, .int (0 - (r - 2))])) q1 = some (.tup (trV (("" : Str), z, 0 - (r - 2)))) := upd_same
        generalize upd H11 q1 (.tup [.str "", .str z, .int (0 - (r - 2))]) = H12 at s12 e12
        have D12 := D11.keep s12
        refine ⟨.str z, rfl, .int (r - 2), rfl, .ref d, rfl, d, c, _, 3, rfl, D12, by omega, by omega, by omega, fun r2 H13 r20 r21 s13 D13 => ?_⟩
        refine ⟨r - 2, r2, rfl, rfl, (by show 3 ≤ sizeLine; decide), fun q2 hq2 => ?_⟩
        have s14 : Sm [] H13 (upd H13 q2 (.tup [.str z, .str "", .int (r - 2 + r2)])) := Sm.refl.new hq2
        have e14 : (upd H13 q2 (.tup [.str z, .str "", .int (r - 2 + r2)])) q2 = some (.tup (trV (z, ("" : Str), r - 2 + r2))) := upd_same
        generalize upd H13 q2 (.tup [.str z, .str "", .int (r - 2 + r2)]) = H14 at s14 e14
        refine ⟨(by show 2 ≤ sizeLine; decide), fun q3 hq3 => ?_⟩
        have s15 : Sm [] H14 (upd H14 q3 (.lst [.ref q1, .ref q2])) := Sm.refl.new hq3
        have e15 : (upd H14 q3 (.lst [.ref q1, .ref q2])) q3 = some (.lst [.ref q1, .ref q2]) := upd_same
        generalize upd H14 q3 (.lst [.ref q1, .ref q2]) = H15 at s15 e15
        have k1215 : Kp H12 H15 := ((s13.kpD D12.nt).trans s14.kp).trans s15.kp
        have k1015 : Kp H10 H15 := ((s11.kpD h3.nt).trans s12.kp).trans k1215
        have h15 : H15 D = some (.lst acc) := s15.keep (s14.keep (s13 _ _ (s12.keep h1b) nD))
        have kl := list_kp (ys := acc ++ [.ref q1, .ref q2]) h15
        refine ⟨D, q3, acc, [.ref q1, .ref q2], rfl, rfl, h15, e15, ?_, ?_⟩
        · have := h4.len
          have : (100 : Nat) ≤ sizeLine := by decide
          show acc.length + 2 ≤ sizeLine
          omega
        refine ⟨acc ++ [.ref q1, .ref q2], N ++ [(("" : Str), z, 0 - (r - 2)), (z, ("" : Str), r - 2 + r2)], _, _, rfl, upd_same, (((((h2.trans s11).trans s12.nil).trans s13).trans s14.nil).trans s15.nil).own hDn, ?_, ?_, ?_, ?_, ?_⟩
        · have := ((D13.keep s14).keep s15).upd (o := .lst (acc ++ [.ref q1, .ref q2])) nD
          rw [show m9 + 2 * (i + 1) = m9 + 2 * i + 1 + 1 by omega]
          exact this
        · exact (h4.kp (k1015.trans kl)).app (.cons ⟨q1, rfl, kl _ _ (k1215 _ _ e12)⟩ (.cons ⟨q2, rfl, kl _ _ (s15.keep e14)⟩ .nil))
        · rw [List.length_append, h5]
          show 2 * i + 2 = _
          omega
        · intro u hu
          rcases List.mem_append.mp hu with hu | hu
          · exact h6 u hu
          · simp only [List.mem_cons, List.not_mem_nil, or_false] at hu
            rcases hu with rfl | rfl
            · exact ⟨nmL_mem.mpr List.mem_cons_self, nmL_mem.mpr (List.mem_cons_of_mem _ zm), Ne.symm ne⟩
            · exact ⟨nmL_mem.mpr (List.mem_cons_of_mem _ zm), nmL_mem.mpr List.mem_cons_self, ne⟩
        · intro u hu
          rcases List.mem_append.mp hu with hu | hu
          · exact h7 u hu
          · unfold bigC
            simp only [List.mem_cons, List.not_mem_nil, or_false] at hu
            rcases hu with rfl | rfl
            · show -1000000100 ≤ 0 - (r - 2) ∧ 0 - (r - 2) ≤ 1000000100
              omega
            · show -1000000100 ≤ r - 2 + r2 ∧ r - 2 + r2 ≤ 1000000100
              omega
      · rintro σ H10 ⟨acc, N, y7, y8, rfl, h1, h2, h3, h4, h5, h6, h7⟩
        rw [List.length_map] at h3 h5
        have := hC.le
        refine ⟨.ref D, rfl, D, acc, rfl, .inl ⟨SqL.of h1, fun t ht => ?_⟩⟩
        have s11 : Sm [] H10 (upd H10 t (.tup acc)) := Sm.refl.new ht
        refine ⟨t, N, _, _, _, _, rfl, (T9.sm.trans h2).trans s11.nil, h3.keep s11, by omega, T9.one.kp ((h2.kpD T9.deck.nt).trans s11.kp), ⟨acc, upd_same, h4.kp s11.kp⟩, T9.fo, h6, by omega, h7⟩
    clear T9 hm9
    rintro σ10 H10 ⟨b10, M10, m10, y6, y7, y8, rfl, T⟩
    refine ⟨.ref b, rfl, .ref b10, rfl, (by show 2 ≤ sizeLine; decide), fun t ht => ?_⟩
    have s11 : Sm [] H10 (upd H10 t (.tup [.ref b, .ref b10])) := Sm.refl.new ht
    exact q t b b10 L M10 m10 _ (T.sm.trans s11.nil) (T.deck.keep s11) T.le upd_same (T.one.kp s11.kp) (T.two.kp s11.kp) T.fo T.ft
end
end K92

/-! plain laws: joined, part, common -/
namespace K92
open PySem PySem.Spec PyProof.Rows L2
open ZM (getT putT)
/-- unlike pairs -/
def Uq (C : List Tr) : Prop := (C.map fun t => (t.1, t.2.1)).Nodup
theorem leT_key {a b : Tr} (x y : Int) (h : (a.1, a.2.1) ≠ (b.1, b.2.1)) : leT (a.1, a.2.1, x) (b.1, b.2.1, y) = leT a b := by
  rw [leT_eq, leT_eq]
  congr 1
  unfold PySem.W.dataLt
  rw [keyToks_trD, keyToks_trD, keyToks_trD, keyToks_trD]
  by_cases e : b.1 = a.1
  · have n2 : b.2.1 ≠ a.2.1 := fun z => h (by rw [e, z])
    have n2' : (Sum.inr b.2.1.cps.toList : Int ⊕ List Nat) ≠ Sum.inr a.2.1.cps.toList := fun z => n2 (str_ext (Sum.inr.inj z))
    simp only [e]
    have pre : ∀ R R' : List (Int ⊕ List Nat), PyProof.Rows.lexLt itemOrd ([Sum.inl 1, Sum.inr a.1.cps.toList, Sum.inl 1] ++ (Sum.inr b.2.1.cps.toList :: R)) ([Sum.inl 1, Sum.inr a.1.cps.toList, Sum.inl 1] ++ (Sum.inr a.2.1.cps.toList :: R')) = PyProof.Rows.lexLt itemOrd [Sum.inr b.2.1.cps.toList] [Sum.inr a.2.1.cps.toList] :=
      fun R R' => (PySem.W.lex_pre _ _ _).trans (PySem.W.lex_atom n2' R R')
    exact (pre _ _).trans (pre _ _).symm
  · have n1 : (Sum.inr b.1.cps.toList : Int ⊕ List Nat) ≠ Sum.inr a.1.cps.toList := fun z => e (str_ext (Sum.inr.inj z))
    have pre : ∀ R R' : List (Int ⊕ List Nat), PyProof.Rows.lexLt itemOrd ([Sum.inl 1] ++ (Sum.inr b.1.cps.toList :: R)) ([Sum.inl 1] ++ (Sum.inr a.1.cps.toList :: R')) = PyProof.Rows.lexLt itemOrd [Sum.inr b.1.cps.toList] [Sum.inr a.1.cps.toList] :=
      fun R R' => (PySem.W.lex_pre _ _ _).trans (PySem.W.lex_atom n1 R R')
    exact (pre _ _).trans (pre _ _).symm
/-- ascending, as sorted left it -/
def Asn (C : List Tr) : Prop := C.Pairwise fun a b => leT a b = true
theorem asn_sort (C : List Tr) : Asn (sortT C) := List.pairwise_mergeSort (le := leT) leT_trans leT_total C
theorem sort_asn {C : List Tr} (h : Asn C) : sortT C = C :=
  List.Perm.eq_of_pairwise (le := fun x y => leT x y = true) (fun x y _ _ h1 h2 => leT_anti x y h1 h2) (asn_sort C) h (sortT_perm C)
theorem Uq.perm {C D : List Tr} (h : Uq C) (p : D.Perm C) : Uq D := (p.map _).nodup_iff.mpr h
theorem uq_trs {M : Tb} (h : (M.map (·.1)).Nodup) : Uq (ZM.trs M) := by
  unfold Uq ZM.trs
  rw [List.map_map]
  exact h
theorem uq_mem {C : List Tr} (h : Uq C) {a b : Str} {u v : Int} (h1 : (a, b, u) ∈ C) (h2 : (a, b, v) ∈ C) : u = v := by
  unfold Uq at h
  induction C with
  | nil => cases h1
  | cons t C ih =>
    rw [List.map_cons, List.nodup_cons] at h
    rcases List.mem_cons.mp h1 with e1 | h1
    · rcases List.mem_cons.mp h2 with e2 | h2
      · rw [← e1] at e2
        injection e2 with _ e2
        injection e2 with _ e2
        exact e2.symm
      · exact absurd (List.mem_map.mpr ⟨_, h2, by rw [← e1]⟩) h.1
    · rcases List.mem_cons.mp h2 with e2 | h2
      · exact absurd (List.mem_map.mpr ⟨_, h1, by rw [← e2]⟩) h.1
      · exact ih h.2 h1 h2
theorem tabL_some {C : List Tr} {p : Pk} {v : Int} (h : getT (tabL C) p = some v) : (p.1, p.2, v) ∈ C := by
  have go : ∀ (C : List Tr) (M : Tb), getT (C.foldl (fun M t => putT M (t.1, t.2.1) t.2.2) M) p = some v → getT M p = some v ∨ (p.1, p.2, v) ∈ C := by
    intro C
    induction C with
    | nil => exact fun M h => .inl h
    | cons t C ih =>
      intro M h
      rcases ih _ h with h | h
      · rw [ZM.getT_put] at h
        by_cases e : p = (t.1, t.2.1)
        · rw [if_pos e] at h
          obtain rfl := Option.some.inj h
          rw [e]
          exact .inr List.mem_cons_self
        · rw [if_neg e] at h
          exact .inl h
      · exact .inr (List.mem_cons_of_mem _ h)
  rcases go C [] h with h | h
  · rw [ZM.getT_nil] at h
    cases h
  · exact h
theorem tabL_has {C : List Tr} {t : Tr} (h : t ∈ C) : ∃ v, getT (tabL C) (t.1, t.2.1) = some v := by
  have go : ∀ (C : List Tr) (M : Tb), (t ∈ C ∨ ∃ v, getT M (t.1, t.2.1) = some v) → ∃ v, getT (C.foldl (fun M t => putT M (t.1, t.2.1) t.2.2) M) (t.1, t.2.1) = some v := by
    intro C
    induction C with
    | nil => exact fun M h => h.elim (fun z => by cases z) id
    | cons u C ih =>
      intro M h
      refine ih _ ?_
      by_cases e : (t.1, t.2.1) = (u.1, u.2.1)
      · exact .inr ⟨u.2.2, by rw [ZM.getT_put, if_pos e]⟩
      · rcases h with h | ⟨v, h⟩
        · rcases List.mem_cons.mp h with h | h
          · exact absurd (by rw [h]) e
          · exact .inl h
        · exact .inr ⟨v, by rw [ZM.getT_put, if_neg e]; exact h⟩
  exact go C [] (.inl h)
theorem tabL_get {C : List Tr} (h : Uq C) {a b : Str} {v : Int} : getT (tabL C) (a, b) = some v ↔ (a, b, v) ∈ C := by
  refine ⟨fun e => tabL_some e, fun m => ?_⟩
  obtain ⟨u, e⟩ := tabL_has m
  rw [e, uq_mem h (tabL_some e) m]
theorem join_mem {Z Y : List Tr} (hy : Uq Y) {a b : Str} {k : Int} : (a, b, k) ∈ joinL Z Y ↔ ∃ u v, (a, b, u) ∈ Z ∧ (a, b, v) ∈ Y ∧ k = max u v := by
  unfold joinL
  rw [List.mem_filterMap]
  constructor
  · rintro ⟨⟨a', b', u⟩, hz, e⟩
    rw [Option.map_eq_some_iff] at e
    obtain ⟨v, g, e⟩ := e
    injection e with e1 e
    injection e with e2 e3
    simp only at e1 e2 e3 g
    subst e1 e2
    exact ⟨u, v, hz, tabL_some g, e3.symm⟩
  · rintro ⟨u, v, h1, h2, rfl⟩
    refine ⟨(a, b, u), h1, ?_⟩
    simp only
    rw [(tabL_get hy).mpr h2]
    rfl
theorem join_cons (t : Tr) (Z Y : List Tr) : joinL (t :: Z) Y = ((getT (tabL Y) (t.1, t.2.1)).map fun u => (t.1, t.2.1, max t.2.2 u)).toList ++ joinL Z Y := by
  unfold joinL
  rw [List.filterMap_cons]
  cases getT (tabL Y) (t.1, t.2.1) <;> rfl
theorem join_uq {Z Y : List Tr} (hz : Uq Z) : Uq (joinL Z Y) := by
  unfold Uq at hz ⊢
  have sub : ∀ Z : List Tr, ((joinL Z Y).map fun t => (t.1, t.2.1)).Sublist (Z.map fun t => (t.1, t.2.1)) := by
    intro Z
    induction Z with
    | nil => exact List.Sublist.slnil
    | cons t Z ih =>
      rw [join_cons, List.map_cons]
      cases getT (tabL Y) (t.1, t.2.1) with
      | none => exact ih.cons _
      | some u => exact ih.cons_cons _
  exact hz.sublist (sub Z)
theorem join_asn {Z Y : List Tr} (hz : Uq Z) (ha : Asn Z) : Asn (joinL Z Y) := by
  induction Z with
  | nil => exact List.Pairwise.nil
  | cons t Z ih =>
    unfold Uq at hz
    rw [List.map_cons, List.nodup_cons] at hz
    have ha' := List.pairwise_cons.mp ha
    rw [join_cons]
    have step := ih hz.2 ha'.2
    cases getT (tabL Y) (t.1, t.2.1) with
    | none => exact step
    | some u =>
      refine List.pairwise_cons.mpr ⟨fun x hx => ?_, step⟩
      have hx : x ∈ joinL Z Y := hx
      unfold joinL at hx
      rw [List.mem_filterMap] at hx
      obtain ⟨s, hs, e⟩ := hx
      rw [Option.map_eq_some_iff] at e
      obtain ⟨v, _, rfl⟩ := e
      rw [leT_key _ _ fun z => hz.1 (List.mem_map.mpr ⟨s, hs, z.symm⟩)]
      exact ha'.1 s hs
theorem tr_nodup {C : List Tr} (h : Uq C) : C.Nodup :=
  List.Pairwise.of_map (fun t : Tr => (t.1, t.2.1)) (fun a b n e => n (by rw [e])) h
theorem join_swap {Z Y : List Tr} (hz : Uq Z) (hy : Uq Y) : sortT (joinL Y Z) = sortT (joinL Z Y) := by
  refine sortT_uniq (ZM.perm_of_mem (tr_nodup (join_uq hy)) (tr_nodup (join_uq hz)) fun x => ?_)
  obtain ⟨a, b, k⟩ := x
  rw [join_mem hz, join_mem hy]
  constructor
  · rintro ⟨u, v, h1, h2, rfl⟩
    exact ⟨v, u, h2, h1, by omega⟩
  · rintro ⟨u, v, h1, h2, rfl⟩
    exact ⟨v, u, h2, h1, by omega⟩
/-- a zone: closed, ascending -/
structure Zn (cs : List Str) (L : List Tr) (o : Option (List Tr)) : Prop where
  neg : o = none → ZM.Neg L
  clo : ∀ Z, o = some Z → Clo cs L Z
  uq : ∀ Z, o = some Z → Uq Z
  asn : ∀ Z, o = some Z → Asn Z
theorem zn_of {cs : List Str} {L : List Tr} (hO : ZM.Bok (("" : Str) :: cs) L) (h3 : cs.length ≤ 3) : Zn cs L (closedO cs L) := by
  refine ⟨clo_none hO, fun Z => clo_some hO h3, fun Z e => ?_, fun Z e => ?_⟩
  · unfold closedO at e
    by_cases n : ZM.negP (ZM.ctab (("" : Str) :: cs) L) = true
    · rw [if_pos n] at e
      cases e
    · rw [if_neg n] at e
      rw [← Option.some.inj e]
      exact (uq_trs (ZM.ctab_inv hO).nod).perm (sortT_perm _)
  · unfold closedO at e
    by_cases n : ZM.negP (ZM.ctab (("" : Str) :: cs) L) = true
    · rw [if_pos n] at e
      cases e
    · rw [if_neg n] at e
      rw [← Option.some.inj e]
      exact asn_sort _
theorem Zn.few {cs : List Str} {L : List Tr} {o : Option (List Tr)} (h : Zn cs L o) : few o := fun Z e => (h.clo Z e).len
theorem Zn.okO {cs : List Str} {L : List Tr} {o : Option (List Tr)} (h : Zn cs L o) : okO cs o := fun Z e => ⟨(h.clo Z e).bok, by have := (h.clo Z e).len; omega⟩
theorem join_one {cs : List Str} {L M : List Tr} {o p : Option (List Tr)} (h : Zn cs L o) (k : Zn cs M p) : joinO o p = ljoinO o p := by
  cases o with
  | none => cases p <;> rfl
  | some Z =>
    cases p with
    | none => rfl
    | some Y => exact congrArg some (sort_asn (join_asn (h.uq _ rfl) (h.asn _ rfl)))
theorem join_two {cs : List Str} {L M : List Tr} {o p : Option (List Tr)} (h : Zn cs L o) (k : Zn cs M p) : joinO p o = ljoinO o p := by
  cases o with
  | none => cases p <;> rfl
  | some Z =>
    cases p with
    | none => rfl
    | some Y =>
      show some (sortT (joinL Y Z)) = some (joinL Z Y)
      rw [join_swap (h.uq _ rfl) (k.uq _ rfl), sort_asn (join_asn (h.uq _ rfl) (h.asn _ rfl))]
theorem tighter_iff {Z : List Tr} (hz : Uq Z) {t : Tr} : tighter Z t = true ↔ ∃ u, (t.1, t.2.1, u) ∈ Z ∧ u ≤ t.2.2 := by
  unfold tighter
  cases g : getT (tabL Z) (t.1, t.2.1) with
  | none =>
    refine ⟨fun z => (by cases z), fun ⟨u, h, _⟩ => ?_⟩
    rw [(tabL_get hz).mpr h] at g
    cases g
  | some u =>
    refine ⟨fun z => ⟨u, tabL_some g, of_decide_eq_true z⟩, fun ⟨v, h, l⟩ => ?_⟩
    rw [(tabL_get hz).mpr h] at g
    obtain rfl := Option.some.inj g
    exact decide_eq_true l
theorem part_self {o : Option (List Tr)} (h : ∀ Z, o = some Z → Uq Z) : partB o o = true := by
  cases o with
  | none => rfl
  | some Z =>
    refine List.all_eq_true.mpr fun t ht => (tighter_iff (h Z rfl)).mpr ⟨t.2.2, ht, Int.le_refl _⟩
theorem part_join1 {cs : List Str} {L M : List Tr} {o p : Option (List Tr)} (h : Zn cs L o) (k : Zn cs M p) : partB o (ljoinO o p) = true := by
  cases o with
  | none => rfl
  | some Z =>
    cases p with
    | none => exact part_self h.uq
    | some Y =>
      refine List.all_eq_true.mpr fun t ht => (tighter_iff (h.uq _ rfl)).mpr ?_
      obtain ⟨u, v, h1, h2, h3⟩ := (join_mem (k.uq _ rfl)).mp (show (t.1, t.2.1, t.2.2) ∈ joinL Z Y from ht)
      exact ⟨u, h1, by omega⟩
theorem part_join2 {cs : List Str} {L M : List Tr} {o p : Option (List Tr)} (h : Zn cs L o) (k : Zn cs M p) : partB p (ljoinO o p) = true := by
  cases o with
  | none => exact part_self k.uq
  | some Z =>
    cases p with
    | none => rfl
    | some Y =>
      refine List.all_eq_true.mpr fun t ht => (tighter_iff (k.uq _ rfl)).mpr ?_
      obtain ⟨u, v, h1, h2, h3⟩ := (join_mem (k.uq _ rfl)).mp (show (t.1, t.2.1, t.2.2) ∈ joinL Z Y from ht)
      exact ⟨v, h2, by omega⟩
/-- what closes A is asked by what closes A and more -/
theorem part_clo {cs : List Str} {A L : List Tr} (hA : ZM.Bok (("" : Str) :: cs) A) (hL : ZM.Bok (("" : Str) :: cs) L) (h3 : cs.length ≤ 3) (s : ∀ t ∈ L, t ∈ A) : partB (closedO cs A) (closedO cs L) = true := by
  have zA := zn_of hA h3
  have zL := zn_of hL h3
  cases e : closedO cs A with
  | none => rfl
  | some C =>
    have cA := zA.clo C e
    cases e2 : closedO cs L with
    | none =>
      have := (ZM.Dom.sub s).neg (zL.neg e2)
      exact absurd this cA.neg
    | some D =>
      have cL := zL.clo D e2
      refine List.all_eq_true.mpr fun t ht => (tighter_iff (zA.uq C e)).mpr ?_
      obtain ⟨v, w, hv⟩ := cL.d2 t ht
      have w' : ZM.W A t.1 t.2.1 v := w.mono fun t h => .one (s t h)
      have cl := ZM.ctab_cl hA (ZM.neg_false (ZM.negP_iff hA) cA.neg)
      obtain ⟨u, g, hu⟩ := (cl.walk hA.ne w').1 (cL.bok t ht).2.2
      refine ⟨u, ?_, by omega⟩
      have e' := e
      unfold closedO at e'
      by_cases n : ZM.negP (ZM.ctab (("" : Str) :: cs) A) = true
      · exact absurd ((ZM.negP_iff hA).mp n) cA.neg
      · rw [if_neg n] at e'
        rw [← Option.some.inj e', (sortT_perm _).mem_iff, ZM.mem_trs (ZM.ctab_inv hA).nod]
        exact g
theorem closed_dom {cs : List Str} {A B : List Tr} (hA : ZM.Bok (("" : Str) :: cs) A) (hB : ZM.Bok (("" : Str) :: cs) B) (d : ZM.Dom A B) (e : ZM.Dom B A) : closedO cs A = closedO cs B := by
  unfold closedO
  by_cases n : ZM.Neg A
  · rw [if_pos ((ZM.negP_iff hA).mpr n), if_pos ((ZM.negP_iff hB).mpr (e.neg n))]
  · rw [if_neg (fun z => n ((ZM.negP_iff hA).mp z)), if_neg (fun z => n (d.neg ((ZM.negP_iff hB).mp z)))]
    rw [sortT_uniq (ZM.dom_perm hA hB n d e)]
theorem closed_neg {cs : List Str} {A : List Tr} (hA : ZM.Bok (("" : Str) :: cs) A) (n : ZM.Neg A) : closedO cs A = none := by
  unfold closedO
  rw [if_pos ((ZM.negP_iff hA).mpr n)]
/-- far and one ask as much as one and other -/
theorem common_far {cs : List Str} {L M : List Tr} {p : Option (List Tr)} (hL : ZM.Bok (("" : Str) :: cs) L) (hM : ZM.Bok (("" : Str) :: cs) M) (k : Zn cs M p) : commonO cs p (some L) = closedO cs (L ++ M) := by
  cases p with
  | none => exact (closed_neg (bok_app hL hM) ((ZM.Dom.sub fun t h => List.mem_append_right _ h).neg (k.neg rfl))).symm
  | some F =>
    have c := k.clo F rfl
    refine closed_dom (bok_app c.bok hL) (bok_app hL hM) ?_ ?_
    · exact (c.d1.app (ZM.Dom.sub fun t h => h)).trans ZM.Dom.swap
    · exact ZM.Dom.swap.trans (c.d2.app (ZM.Dom.sub fun t h => h))
theorem common_both {cs : List Str} {L M : List Tr} {o p : Option (List Tr)} (hL : ZM.Bok (("" : Str) :: cs) L) (hM : ZM.Bok (("" : Str) :: cs) M) (h : Zn cs L o) (k : Zn cs M p) : commonO cs p o = closedO cs (L ++ M) := by
  cases o with
  | none =>
    have n : ZM.Neg (L ++ M) := (ZM.Dom.sub fun t h => List.mem_append_left _ h).neg (h.neg rfl)
    rw [closed_neg (bok_app hL hM) n]
    cases p <;> rfl
  | some N =>
    cases p with
    | none => exact (closed_neg (bok_app hL hM) ((ZM.Dom.sub fun t h => List.mem_append_right _ h).neg (k.neg rfl))).symm
    | some F =>
      have c := k.clo F rfl
      have c' := h.clo N rfl
      refine closed_dom (bok_app c.bok c'.bok) (bok_app hL hM) ?_ ?_
      · exact (c.d1.app c'.d1).trans ZM.Dom.swap
      · exact ZM.Dom.swap.trans (c.d2.app c'.d2)
/-- a zone and its bounds: rows of the one are the other's -/
def PairR (cs : List Str) (o p : Option (List Tr)) : Prop := (o = none ∧ ∀ Y, p = some Y → ZM.Neg Y) ∨ ∃ Z Y, o = some Z ∧ p = some Y ∧ ¬ ZM.Neg Z ∧ ¬ ZM.Neg Y ∧ ∀ r, inB cs r Y = true → inB cs r Z = true
theorem Zn.pair {cs : List Str} {L : List Tr} {o : Option (List Tr)} (h : Zn cs L o) : PairR cs o (some L) := by
  cases o with
  | none => exact .inl ⟨rfl, fun Y e => by cases e; exact h.neg rfl⟩
  | some Z =>
    have c := h.clo Z rfl
    exact .inr ⟨Z, L, rfl, rfl, fun n => c.neg (c.d2.neg n), c.neg, fun r hr => inB_iff.mpr (c.d2.row (inB_iff.mp hr))⟩
theorem join_dom {cs : List Str} {L M Z Y : List Tr} (h : Zn cs L (some Z)) (k : Zn cs M (some Y)) : ZM.Dom Z (joinL Z Y) ∧ ZM.Dom Y (joinL Z Y) := by
  refine ⟨fun t ht => ?_, fun t ht => ?_⟩
  · obtain ⟨u, v, h1, h2, h3⟩ := (join_mem (k.uq _ rfl)).mp (show (t.1, t.2.1, t.2.2) ∈ joinL Z Y from ht)
    exact ⟨u, .one h1, by omega⟩
  · obtain ⟨u, v, h1, h2, h3⟩ := (join_mem (k.uq _ rfl)).mp (show (t.1, t.2.1, t.2.2) ∈ joinL Z Y from ht)
    exact ⟨v, .one h2, by omega⟩
theorem pair_due {cs : List Str} {L M : List Tr} {o p : Option (List Tr)} (h : Zn cs L o) (k : Zn cs M p) : PairR cs (ljoinO o p) (ljoinO o p) := by
  have one : ∀ {L : List Tr} {Z : List Tr}, Zn cs L (some Z) → PairR cs (some Z) (some Z) := fun {L Z} h => by
    have c := h.clo Z rfl
    have n : ¬ ZM.Neg Z := fun n => c.neg (c.d2.neg n)
    exact .inr ⟨Z, Z, rfl, rfl, n, n, fun r hr => hr⟩
  cases o with
  | none =>
    cases p with
    | none => exact .inl ⟨rfl, fun Y e => by cases e⟩
    | some Y => exact one k
  | some Z =>
    cases p with
    | none => exact one h
    | some Y =>
      have c := h.clo Z rfl
      have n : ¬ ZM.Neg (joinL Z Y) := fun n => c.neg (c.d2.neg ((join_dom h k).1.neg n))
      exact .inr ⟨_, _, rfl, rfl, n, n, fun r hr => hr⟩
theorem due_ok {cs : List Str} {L M : List Tr} {o p : Option (List Tr)} (h : Zn cs L o) (k : Zn cs M p) : ∀ Z, ljoinO o p = some Z → ZM.Bok (("" : Str) :: cs) Z ∧ Z.length ≤ 16 := by
  intro D e
  cases o with
  | none => exact ⟨(k.clo D e).bok, (k.clo D e).len⟩
  | some Z =>
    cases p with
    | none => exact ⟨(h.clo D e).bok, (h.clo D e).len⟩
    | some Y =>
      have e := Option.some.inj e
      subst e
      refine ⟨fun t ht => ?_, ?_⟩
      · obtain ⟨u, v, h1, _⟩ := (join_mem (k.uq _ rfl)).mp (show (t.1, t.2.1, t.2.2) ∈ joinL Z Y from ht)
        exact (h.clo Z rfl).bok (t.1, t.2.1, u) h1
      · have := (h.clo Z rfl).len
        have := List.length_filterMap_le (fun t : Tr => (getT (tabL Y) (t.1, t.2.1)).map fun u => (t.1, t.2.1, max t.2.2 u)) Z
        unfold joinL
        omega
/-- a row of the one or the other is the joined zone's -/
theorem due_row {cs : List Str} {L M : List Tr} {o p : Option (List Tr)} (h : Zn cs L o) (k : Zn cs M p) {r : List Int} (hr : inB cs r L = true ∨ inB cs r M = true) : zoneB cs r (ljoinO o p) = true := by
  have row : ∀ {A : List Tr}, inB cs r A = true → ¬ ZM.Neg A := fun a n => n.row _ (inB_iff.mp a)
  cases o with
  | none =>
    cases p with
    | none =>
      rcases hr with hr | hr
      · exact absurd (h.neg rfl) (row hr)
      · exact absurd (k.neg rfl) (row hr)
    | some Y =>
      rcases hr with hr | hr
      · exact absurd (h.neg rfl) (row hr)
      · exact inB_iff.mpr ((k.clo Y rfl).d2.row (inB_iff.mp hr))
  | some Z =>
    cases p with
    | none =>
      rcases hr with hr | hr
      · exact inB_iff.mpr ((h.clo Z rfl).d2.row (inB_iff.mp hr))
      · exact absurd (k.neg rfl) (row hr)
    | some Y =>
      rcases hr with hr | hr
      · exact inB_iff.mpr ((join_dom h k).1.row ((h.clo Z rfl).d2.row (inB_iff.mp hr)))
      · exact inB_iff.mpr ((join_dom h k).2.row ((k.clo Y rfl).d2.row (inB_iff.mp hr)))
theorem both_row {cs : List Str} {L M : List Tr} (hL : ZM.Bok (nmL cs) L) (hM : ZM.Bok (nmL cs) M) (h3 : cs.length ≤ 3) (r : List Int) : zoneB cs r (tightO cs (L ++ M)) = (inB cs r L && inB cs r M) := by
  rw [zone_row (bok_app hL hM) h3]
  unfold inB
  rw [List.all_append]
theorem tight_closed {cs : List Str} {L : List Tr} (hO : ZM.Bok (nmL cs) L) : tightO cs L = closedO cs L := (closed_same hO fun _ => Iff.rfl).symm
end K92

/-! are two right -/
namespace K92
open PySem PySem.Spec PyProof.Rows L2
open ZM (getT putT)
abbrev s2r : Stmt := topS 81
abbrev n2r : List Str := ["deck", "columns", "one", "other", "near", "far", "due", "told", "both", "zone", "bounds", "row", "held"]
theorem sc2r : FnScope ["deck", "columns", "one", "other", "near", "far", "due", "told", "both", "zone", "bounds", "row", "held"] ["deck", "columns", "one", "other"] (defScope s2r) := ⟨rfl, rfl, rfl, by decide +kernel, rfl, by decide +kernel, by decide +kernel⟩
def kwI {α : Type} : List α → List α → List α
  | [], [b, c] => [b, c]
  | _, _ => []
def kwC {α : Type} : List α → List α → List α
  | [], [z, c, o] => [c, z, o]
  | _, _ => []
section
variable {P : Program} {w : World} {K : PySem.W.Frag} {mg : Str → Option Value} {base : Heap}
structure D2 (P : Program) (w : World) (K : PySem.W.Frag) (mg : Str → Option Value) (base : Heap) : Prop where
  draw : Cal P w K mg base "_law_draw" ["deck", "ways"] 1 spDraw
  ti : Cal P w K mg base "_law_tight" ["columns", "bounds"] 2 (spTi K)
  lj : Cal P w K mg base "_law_joined" ["columns", "zone", "other"] 1 spLj
  sm : ∀ n, Cal P w K mg base "_law_same" ["told", "due"] n (spSm n)
  jn : Cal P w K mg base "joined" ["zone", "other"] 1 spJn
  jnK : CalK P w K mg base "joined" ["zone", "other"] ["other", "zone"] kw2 1 spJn
  pt : Cal P w K mg base "is_part" ["zone", "other"] 1 spPt
  ptK : CalK P w K mg base "is_part" ["zone", "other"] ["zone", "other"] kwI 1 spPt
  lp : Cal P w K mg base "_law_is_part" ["zone", "other"] 1 spLp
  cm : Cal P w K mg base "common" ["columns", "zone", "other"] 3 (spCm K)
  cmK : CalK P w K mg base "common" ["columns", "zone", "other"] ["zone", "columns", "other"] kwC 3 (spCm K)
  mt : Cal P w K mg base "meeting" ["columns", "zone", "bounds"] 3 (spMt K)
  mtK : CalK P w K mg base "meeting" ["columns", "zone", "bounds"] ["bounds", "zone", "columns"] kwV 3 (spMt K)
  rw : Cal P w K mg base "row_in" ["columns", "zone"] 3 (spRw K)
  rwK : CalK P w K mg base "row_in" ["columns", "zone"] ["zone", "columns"] kw2 3 (spRw K)
  li : Cal P w K mg base "_law_is_row_in" ["columns", "zone", "row"] 3 spLi
  is : Cal P w K mg base "_law_is_in" ["columns", "bounds", "values"] 2 (spIs K)
  zn : Cal P w K mg base "is_in_zone" ["columns", "zone", "values"] 2 (spZn K)
def sp2r (K : PySem.W.Frag) : Sp := fun vs H Q _ => ∃ (d c a a1 a2 : Addr) (n : Nat) (cs : List Str) (L M : List Tr), vs = [.ref d, .ref a, .ref a1, .ref a2] ∧ Deck H d c n ∧ n + 300 < 2 ^ 40 ∧ Cols H a cs ∧ Nms cs ∧ Bds H a1 L ∧ Bds H a2 M ∧ Few cs 9 L ∧ Few cs 18 M ∧
  ∀ (m : Nat) H', Sm [d, c] H H' → Deck H' d c m → m ≤ n + 4 → Q (.bl true) H'
/-- what stands while two are looked at -/
structure S2 (H : Hp) (d c a a1 a2 : Addr) (cs : List Str) (L M : List Tr) (vn vf vd : V) (n : Nat) : Prop where
  deck : Deck H d c n
  cols : Cols H a cs
  b1 : Bds H a1 L
  b2 : Bds H a2 M
  near : BdsO H vn (closedO cs L)
  far : BdsO H vf (closedO cs M)
  due : BdsO H vd (ljoinO (closedO cs L) (closedO cs M))
theorem S2.sm {H H' : Hp} {d c a a1 a2 : Addr} {cs : List Str} {L M : List Tr} {vn vf vd : V} {n m : Nat} (S : S2 H d c a a1 a2 cs L M vn vf vd n) (s : Sm [d, c] H H') (D : Deck H' d c m) : S2 H' d c a a1 a2 cs L M vn vf vd m := by
  have k := s.kpD S.deck.nt
  exact ⟨D, S.cols.sm s (S.cols.out S.deck), S.b1.kp k, S.b2.kp k, S.near.kp k, S.far.kp k, S.due.kp k⟩
theorem S2.keep {H H' : Hp} {d c a a1 a2 : Addr} {cs : List Str} {L M : List Tr} {vn vf vd : V} {n : Nat} (S : S2 H d c a a1 a2 cs L M vn vf vd n) (s : Sm [] H H') : S2 H' d c a a1 a2 cs L M vn vf vd n := S.sm s.nil (S.deck.keep s)
def AlkL (H : Hp) (n : Nat) : List V → List V → Prop
  | [], [] => True
  | x :: xs, y :: ys => Alk H n x y ∧ AlkL H n xs ys
  | _, _ => False
theorem AlkL.len {H : Hp} {n : Nat} : ∀ {xs ys : List V}, AlkL H n xs ys → xs.length = ys.length
  | [], [], _ => rfl
  | _ :: _, _ :: _, h => congrArg (· + 1) (AlkL.len h.2)
  | [], _ :: _, h => h.elim
  | _ :: _, [], h => h.elim
theorem AlkL.get {H : Hp} {n : Nat} : ∀ {xs ys : List V} (i : Nat) {x y : V}, AlkL H n xs ys → xs[i]? = some x → ys[i]? = some y → Alk H n x y
  | [], [], _, _, _, _, h, _ => by simp at h
  | _ :: _, _ :: _, 0, _, _, a, h, k => by
    cases h
    cases k
    exact a.1
  | _ :: _, _ :: _, i + 1, _, _, a, h, k => AlkL.get i a.2 h k
  | [], _ :: _, _, _, _, a, _, _ => a.elim
  | _ :: _, [], _, _, _, a, _, _ => a.elim
theorem alk_lists {H : Hp} {a b : Addr} {xs ys : List V} {n : Nat} (ha : H a = some (.lst xs)) (hb : H b = some (.lst ys)) (h : AlkL H n xs ys) : Alk H (n + 1) (.ref a) (.ref b) :=
  .inr ⟨a, b, _, _, rfl, rfl, .inr ⟨ha, hb⟩, h.len, fun i _ _ h1 h2 => h.get i h1 h2⟩
/-- the row, either way -/
theorem rowz_rd {t : TT} {σ : L2.St} {H : Hp} {R : VK} {a : Addr} {x y : V} {cs : List Str} {o p : Option (List Tr)} (h1 : σ[1]? = some (some (.ref a))) (h9 : σ[9]? = some (some x)) (h10 : σ[10]? = some (some y)) (M : Hp → Prop) (ht : ∀ Q : Bool → Hp → Prop, (∀ b H', M H' → Q b H') → t σ H Q)
    (hC : Nms cs) (hS : ∀ H', M H' → Cols H' a cs ∧ BdsO H' x o ∧ BdsO H' y p) (oo : okO cs o) (op : okO cs p) (hP : PairR cs o p) (q : ∀ v H1 H', M H1 → Sm [] H1 H' → RowZ cs o H' v → R v H') :
    tIf t (tCall (spRw K) [] E0 (tCons (tVar 1) (tCons (tVar 9) tNil))) (tCallK (spRw K) kw2 E0 tNil (tCons (tVar 10) (tCons (tVar 1) tNil))) σ H R := by
  refine ht _ fun b H1 hM => ?_
  obtain ⟨c1, c2, c3⟩ := hS H1 hM
  have A : spRw K [.ref a, x] H1 R E0 := ⟨a, x, cs, o, rfl, c1.sq, hC.le, hC.nd, hC.full, c2, oo, fun v H' s h => q v H1 H' hM s (by
    rcases h with ⟨hn, rfl⟩ | ⟨Z, t, r, e, n, rfl, e1, e2, e3⟩
    · rcases hP with ⟨e, _⟩ | ⟨Z, Y, e, _, n, _⟩
      · exact .inl ⟨e, rfl⟩
      · exact absurd (hn Z e) n
    · exact .inr ⟨Z, t, r, e, rfl, e1, e2, e3⟩)⟩
  have B : spRw K [.ref a, y] H1 R E0 := ⟨a, y, cs, p, rfl, c1.sq, hC.le, hC.nd, hC.full, c3, op, fun v H' s h => q v H1 H' hM s (by
    rcases h with ⟨hn, rfl⟩ | ⟨Y, t, r, e, n, rfl, e1, e2, e3⟩
    · rcases hP with ⟨e, _⟩ | ⟨Z, Y, _, e, _, n, _⟩
      · exact .inl ⟨e, rfl⟩
      · exact absurd (hn Y e) n
    · rcases hP with ⟨_, hn⟩ | ⟨Z, Y', e', e'', _, _, sub⟩
      · exact absurd (hn Y e) n
      · rw [e] at e''
        obtain rfl := Option.some.inj e''
        exact .inr ⟨Z, t, r, e', rfl, e1, e2, sub r e3⟩)⟩
  cases b with
  | true => exact ⟨.ref a, h1, x, h9, A⟩
  | false => exact ⟨y, h10, .ref a, h1, B⟩
/-- a zone and bounds beside it -/
def PairAt (H : Hp) (cs : List Str) (v : V) : Prop := ∃ p x y o q, v = .ref p ∧ H p = some (.tup [x, y]) ∧ BdsO H x o ∧ BdsO H y q ∧ PairR cs o q ∧ okO cs o ∧ okO cs q
theorem PairAt.kp {H H' : Hp} {cs : List Str} {v : V} (h : PairAt H cs v) (k : Kp H H') : PairAt H' cs v := by
  obtain ⟨p, x, y, o, q, e, h1, h2, h3, r⟩ := h
  exact ⟨p, x, y, o, q, e, k _ _ h1, h2.kp k, h3.kp k, r⟩
theorem inV_true (b c : Bool) : inV (.bl true) [.bl b, .bl c] = (b || c) := by cases b <;> cases c <;> rfl
theorem inV_false (b c : Bool) : (!inV (.bl false) [.bl b, .bl c]) = (b && c) := by cases b <;> cases c <;> rfl
theorem ok_2r {f : Addr} {fd : FuncData} (F : Fun K "_law_are_two_right" "_law_are_two_right" s2r f fd) (B : Bn mg) (C : D2 P w K mg base) : FnOk P w K mg base CX0 5 f fd ["deck", "columns", "one", "other"] (sp2r K) := by
  refine F.ok sc2r (fun vs H Q E h => ?_) (fun cdv A outer s H vs Q E hr h => ?_)
  · obtain ⟨d, c, a, a1, a2, n, cs, L, M, rfl, _⟩ := h
    rfl
  · obtain ⟨d, c, a, a1, a2, n, cs, L, M, rfl, hD, hn, hA, hC, h1, h2, f1, f2, q⟩ := h
    have nd := sc2r.nd
    refine ⟨_, pss_cons (ps_par (i := 4) (j := 5) rfl nd rfl rfl (by decide) rfl rfl (pa_cons (pe_own (C.ti.mono (by decide)) hr (pa_cons (pv 1) (pa_cons (pv 2) pa_nil))) (pa_cons (pe_own (C.ti.mono (by decide)) hr (pa_cons (pv 1) (pa_cons (pv 3) pa_nil))) pa_nil)) (by rfl))
      (pss_cons (ps_set (i := 6) nd rfl (.inl rfl) (pe_own (C.lj.mono (by decide)) hr (pa_cons (pv 1) (pa_cons (pv 4) (pa_cons (pv 5) pa_nil)))))
      (pss_cons (ps_if (pt_not (pt_val (pe_own ((C.sm 4).mono (by decide)) hr (pa_cons (pe_lst (pa_cons (pe_own (C.jn.mono (by decide)) hr (pa_cons (pv 4) (pa_cons (pv 5) pa_nil))) (pa_cons (pe_ownC (C.jnK.mono (by decide)) hr (pk_cons (pv 4) (pk_cons (pv 5) pk_nil))) pa_nil)))
          (pa_cons (pe_lst (pa_cons (pv 6) (pa_cons (pv 6) pa_nil))) pa_nil))))) (pss_one (ps_ret pe_bl)) pss_nil)
      (pss_cons (ps_set (i := 7) nd rfl (.inl rfl) (pe_lst (pa_cons (pe_own (C.pt.mono (by decide)) hr (pa_cons (pv 4) (pa_cons (pv 5) pa_nil))) (pa_cons (pe_ownC (C.ptK.mono (by decide)) hr (pk_cons (pv 5) (pk_cons (pv 4) pk_nil)))
          (pa_cons (pe_own (C.pt.mono (by decide)) hr (pa_cons (pv 4) (pa_cons (pv 6) pa_nil))) (pa_cons (pe_own (C.pt.mono (by decide)) hr (pa_cons (pv 5) (pa_cons (pv 6) pa_nil))) pa_nil))))))
      (pss_cons (ps_if (pt_not (pt_val (pe_own ((C.sm 2).mono (by decide)) hr (pa_cons (pe_op op_cat (pv 7) (pe_lst (pa_cons (pe_own (C.pt.mono (by decide)) hr (pa_cons (pv 4) (pa_cons (pv 4) pa_nil))) pa_nil)))
          (pa_cons (pe_op op_cat (pe_lst (pa_cons (pe_own (C.lp.mono (by decide)) hr (pa_cons (pv 4) (pa_cons (pv 5) pa_nil))) (pa_cons (pe_own (C.lp.mono (by decide)) hr (pa_cons (pv 5) (pa_cons (pv 4) pa_nil))) pa_nil)))
            (pe_op op_rep (pe_lst (pa_cons pe_bl pa_nil)) pe_int)) pa_nil))))) (pss_one (ps_ret pe_bl)) pss_nil)
      (pss_cons (ps_set (i := 8) nd rfl (.inl rfl) (pe_own (C.ti.mono (by decide)) hr (pa_cons (pv 1) (pa_cons (pe_op op_catA (pv 2) (pv 3)) pa_nil))))
      (pss_cons (ps_set (i := 7) nd rfl (.inl rfl) (pe_lst (pa_cons (pe_own (C.cm.mono (by decide)) hr (pa_cons (pv 1) (pa_cons (pv 2) (pa_cons (pv 3) pa_nil)))) (pa_cons (pe_ownC (C.cmK.mono (by decide)) hr (pk_cons (pv 5) (pk_cons (pv 1) (pk_cons (pv 4) pk_nil))))
          (pa_cons (pe_own (C.mt.mono (by decide)) hr (pa_cons (pv 1) (pa_cons (pv 2) (pa_cons (pv 3) pa_nil)))) pa_nil)))))
      (pss_cons (ps_expr (pe_bm PySem.F.plainAttrs_list PySem.F.slot_list_append PySem.F.type_list_append mt_append (pv 7) (pa_cons (pe_ownC (C.mtK.mono (by decide)) hr (pk_cons (pv 2) (pk_cons (pv 5) (pk_cons (pv 1) pk_nil)))) pa_nil)))
      (pss_cons (ps_if (PW.pt (pw_or (pt_not (pt_val (pe_own ((C.sm 4).mono (by decide)) hr (pa_cons (pv 7) (pa_cons (pe_op op_rep (pe_lst (pa_cons (pv 8) pa_nil)) pe_int) pa_nil)))))
          (pw_or1 (pt_not (pt_val (pe_own ((C.sm 3).mono (by decide)) hr (pa_cons (pe_own (C.cm.mono (by decide)) hr (pa_cons (pv 1) (pa_cons pe_non (pa_cons (pv 2) pa_nil)))) (pa_cons pe_non pa_nil)))))))) (pss_one (ps_ret pe_bl)) pss_nil)
      (pss_cons (ps_if (pt_not (pt_val (pe_own ((C.sm 4).mono (by decide)) hr (pa_cons (pe_lst (pa_cons (pe_own (C.mt.mono (by decide)) hr (pa_cons (pv 1) (pa_cons pe_non (pa_cons (pv 2) pa_nil)))) (pa_cons (pe_own (C.jn.mono (by decide)) hr (pa_cons pe_non (pa_cons (pv 5) pa_nil)))
          (pa_cons (pe_own (C.jn.mono (by decide)) hr (pa_cons (pv 4) (pa_cons pe_non pa_nil))) pa_nil)))) (pa_cons (pe_lst (pa_cons pe_non (pa_cons (pv 5) (pa_cons (pv 4) pa_nil)))) pa_nil))))) (pss_one (ps_ret pe_bl)) pss_nil)
      (pss_cons (ps_set (i := 7) nd rfl (.inl rfl) (pe_lst (pa_cons (pe_own (C.pt.mono (by decide)) hr (pa_cons (pv 8) (pa_cons (pv 4) pa_nil))) (pa_cons (pe_own (C.pt.mono (by decide)) hr (pa_cons (pv 8) (pa_cons (pv 5) pa_nil)))
          (pa_cons (pe_own (C.pt.mono (by decide)) hr (pa_cons pe_non (pa_cons (pv 4) pa_nil))) (pa_cons (pe_own (C.pt.mono (by decide)) hr (pa_cons (pv 4) (pa_cons pe_non pa_nil))) pa_nil))))))
      (pss_cons (ps_if (pt_not (pt_val (pe_own ((C.sm 2).mono (by decide)) hr (pa_cons (pv 7) (pa_cons (pe_lst (pa_cons pe_bl (pa_cons pe_bl (pa_cons pe_bl (pa_cons (pe_cmpR op_isN (pv 4) pe_non (by first | exact nomark _ | rfl)) pa_nil))))) pa_nil))))) (pss_one (ps_ret pe_bl)) pss_nil)
      (pss_cons (ps_for PassesOwn.never rfl (pi_tup (pe_tup (pa_cons (pe_tup (pa_cons (pv 4) (pa_cons (pv 2) pa_nil))) (pa_cons (pe_tup (pa_cons (pv 5) (pa_cons (pv 3) pa_nil))) (pa_cons (pe_tup (pa_cons (pv 8) (pa_cons (pe_op op_catA (pv 2) (pv 3)) pa_nil))) (pa_cons (pe_tup (pa_cons (pv 6) (pa_cons (pv 6) pa_nil))) pa_nil))))))
          (pg_tup rfl (pgs_cons (pg_name (i := 9) nd rfl (.inl rfl)) (pgs_cons (pg_name (i := 10) nd rfl (.inl rfl)) pgs_nil)))
        (pss_cons (ps_set (i := 11) nd rfl (.inl rfl) (pe_ifExp (pt_cmpR op_eq (pe_own (C.draw.mono (by decide)) hr (pa_cons (pv 0) (pa_cons pe_int pa_nil))) pe_int (nomark _)) (pe_own (C.rw.mono (by decide)) hr (pa_cons (pv 1) (pa_cons (pv 9) pa_nil))) (pe_ownC (C.rwK.mono (by decide)) hr (pk_cons (pv 10) (pk_cons (pv 1) pk_nil)))))
        (pss_cons (ps_if (pt_not (pt_val (pe_own (C.li.mono (by decide)) hr (pa_cons (pv 1) (pa_cons (pv 9) (pa_cons (pv 11) pa_nil)))))) (pss_one (ps_ret pe_bl)) pss_nil)
        (pss_one (ps_if (pt_cmpR op_notN (pv 11) pe_non (nomark _))
          (pss_cons (ps_set (i := 12) nd rfl (.inl rfl) (pe_lst (pa_cons (pe_own (C.is.mono (by decide)) hr (pa_cons (pv 1) (pa_cons (pv 2) (pa_cons (pv 11) pa_nil)))) (pa_cons (pe_own (C.is.mono (by decide)) hr (pa_cons (pv 1) (pa_cons (pv 3) (pa_cons (pv 11) pa_nil)))) pa_nil))))
          (Evl.pss_cut (ps_if (PW.pt (pw_and (pt_cmpR op_in_seq pe_bl (pv 12) (by rfl)) (pw_and1 (pt_cmpR op_isnot_bl (pe_own (C.zn.mono (by decide)) hr (pa_cons (pv 1) (pa_cons (pv 6) (pa_cons (pv 11) pa_nil)))) pe_bl (nomark _))))) (pss_one (ps_ret pe_bl)) pss_nil)
          (pss_one (ps_if (pt_not (pt_val (pe_own ((C.sm 1).mono (by decide)) hr (pa_cons (pe_own (C.zn.mono (by decide)) hr (pa_cons (pv 1) (pa_cons (pv 8) (pa_cons (pv 11) pa_nil)))) (pa_cons (pe_cmpR op_notIn_seq pe_bl (pv 12) (by first | exact nomark _ | rfl)) pa_nil))))) (pss_one (ps_ret pe_bl)) pss_nil)))) pss_nil)))))
      (pss_one (ps_ret (pe_own ((C.sm 1).mono (by decide)) hr (pa_cons (pe_own (C.rw.mono (by decide)) hr (pa_cons (pv 1) (pa_cons pe_non pa_nil))) (pa_cons pe_non pa_nil))))))))))))))))), ?_⟩
    have hbL : ZM.Bok (("" : Str) :: cs) L := bok_iff.mp f1.bok
    have hbM : ZM.Bok (("" : Str) :: cs) M := bok_iff.mp f2.bok
    have zL : Zn cs L (closedO cs L) := zn_of hbL hC.le
    have zM : Zn cs M (closedO cs M) := zn_of hbM hC.le
    have dk := due_ok zL zM
    have df : few (ljoinO (closedO cs L) (closedO cs M)) := fun Z e => (dk Z e).2
    have l1 := f1.len
    have l2 := f2.len
    -- near, far, due
    refine ⟨.ref a, rfl, .ref a1, rfl, a, a1, cs, L, rfl, hA.sq, h1, f1.bok, hC.ne, hC.le, fun vn H1 s1 hn1 => ?_⟩
    refine ⟨.ref a, rfl, .ref a2, rfl, a, a2, cs, M, rfl, (hA.sm s1 (by simp)).sq, h2.kp s1.kp, f2.bok, hC.ne, hC.le, fun vf H2 s2 hf2 => ⟨_, _, rfl, ?_⟩⟩
    rw [tight_closed f1.bok] at hn1
    rw [tight_closed f2.bok] at hf2
    have hn2 := hn1.kp s2.kp
    refine ⟨.ref a, rfl, vn, rfl, vf, rfl, .ref a, vn, vf, _, _, rfl, hn2, hf2, zL.few, zM.few, fun vd H3 s3 hd3 => ?_⟩
    have s03 := (s1.trans s2).trans s3
    have S3 : S2 H3 d c a a1 a2 cs L M vn vf vd n := ⟨hD.keep s03, hA.sm s03 (by simp), h1.kp s03.kp, h2.kp s03.kp, hn2.kp s3.kp, hf2.kp s3.kp, hd3⟩
    clear hd3 hn2 hf2 hn1
    -- joined
    refine ⟨vn, rfl, vf, rfl, vn, vf, _, _, rfl, S3.near, S3.far, zL.few, zM.few, fun v4 H4 s4 h4 => ?_⟩
    have S4 := S3.keep s4
    refine ⟨vn, rfl, vf, rfl, vf, vn, _, _, rfl, S4.far, S4.near, zM.few, zL.few, fun v5 H5 s5 h5 => ⟨(by show 2 ≤ sizeLine; decide), fun p6 hp6 => ?_⟩⟩
    rw [join_one zL zM] at h4
    rw [join_two zL zM] at h5
    have s6 : Sm [] H5 (upd H5 p6 (.lst [v4, v5])) := Sm.refl.new hp6
    have e6 : (upd H5 p6 (.lst [v4, v5])) p6 = some (.lst [v4, v5]) := upd_same
    generalize upd H5 p6 (.lst [v4, v5]) = H6 at s6 e6
    refine ⟨vd, rfl, vd, rfl, (by show 2 ≤ sizeLine; decide), fun p7 hp7 => ?_⟩
    have s7 : Sm [] H6 (upd H6 p7 (.lst [vd, vd])) := Sm.refl.new hp7
    have e7 : (upd H6 p7 (.lst [vd, vd])) p7 = some (.lst [vd, vd]) := upd_same
    generalize upd H6 p7 (.lst [vd, vd]) = H7 at s7 e7
    have S7 := ((S4.keep s5).keep s6).keep s7
    have s57 := s6.trans s7
    have al : Alk H7 3 (.ref p6) (.ref p7) := alk_two (s7.keep e6) e7 (alk_bdsO (h4.kp (s5.trans s57).kp) S7.due) (alk_bdsO (h5.kp s57.kp) S7.due)
    refine ⟨.ref p6, .ref p7, 3, rfl, rfl, al, fun H8 s8 => ⟨_, rfl, ite2 (fun z => by cases z) fun _ => ?_⟩⟩
    have S8 := S7.keep s8
    have q08 : Sm [] H H8 := (((s03.trans s4).trans s5).trans s57).trans s8
    clear al e7 e6 h5 h4 S7 s7 s6 S4 S3 s5 s4 s57 s8 s03 s3 s2 s1
    -- is_part
    refine next_in ?_
    dsimp only
    refine ⟨vn, rfl, vf, rfl, vn, vf, _, _, rfl, S8.near, S8.far, zL.few, zM.few, fun H9 s9 => ?_⟩
    have S9 := S8.keep s9
    refine ⟨vf, rfl, vn, rfl, vf, vn, _, _, rfl, S9.far, S9.near, zM.few, zL.few, fun H10 s10 => ?_⟩
    have S10 := S9.keep s10
    refine ⟨vn, rfl, vd, rfl, vn, vd, _, _, rfl, S10.near, S10.due, zL.few, df, fun H11 s11 => ?_⟩
    have S11 := S10.keep s11
    refine ⟨vf, rfl, vd, rfl, vf, vd, _, _, rfl, S11.far, S11.due, zM.few, df, fun H12 s12 => ⟨(by show 4 ≤ sizeLine; decide), fun p13 hp13 => ?_⟩⟩
    rw [part_join1 zL zM, part_join2 zL zM]
    have S12 := S11.keep s12
    have s13 : Sm [] H12 (upd H12 p13 (.lst [.bl (partB (closedO cs L) (closedO cs M)), .bl (partB (closedO cs M) (closedO cs L)), .bl true, .bl true])) := Sm.refl.new hp13
    have e13 : (upd H12 p13 (.lst [.bl (partB (closedO cs L) (closedO cs M)), .bl (partB (closedO cs M) (closedO cs L)), .bl true, .bl true])) p13 = some (.lst [.bl (partB (closedO cs L) (closedO cs M)), .bl (partB (closedO cs M) (closedO cs L)), .bl true, .bl true]) := upd_same
    generalize upd H12 p13 (.lst [.bl (partB (closedO cs L) (closedO cs M)), .bl (partB (closedO cs M) (closedO cs L)), .bl true, .bl true]) = H13 at s13 e13
    have S13 := S12.keep s13
    have q13 : Sm [] H H13 := ((((q08.trans s9).trans s10).trans s11).trans s12).trans s13
    clear q08 S12 S11 S10 S9 S8 s9 s10 s11 s12 s13
    -- told + [..]
    refine ⟨.ref p13, rfl, vn, rfl, vn, rfl, vn, vn, _, _, rfl, S13.near, S13.near, zL.few, zL.few, fun H14 s14 => ⟨(by show 1 ≤ sizeLine; decide), fun p15 hp15 => ?_⟩⟩
    rw [part_self zL.uq]
    have S14 := S13.keep s14
    have s15 : Sm [] H14 (upd H14 p15 (.lst [.bl true])) := Sm.refl.new hp15
    have e15 : (upd H14 p15 (.lst [.bl true])) p15 = some (.lst [.bl true]) := upd_same
    generalize upd H14 p15 (.lst [.bl true]) = H15 at s15 e15
    refine ⟨p13, p15, _, _, rfl, rfl, s15.keep (s14.keep e13), e15, (by show 5 ≤ sizeLine; decide), fun p16 hp16 => ?_⟩
    have s16 : Sm [] H15 (upd H15 p16 (.lst ([partB (closedO cs L) (closedO cs M), partB (closedO cs M) (closedO cs L), true, true, true].map V.bl))) := Sm.refl.new hp16
    have e16 : (upd H15 p16 (.lst ([partB (closedO cs L) (closedO cs M), partB (closedO cs M) (closedO cs L), true, true, true].map V.bl))) p16 = some (.lst ([partB (closedO cs L) (closedO cs M), partB (closedO cs M) (closedO cs L), true, true, true].map V.bl)) := upd_same
    generalize hH16 : upd H15 p16 (.lst ([partB (closedO cs L) (closedO cs M), partB (closedO cs M) (closedO cs L), true, true, true].map V.bl)) = H16 at s16 e16
    have hH16' : upd H15 p16 (.lst ([.bl (partB (closedO cs L) (closedO cs M)), .bl (partB (closedO cs M) (closedO cs L)), .bl true, .bl true] ++ [.bl true])) = H16 := hH16
    rw [hH16']
    have S16 := ((S13.keep s14).keep s15).keep s16
    refine ⟨vn, rfl, vf, rfl, vn, vf, _, _, rfl, S16.near, S16.far, zL.few, zM.few, fun H17 s17 => ?_⟩
    have S17 := S16.keep s17
    refine ⟨vf, rfl, vn, rfl, vf, vn, _, _, rfl, S17.far, S17.near, zM.few, zL.few, fun H18 s18 => ⟨(by show 2 ≤ sizeLine; decide), fun p19 hp19 => ?_⟩⟩
    have s19 : Sm [] H18 (upd H18 p19 (.lst [.bl (partB (closedO cs L) (closedO cs M)), .bl (partB (closedO cs M) (closedO cs L))])) := Sm.refl.new hp19
    have e19 : (upd H18 p19 (.lst [.bl (partB (closedO cs L) (closedO cs M)), .bl (partB (closedO cs M) (closedO cs L))])) p19 = some (.lst [.bl (partB (closedO cs L) (closedO cs M)), .bl (partB (closedO cs M) (closedO cs L))]) := upd_same
    generalize upd H18 p19 (.lst [.bl (partB (closedO cs L) (closedO cs M)), .bl (partB (closedO cs M) (closedO cs L))]) = H19 at s19 e19
    refine ⟨(by show 1 ≤ sizeLine; decide), fun p20 hp20 => ?_⟩
    have s20 : Sm [] H19 (upd H19 p20 (.lst [.bl true])) := Sm.refl.new hp20
    have e20 : (upd H19 p20 (.lst [.bl true])) p20 = some (.lst [.bl true]) := upd_same
    generalize upd H19 p20 (.lst [.bl true]) = H20 at s20 e20
    refine ⟨p20, 3, _, rfl, rfl, e20, by decide, by decide, (by show 1 * 3 ≤ sizeLine; decide), fun p21 hp21 => ?_⟩
    have s21 : Sm [] H20 (upd H20 p21 (.lst (List.replicate (3 : Int).toNat [V.bl true]).flatten)) := Sm.refl.new hp21
    have e21 : (upd H20 p21 (.lst (List.replicate (3 : Int).toNat [V.bl true]).flatten)) p21 = some (.lst [.bl true, .bl true, .bl true]) := upd_same
    generalize upd H20 p21 (.lst (List.replicate (3 : Int).toNat [V.bl true]).flatten) = H21 at s21 e21
    refine ⟨p19, p21, _, _, rfl, rfl, s21.keep (s20.keep e19), e21, (by show 5 ≤ sizeLine; decide), fun p22 hp22 => ?_⟩
    have s22 : Sm [] H21 (upd H21 p22 (.lst ([.bl (partB (closedO cs L) (closedO cs M)), .bl (partB (closedO cs M) (closedO cs L))] ++ [.bl true, .bl true, .bl true]))) := Sm.refl.new hp22
    have e22 : (upd H21 p22 (.lst ([.bl (partB (closedO cs L) (closedO cs M)), .bl (partB (closedO cs M) (closedO cs L))] ++ [.bl true, .bl true, .bl true]))) p22 = some (.lst ([partB (closedO cs L) (closedO cs M), partB (closedO cs M) (closedO cs L), true, true, true].map V.bl)) := upd_same
    generalize upd H21 p22 (.lst ([.bl (partB (closedO cs L) (closedO cs M)), .bl (partB (closedO cs M) (closedO cs L))] ++ [.bl true, .bl true, .bl true])) = H22 at s22 e22
    have r22 : Sm [] H16 H22 := ((((s17.trans s18).trans s19).trans s20).trans s21).trans s22
    refine ⟨.ref p16, .ref p22, 1, rfl, rfl, alk_bls (r22.keep e16) e22, fun H23 s23 => ⟨_, rfl, ite2 (fun z => by cases z) fun _ => ?_⟩⟩
    have S23 := (S16.keep r22).keep s23
    have q23 : Sm [] H H23 := ((((q13.trans s14).trans s15).trans s16).trans r22).trans s23
    clear q13 r22 e22 s22 e21 s21 e20 s20 e19 s19 s18 s17 S17 S16 hH16 hH16' e16 s16 s15 s14 e15 S14 S13 s23
    -- both
    refine next_in ?_
    dsimp only
    refine ⟨.ref a, rfl, .ref a1, rfl, .ref a2, rfl, cat_rd S23.b1 S23.b2 (by omega) fun t24 H24 s24 ht24 => ?_⟩
    refine ⟨a, t24, cs, L ++ M, rfl, (S23.cols.sm s24 (by simp)).sq, ht24, bok_app f1.bok f2.bok, hC.ne, hC.le, fun vb H25 s25 hb => ?_⟩
    rw [tight_closed (bok_app f1.bok f2.bok)] at hb
    have S25 := (S23.keep s24).keep s25
    have q25 := (q23.trans s24).trans s25
    have hbLM : ZM.Bok (("" : Str) :: cs) (L ++ M) := bok_app hbL hbM
    have zB : Zn cs (L ++ M) (closedO cs (L ++ M)) := zn_of hbLM hC.le
    have oL : okO cs (some L) := fun Z e => by cases e; exact ⟨hbL, by omega⟩
    have oM : okO cs (some M) := fun Z e => by cases e; exact ⟨hbM, by omega⟩
    clear s25 ht24 s24 S23 q23
    have one : ∀ {H' : Hp}, Sm [] H25 H' → BdsO H' (.ref a1) (some L) := fun s => .inr ⟨L, a1, rfl, rfl, S25.b1.kp s.kp⟩
    have two : ∀ {H' : Hp}, Sm [] H25 H' → BdsO H' (.ref a2) (some M) := fun s => .inr ⟨M, a2, rfl, rfl, S25.b2.kp s.kp⟩
    -- common, meeting
    refine ⟨.ref a, rfl, .ref a1, rfl, .ref a2, rfl, a, .ref a1, .ref a2, cs, some L, some M, rfl, S25.cols.sq, hC.le, one Sm.refl, two Sm.refl, oL, oM, fun v26 H26 s26 h26 => ?_⟩
    have S26 := S25.keep s26
    refine ⟨vf, rfl, .ref a, rfl, vn, rfl, a, vf, vn, cs, _, _, rfl, S26.cols.sq, hC.le, S26.far, S26.near, zM.okO, zL.okO, fun v27 H27 s27 h27 => ?_⟩
    rw [common_both hbL hbM zL zM] at h27
    have S27 := S26.keep s27
    refine ⟨.ref a, rfl, .ref a1, rfl, .ref a2, rfl, a, a2, .ref a1, cs, some L, M, rfl, S27.cols.sq, hC.le, one (s26.trans s27), S27.b2, oL, oM, fun v28 H28 s28 h28 => ⟨(by show 3 ≤ sizeLine; decide), fun p29 hp29 => ?_⟩⟩
    have r28 : Sm [] H25 H28 := (s26.trans s27).trans s28
    have f29 : H25 p29 = none := r28.free hp29 (by simp)
    have s29 : Sm [] H28 (upd H28 p29 (.lst [v26, v27, v28])) := Sm.refl.new hp29
    have e29 : (upd H28 p29 (.lst [v26, v27, v28])) p29 = some (.lst [v26, v27, v28]) := upd_same
    generalize upd H28 p29 (.lst [v26, v27, v28]) = H29 at s29 e29
    have S29 := (S27.keep s28).keep s29
    refine ⟨.ref p29, rfl, .inl ⟨rfl, _, SqL.of e29⟩, .ref a1, rfl, vf, rfl, .ref a, rfl, a, a1, vf, cs, _, L, rfl, S29.cols.sq, hC.le, S29.far, S29.b1, zM.okO, oL, fun v30 H30 s30 h30 => ?_⟩
    rw [common_far hbL hbM zM] at h30
    have e30 := s30.keep e29
    refine ⟨p29, _, _, rfl, rfl, e30, (by show 3 < sizeLine; decide), ?_⟩
    have r31 : Sm [] H25 (upd H30 p29 (.lst ([v26, v27, v28] ++ [v30]))) := ((r28.trans s29).trans s30).own f29
    have e31 : (upd H30 p29 (.lst ([v26, v27, v28] ++ [v30]))) p29 = some (.lst [v26, v27, v28, v30]) := upd_same
    have k31 : Kp H30 (upd H30 p29 (.lst ([v26, v27, v28] ++ [v30]))) := list_kp e30
    generalize upd H30 p29 (.lst ([v26, v27, v28] ++ [v30])) = H31 at r31 e31 k31
    have k28 : Kp H28 H31 := (s29.trans s30).kp.trans k31
    have g26 : BdsO H31 v26 (closedO cs (L ++ M)) := (BdsO.kp h26 (s27.trans s28).kp).kp k28
    have g27 := (h27.kp s28.kp).kp k28
    have g28 : BdsO H31 v28 (closedO cs (L ++ M)) := BdsO.kp h28 k28
    have g30 := h30.kp k31
    clear h26 h27 h28 h30 k28 k31 e30 s30 S29 e29 s29 r28 s28 S27 s27 S26 s26
    refine next_in ?_
    dsimp only
    refine ⟨.ref p29, rfl, vb, rfl, (by show 1 ≤ sizeLine; decide), fun p32 hp32 => ?_⟩
    have s32 : Sm [] H31 (upd H31 p32 (.lst [vb])) := Sm.refl.new hp32
    have e32 : (upd H31 p32 (.lst [vb])) p32 = some (.lst [vb]) := upd_same
    generalize upd H31 p32 (.lst [vb]) = H32 at s32 e32
    refine ⟨p32, 4, _, rfl, rfl, e32, by decide, by decide, (by show 1 * 4 ≤ sizeLine; decide), fun p33 hp33 => ?_⟩
    have s33 : Sm [] H32 (upd H32 p33 (.lst (List.replicate (4 : Int).toNat [vb]).flatten)) := Sm.refl.new hp33
    have e33 : (upd H32 p33 (.lst (List.replicate (4 : Int).toNat [vb]).flatten)) p33 = some (.lst [vb, vb, vb, vb]) := upd_same
    generalize upd H32 p33 (.lst (List.replicate (4 : Int).toNat [vb]).flatten) = H33 at s33 e33
    have s3133 := s32.trans s33
    have k33 := s3133.kp
    have b33 := hb.kp (r31.trans s3133).kp
    refine ⟨.ref p29, .ref p33, 3, rfl, rfl, alk_lists (s3133.keep e31) e33 ⟨alk_bdsO (g26.kp k33) b33, alk_bdsO (g27.kp k33) b33, alk_bdsO (g28.kp k33) b33, alk_bdsO (g30.kp k33) b33, trivial⟩, fun H34 s34 => ⟨_, rfl, ite2 (fun z => by cases z) fun _ => ?_⟩⟩
    have r34 : Sm [] H25 H34 := (r31.trans s3133).trans s34
    have S34 := S25.keep r34
    refine ⟨.ref a, rfl, .ref a1, rfl, a, .non, .ref a1, cs, none, some L, rfl, S34.cols.sq, hC.le, .inl ⟨rfl, rfl⟩, one r34, (fun Z e => by cases e), oL, fun v35 H35 s35 h35 => ?_⟩
    rcases h35 with ⟨_, rfl⟩ | ⟨_, _, z, _⟩
    rotate_left
    · cases z
    refine ⟨.non, .non, 2, rfl, rfl, .inl ⟨rfl, rfl⟩, fun H36 s36 => ⟨_, rfl, ite2 (fun z => by cases z) fun _ => ?_⟩⟩
    have r36 : Sm [] H25 H36 := (r34.trans s35).trans s36
    clear s36 s35 S34 r34 s34 b33 k33 s3133 e33 s33 e32 s32 g26 g27 g28 g30 e31 r31
    -- none of them
    refine next_in ?_
    dsimp only
    have S36 := S25.keep r36
    refine ⟨.ref a, rfl, .ref a1, rfl, a, a1, .non, cs, none, L, rfl, S36.cols.sq, hC.le, .inl ⟨rfl, rfl⟩, S36.b1, (fun Z e => by cases e), oL, fun v37 H37 s37 h37 => ?_⟩
    rcases h37 with ⟨_, rfl⟩ | ⟨_, _, z, _⟩
    rotate_left
    · cases z
    have S37 := S36.keep s37
    refine ⟨vf, rfl, .non, vf, none, _, rfl, .inl ⟨rfl, rfl⟩, S37.far, (fun Z e => by cases e), zM.few, fun v38 H38 s38 h38 => ?_⟩
    have S38 := S37.keep s38
    refine ⟨vn, rfl, vn, .non, _, none, rfl, S38.near, .inl ⟨rfl, rfl⟩, zL.few, (fun Z e => by cases e), fun v39 H39 s39 h39 => ⟨(by show 3 ≤ sizeLine; decide), fun p40 hp40 => ?_⟩⟩
    have jn0 : joinO (closedO cs L) none = closedO cs L := by cases closedO cs L <;> rfl
    rw [jn0] at h39
    have h38 : BdsO H38 v38 (closedO cs M) := h38
    have s40 : Sm [] H39 (upd H39 p40 (.lst [.non, v38, v39])) := Sm.refl.new hp40
    have e40 : (upd H39 p40 (.lst [.non, v38, v39])) p40 = some (.lst [.non, v38, v39]) := upd_same
    generalize upd H39 p40 (.lst [.non, v38, v39]) = H40 at s40 e40
    refine ⟨vf, rfl, vn, rfl, (by show 3 ≤ sizeLine; decide), fun p41 hp41 => ?_⟩
    have s41 : Sm [] H40 (upd H40 p41 (.lst [.non, vf, vn])) := Sm.refl.new hp41
    have e41 : (upd H40 p41 (.lst [.non, vf, vn])) p41 = some (.lst [.non, vf, vn]) := upd_same
    generalize upd H40 p41 (.lst [.non, vf, vn]) = H41 at s41 e41
    have s3941 := s40.trans s41
    have S41 := (S38.keep s39).keep s3941
    refine ⟨.ref p40, .ref p41, 3, rfl, rfl, alk_lists (s41.keep e40) e41 ⟨.inl ⟨rfl, rfl⟩, alk_bdsO (h38.kp (s39.trans s3941).kp) S41.far, alk_bdsO (h39.kp s3941.kp) S41.near, trivial⟩, fun H42 s42 => ⟨_, rfl, ite2 (fun z => by cases z) fun _ => ?_⟩⟩
    have r42 : Sm [] H25 H42 := ((((r36.trans s37).trans s38).trans s39).trans s3941).trans s42
    clear h39 h38 s42 S41 s3941 e41 s41 e40 s40 s39 S38 s38 S37 s37 S36 r36
    -- parts
    refine next_in ?_
    dsimp only
    have S42 := S25.keep r42
    have b42 : BdsO H42 vb (closedO cs (L ++ M)) := hb.kp r42.kp
    refine ⟨vb, rfl, vn, rfl, vb, vn, _, _, rfl, b42, S42.near, zB.few, zL.few, fun H43 s43 => ?_⟩
    have S43 := S42.keep s43
    refine ⟨vb, rfl, vf, rfl, vb, vf, _, _, rfl, b42.kp s43.kp, S43.far, zB.few, zM.few, fun H44 s44 => ?_⟩
    have S44 := S43.keep s44
    refine ⟨vn, rfl, .non, vn, none, _, rfl, .inl ⟨rfl, rfl⟩, S44.near, (fun Z e => by cases e), zL.few, fun H45 s45 => ?_⟩
    have S45 := S44.keep s45
    refine ⟨vn, rfl, vn, .non, _, none, rfl, S45.near, .inl ⟨rfl, rfl⟩, zL.few, (fun Z e => by cases e), fun H46 s46 => ⟨(by show 4 ≤ sizeLine; decide), fun p47 hp47 => ?_⟩⟩
    rw [part_clo hbLM hbL hC.le (fun t h => List.mem_append_left _ h), part_clo hbLM hbM hC.le (fun t h => List.mem_append_right _ h)]
    have pn : partB none (closedO cs L) = true := rfl
    rw [pn]
    have nn : partB (closedO cs L) none = decide (vn = .non) := by
      rcases S45.near with ⟨e, rfl⟩ | ⟨Z, z, e, rfl, _⟩
      · rw [e]
        rfl
      · rw [e]
        exact (decide_eq_false (by simp)).symm
    rw [nn]
    have s47 : Sm [] H46 (upd H46 p47 (.lst ([true, true, true, decide (vn = .non)].map V.bl))) := Sm.refl.new hp47
    have e47 : (upd H46 p47 (.lst ([true, true, true, decide (vn = .non)].map V.bl))) p47 = some (.lst ([true, true, true, decide (vn = .non)].map V.bl)) := upd_same
    generalize hH47 : upd H46 p47 (.lst ([true, true, true, decide (vn = .non)].map V.bl)) = H47 at s47 e47
    have hH47' : upd H46 p47 (.lst [.bl true, .bl true, .bl true, .bl (decide (vn = .non))]) = H47 := hH47
    rw [hH47']
    refine next_in ?_
    dsimp only
    refine ⟨.ref p47, rfl, vn, rfl, rfl, (by show 4 ≤ sizeLine; decide), fun p48 hp48 => ?_⟩
    have s48 : Sm [] H47 (upd H47 p48 (.lst [.bl true, .bl true, .bl true, .bl (decide (vn = .non))])) := Sm.refl.new hp48
    have e48 : (upd H47 p48 (.lst [.bl true, .bl true, .bl true, .bl (decide (vn = .non))])) p48 = some (.lst ([true, true, true, decide (vn = .non)].map V.bl)) := upd_same
    generalize upd H47 p48 (.lst [.bl true, .bl true, .bl true, .bl (decide (vn = .non))]) = H48 at s48 e48
    refine ⟨.ref p47, .ref p48, 1, rfl, rfl, alk_bls (s48.keep e47) e48, fun H49 s49 => ⟨_, rfl, ite2 (fun z => by cases z) fun _ => ?_⟩⟩
    have r49 : Sm [] H25 H49 := ((((((r42.trans s43).trans s44).trans s45).trans s46).trans s47).trans s48).trans s49
    clear hH47 hH47' e48 s48 e47 s47 s49 nn pn S45 S44 S43 S42 b42 s46 s45 s44 s43 r42
    have S49 := S25.keep r49
    have q49 := q25.trans r49
    have b49 : BdsO H49 vb (closedO cs (L ++ M)) := hb.kp r49.kp
    clear r49 one two hb S25 q25
    -- the rows
    refine next_in ?_
    dsimp only
    refine ⟨vn, rfl, .ref a1, rfl, (by show 2 ≤ sizeLine; decide), fun t50 ht50 => ?_⟩
    have s50 : Sm [] H49 (upd H49 t50 (.tup [vn, .ref a1])) := Sm.refl.new ht50
    have e50 : (upd H49 t50 (.tup [vn, .ref a1])) t50 = some (.tup [vn, .ref a1]) := upd_same
    generalize upd H49 t50 (.tup [vn, .ref a1]) = H50 at s50 e50
    refine ⟨vf, rfl, .ref a2, rfl, (by show 2 ≤ sizeLine; decide), fun t51 ht51 => ?_⟩
    have s51 : Sm [] H50 (upd H50 t51 (.tup [vf, .ref a2])) := Sm.refl.new ht51
    have e51 : (upd H50 t51 (.tup [vf, .ref a2])) t51 = some (.tup [vf, .ref a2]) := upd_same
    generalize upd H50 t51 (.tup [vf, .ref a2]) = H51 at s51 e51
    have S51 := (S49.keep s50).keep s51
    refine ⟨vb, rfl, .ref a1, rfl, .ref a2, rfl, cat_rd S51.b1 S51.b2 (by omega) fun t52 H52 s52 ht52' => ⟨(by show 2 ≤ sizeLine; decide), fun t53 ht53 => ?_⟩⟩
    have s53 : Sm [] H52 (upd H52 t53 (.tup [vb, .ref t52])) := Sm.refl.new ht53
    have e53 : (upd H52 t53 (.tup [vb, .ref t52])) t53 = some (.tup [vb, .ref t52]) := upd_same
    generalize upd H52 t53 (.tup [vb, .ref t52]) = H53 at s53 e53
    refine ⟨vd, rfl, vd, rfl, (by show 2 ≤ sizeLine; decide), fun t54 ht54 => ?_⟩
    have s54 : Sm [] H53 (upd H53 t54 (.tup [vd, vd])) := Sm.refl.new ht54
    have e54 : (upd H53 t54 (.tup [vd, vd])) t54 = some (.tup [vd, vd]) := upd_same
    generalize upd H53 t54 (.tup [vd, vd]) = H54 at s54 e54
    refine ⟨(by show 4 ≤ sizeLine; decide), fun t55 ht55 => ?_⟩
    have s55 : Sm [] H54 (upd H54 t55 (.tup [.ref t50, .ref t51, .ref t53, .ref t54])) := Sm.refl.new ht55
    have e55 : (upd H54 t55 (.tup [.ref t50, .ref t51, .ref t53, .ref t54])) t55 = some (.tup [.ref t50, .ref t51, .ref t53, .ref t54]) := upd_same
    generalize upd H54 t55 (.tup [.ref t50, .ref t51, .ref t53, .ref t54]) = H55 at s55 e55
    have s5155 := ((s52.trans s53).trans s54).trans s55
    have S55 := S51.keep s5155
    have b55 := b49.kp ((s50.trans s51).trans s5155).kp
    have q55 := ((q49.trans s50).trans s51).trans s5155
    have oLM : okO cs (some (L ++ M)) := fun Z e => by cases e; exact ⟨hbLM, by rw [List.length_append]; omega⟩
    have oD : okO cs (ljoinO (closedO cs L) (closedO cs M)) := fun Z e => ⟨(dk Z e).1, by have := (dk Z e).2; omega⟩
    have pairs : ∀ v ∈ [V.ref t50, .ref t51, .ref t53, .ref t54], PairAt H55 cs v := fun v hv => by
      simp only [List.mem_cons, List.not_mem_nil, or_false] at hv
      rcases hv with rfl | rfl | rfl | rfl
      · exact ⟨t50, vn, .ref a1, _, some L, rfl, s5155.keep (s51.keep e50), S55.near, .inr ⟨L, a1, rfl, rfl, S55.b1⟩, zL.pair, zL.okO, oL⟩
      · exact ⟨t51, vf, .ref a2, _, some M, rfl, s5155.keep e51, S55.far, .inr ⟨M, a2, rfl, rfl, S55.b2⟩, zM.pair, zM.okO, oM⟩
      · exact ⟨t53, vb, .ref t52, _, some (L ++ M), rfl, s55.keep (s54.keep e53), b55, .inr ⟨L ++ M, t52, rfl, rfl, ht52'.kp ((s53.trans s54).trans s55).kp⟩, zB.pair, zB.okO, oLM⟩
      · exact ⟨t54, vd, vd, _, _, rfl, s55.keep e54, S55.due, S55.due, pair_due zL zM, oD, oD⟩
    clear s5155 s55 e54 s54 e53 s53 ht52' s52 S51 e51 s51 e50 s50 q49 b49 S49
    refine ⟨t55, rfl, ⟨_, SqT.of e55⟩, for_tup (xs := [V.ref t50, .ref t51, .ref t53, .ref t54]) (fun i σ H' => ∃ (y9 y10 y11 y12 : Option V), σ = [some (.ref d), some (.ref a), some (.ref a1), some (.ref a2), some vn, some vf, some vd, some (.ref p47), some vb, y9, y10, y11, y12] ∧ Sm [d, c] H55 H' ∧ Deck H' d c (n + i)) ?_ ?_ ?_ ?_⟩
    · exact ⟨_, _, _, _, rfl, Sm.refl, S55.deck⟩
    · rintro i σ H' _ ⟨y9, y10, y11, y12, rfl, s, _⟩
      exact SqT.of (s.kpD S55.deck.nt _ _ e55)
    · rintro i x σ H1 hx ⟨y9, y10, y11, y12, rfl, s1, D1⟩
      have i4 : i < 4 := (List.getElem?_eq_some_iff.mp hx).1
      have S1 := S55.sm s1 D1
      have k1 := s1.kpD S55.deck.nt
      obtain ⟨p, x, y, o, q', rfl, hp, hx1, hy1, hP, oo, oq⟩ := (pairs x (List.mem_of_getElem? hx)).kp k1
      refine ⟨p, _, rfl, SqT.of hp, rfl, _, _, rfl, _, _, rfl, rfl, ?_⟩
      refine seq_in (asg_in ?_)
      refine rowz_rd (a := a) (x := x) (y := y) (cs := cs) (o := o) (p := q') rfl rfl rfl (fun H' => Sm [d, c] H1 H' ∧ Deck H' d c (n + i + 1)) (fun Q hQ => ?_) hC (fun H' hM => ?_) oo oq hP fun v H2 H3 hM s3 hv => ?_
      · exact ⟨.ref d, rfl, d, c, n + i, 2, rfl, D1, by omega, by omega, by omega, fun r H2 r0 r1 s2 D2 => ⟨rfl, _, rfl, hQ _ H2 ⟨s2, D2⟩⟩⟩
      · have k := hM.1.kpD S1.deck.nt
        exact ⟨S1.cols.sm hM.1 (S1.cols.out S1.deck), hx1.kp k, hy1.kp k⟩
      obtain ⟨s2, D2⟩ := hM
      have S3 := (S1.sm s2 D2).keep s3
      have s13 := (s1.trans s2).trans s3.nil
      have k13 : Kp H1 H3 := (s2.kpD D1.nt).trans s3.kp
      refine ⟨.ref a, rfl, x, rfl, v, rfl, a, x, v, cs, o, rfl, S3.cols, hC.le, hx1.kp k13, (fun Z e => (oo Z e).1), hv, fun H4 s4 => ⟨_, rfl, ite2 (fun z => by cases z) fun _ => ?_⟩⟩
      have S4 := S3.keep s4
      have s14 := s13.trans s4.nil
      have k14 := (k1.trans k13).trans s4.kp
      rcases hv with ⟨_, rfl⟩ | ⟨Z, t, r, rfl, rfl, ht, hl, hin⟩
      · exact ⟨.non, rfl, rfl, _, rfl, ite2 (fun w => by simp at w) fun _ => ⟨_, _, _, _, rfl, s14, S4.deck⟩⟩
      refine ⟨.ref t, rfl, rfl, _, rfl, ite2 (fun _ => ?_) (fun w => absurd (by simp) w)⟩
      have ht4 := s4.keep ht
      refine ⟨.ref a, rfl, .ref a1, rfl, .ref t, rfl, a, a1, t, cs, r, L, rfl, S4.cols, S4.b1, ht4, hl.symm, hbL, ?_⟩
      refine ⟨.ref a, rfl, .ref a2, rfl, .ref t, rfl, a, a2, t, cs, r, M, rfl, S4.cols, S4.b2, ht4, hl.symm, hbM, (by show 2 ≤ sizeLine; decide), fun ph hph => ?_⟩
      have s5 : Sm [] H4 (upd H4 ph (.lst [.bl (inB cs r L), .bl (inB cs r M)])) := Sm.refl.new hph
      have e5 : (upd H4 ph (.lst [.bl (inB cs r L), .bl (inB cs r M)])) ph = some (.lst [.bl (inB cs r L), .bl (inB cs r M)]) := upd_same
      generalize upd H4 ph (.lst [.bl (inB cs r L), .bl (inB cs r M)]) = H5 at s5 e5
      have S5 := S4.keep s5
      refine ⟨fun σ' H' => σ' = [some (.ref d), some (.ref a), some (.ref a1), some (.ref a2), some vn, some vf, some vd, some (.ref p47), some vb, some x, some y, some (.ref t), some (.ref ph)] ∧ Sm [] H5 H', ?_, ?_⟩
      · refine ⟨.ref ph, rfl, ph, _, rfl, .inl (SqL.of e5), rfl, rfl, _, rfl, ?_⟩
        rw [show (if false = true then !inV (.bl true) [.bl (inB cs r L), .bl (inB cs r M)] else inV (.bl true) [.bl (inB cs r L), .bl (inB cs r M)]) = (inB cs r L || inB cs r M) from inV_true _ _]
        refine ite2 (fun hh => ?_) (fun _ => ite2 (fun w => by cases w) fun _ => ⟨rfl, Sm.refl⟩)
        have hh' : inB cs r L = true ∨ inB cs r M = true := by simpa using hh
        refine ⟨.ref a, rfl, vd, rfl, .ref t, rfl, a, vd, t, cs, r, _, rfl, S5.cols.sq, hC.nd, S5.due, s5.keep ht4, hl.symm, ?_, fun H6 s6 => ?_⟩
        · cases e : ljoinO (closedO cs L) (closedO cs M) with
          | none => trivial
          | some D => exact ⟨(dk D e).1, by have := (dk D e).2; omega⟩
        rw [due_row zL zM hh']
        exact ⟨true, true, rfl, rfl, _, rfl, ite2 (fun w => by cases w) fun _ => ⟨rfl, s6⟩⟩
      · rintro σ6 H6 ⟨rfl, s6⟩
        have S6 := S5.keep s6
        have e6 := s6.keep e5
        have k46 := (k14.trans s5.kp).trans s6.kp
        refine ⟨.ref a, rfl, vb, rfl, .ref t, rfl, a, vb, t, cs, r, _, rfl, S6.cols.sq, hC.nd, b55.kp k46, s6.keep (s5.keep ht4), hl.symm, ?_, fun H7 s7 => ?_⟩
        · cases e : closedO cs (L ++ M) with
          | none => trivial
          | some D => exact ⟨(zB.clo D e).bok, by have := (zB.clo D e).len; omega⟩
        rw [← tight_closed (bok_app f1.bok f2.bok), both_row f1.bok f2.bok hC.le]
        refine ⟨.ref ph, rfl, ph, _, rfl, .inl (SqL.of (s7.keep e6)), rfl, rfl, ?_⟩
        rw [show (if true = true then !inV (.bl false) [.bl (inB cs r L), .bl (inB cs r M)] else inV (.bl false) [.bl (inB cs r L), .bl (inB cs r M)]) = (inB cs r L && inB cs r M) from inV_false _ _]
        refine ⟨_, _, 0, rfl, rfl, ⟨rfl, rfl⟩, fun H8 s8 => ⟨_, rfl, ite2 (fun w => by cases w) fun _ => ?_⟩⟩
        have s68 := (s6.trans s7).trans s8
        exact ⟨_, _, _, _, rfl, (s14.trans s5.nil).trans s68.nil, (S4.deck.keep s5).keep s68⟩
    · rintro σ H1 ⟨y9, y10, y11, y12, rfl, s1, D1⟩
      have S1 := S55.sm s1 D1
      refine ⟨.ref a, rfl, a, .non, cs, none, rfl, S1.cols.sq, hC.le, hC.nd, hC.full, .inl ⟨rfl, rfl⟩, (fun Z e => by cases e), fun v H2 s2 hv => ?_⟩
      rcases hv with ⟨_, rfl⟩ | ⟨_, _, _, e, _⟩
      rotate_left
      · cases e
      refine ⟨.non, .non, 0, rfl, rfl, ⟨rfl, rfl⟩, fun H3 s3 => ?_⟩
      have s23 := s2.trans s3
      exact q (n + 4) H3 ((q55.nil.trans s1).trans s23.nil) (D1.keep s23) (Nat.le_refl _)
end
end K92

namespace K92
open PySem PySem.Spec PyProof.Rows L2
/-- what a def promises, wherever nothing is being shown -/
def FnG (P : Program) (w : World) (K : PySem.W.Frag) (mg : Str → Option Value) (base : Heap) (k : Nat) (f : Addr) (fd : FuncData) (ps : List Str) (sp : Sp) : Prop :=
  ∀ (A : Around) (outer : List Env) (s : Shared) (H : Hp) (args : Args) (us : List Value) (vs : List V) (Q : VK) (E : XK), A.guards = some [] → Room k A → Env0 P w K mg base A outer s H → BindsTo s fd args (ps.zip us) → Vals vs us → sp vs H Q E →
    codeAny (model P w) A (.call (.ref f) args) (CR CX0 outer P w H s Q E) s
section
variable {P : Program} {w : World} {K : PySem.W.Frag} {mg : Str → Option Value} {base : Heap}
/-- by its body -/
theorem fnG_of {x qual : Str} {st : Stmt} {f : Addr} {fd : FuncData} {N ps : List Str} {k : Nat} {sp : Sp} (F : Fun K x qual st f fd) (S : FnScope N ps (defScope st)) (len : ∀ vs H Q E, sp vs H Q E → vs.length = ps.length)
    (hb : ∀ (cdv : Value) (A : Around) (outer : List Env) (s : Shared) (H : Hp) (vs : List V) (Q : VK) (E : XK), A.guards = some [] → Room k (A.deeper (envOfC qual (defScope st) s.heap.objs.size f cdv)) → sp vs H Q E →
      ∃ t, PSs (cxOf CX0 P w K mg base N qual (defScope st) f cdv A outer s H E).nox (defBody st) t ∧ t { nx := fun _ H' => Q .non H', rt := Q } (start N vs) H) : FnG P w K mg base (k + 1) f fd ps sp := by
  obtain ⟨oc, od, kV, doc, pm, an, cdv, ct, osl, rfl, lk, hcd⟩ := F.ex
  intro A outer s H args us vs Q E hg hr e0 hbd r hsp
  have hl := len _ _ _ _ hsp
  have keepB : ∀ b o, base.get? b = some o → s.heap.get? b = some o := fun b o e => (e0.bs b o e).1
  have KX : K.In s.heap := e0.mod.kin.keeps keepB
  have kinds : ∀ y ∈ ps.zip us, (defScope st).names.lookup y.1 = some .local ∨ ((defScope st).names.lookup y.1 = some .cell ∧ ((cellsFrom (s.heap.objs.size + 1) (defScope st).names []).lookup y.1).isSome = true) := fun ⟨n, v⟩ hy =>
    (S.par n (List.of_mem_zip hy).1).elim .inl fun q => .inr ⟨q, PySem.W.cellsFrom_some _ _ _ (.inl q)⟩
  refine codeAny_call_function hr.depth (KX _ _ lk) rfl S.co S.gen rfl (PySem.W.codeRec_of KX hcd) (hbd _ _ _ _ (wpAny_newFunctionEnv_cells S.kind kinds fun env he s1 x => ?_))
  subst he
  refine ⟨(e0.mod.nolimit.keeps keepB).keeps x.toInCall.keep, codeAny_func ?_⟩
  obtain ⟨t, ht, hq⟩ := hb cdv A outer s H vs Q E hg (hr.deeper _) hsp
  refine wpAny_mono (ht.nox.run [] s1 (start N vs) H _ (inv_start S hr.hd e0 hl r x) hq) (fun fl s' hs => ?_) fun e s' hs => hs
  cases fl with
  | ret u =>
    obtain ⟨v, σ', H', J, rv, q⟩ := hs
    exact ⟨v, H', J.os, J.bare, J.base, J.hok, rv, q⟩
  | next =>
    obtain ⟨σ', H', J, q⟩ := hs
    exact ⟨V.non, H', J.os, J.bare, J.base, J.hok, rfl, q⟩
  | brk =>
    obtain ⟨_, _, _, q⟩ := hs
    exact False.elim q
  | cont =>
    obtain ⟨_, _, _, q⟩ := hs
    exact False.elim q
/-- the heap of which the script alone is known -/
def only (a : Addr) (o : HO) : Hp := fun b => if b = a then some o else none
/-- from a heap in which at most the script is tracked -/
theorem callG_core {k : Nat} {fa a : Addr} {fd : FuncData} {x : Str} {sp : Sp} {mb : Str → Option Value} {s₁ : Shared} {vs : List Value} {ns : List Int} (KX : K.In s₁.heap) (hns : s₁.heap.Ns mainGlobals mg) (hbn : s₁.heap.Ns builtinsNs mb)
    (hbb : ∀ x : Str, x ≠ "__name__" → mb x = bootBuiltins x) (hlim : s₁.heap.NoLimit) (hgen : s₁.gens = #[]) (ha : s₁.heap.get? a = some { cls := .type "list", data := .seq vs.toArray }) (hr : Room k callerA)
    (F : ∀ base : Heap, K.In base → base.Ns mainGlobals mg → FnG P w K mg base k fa fd [x] sp) (hbind : ∀ (s : Shared) (u : Value), BindsTo s fd ⟨[u], []⟩ [(x, u)]) (H : Hp) (hok : HOk P w H s₁.heap) (hA : ∀ b, H b ≠ none → b = a ∧ K.lookup a = none)
    (hfr : ∀ b, H b = none ∨ ∃ o xs, H b = some (.frz o (.lst xs))) (hsp : sp [.ref a] H (fun v _ => v = .bl true) fun _ _ _ => False) :
    codeAny (model P w) callerA (.call (.ref fa) ⟨[.ref a], []⟩) (fun r s' => r = .ok (.ret (.bool true)) ∧ OldK s₁.heap s'.heap ∧ s'.os = s₁.os ∧ AllBare s'.gens) s₁ := by
  -- what is not the script's own list is not hidden
  have see : ∀ {b : Addr} {o : Obj}, s₁.heap.get? b = some o → (b ≠ a ∨ H b = none) → (hidT s₁.heap H).get? b = some o := fun {b o} e n => by
    refine hidT_get e ?_
    rcases n with n | n
    · exact Classical.byContradiction fun z => n (hA b z).1
    · exact n
  have nsK : ∀ {b : Addr} {m : Str → Option Value}, s₁.heap.Ns b m → (hidT s₁.heap H).Ns b m := fun {b m} ⟨o, es, ep, e, d, rest⟩ => by
    refine ⟨o, es, ep, see e (.inl fun z => ?_), d, rest⟩
    subst z
    rw [ha] at e
    cases e
    cases (show Data.seq vs.toArray _ = Data.dict es ep from d)
  have kin : K.In (hidT s₁.heap H) := fun b o e => see (KX b o e) (by
    by_cases z : H b = none
    · exact .inr z
    · obtain ⟨h1, h2⟩ := hA b z
      rw [h1, h2] at e
      cases e)
  obtain ⟨mc, l1, l2⟩ := hlim
  have e0 : Env0 P w K mg (hidT s₁.heap H) callerA [] s₁ H := ⟨rfl, ⟨kin, nsK hns, ⟨mb, nsK hbn, hbb⟩, ⟨mc, nsK l1, l2⟩⟩, fun b o e => of_hidT e, Nat.le_of_eq (hidT_size _ _), trivial, fun b hb => absurd (show b ∈ ([] : List Addr) from hb) (by simp), hok, .of_eq hgen⟩
  refine codeAny_mono (F _ kin (nsK hns) callerA [] s₁ H ⟨[.ref a], []⟩ [.ref a] [.ref a] _ _ rfl hr e0 (hbind s₁ (.ref a)) (.cons rfl .nil) hsp) fun r s' h => ?_
  match r, h with
  | .error e, h => exact False.elim h
  | .ok .next, h => exact False.elim h
  | .ok .brk, h => exact False.elim h
  | .ok .cont, h => exact False.elim h
  | .ok (.ret u), h =>
    obtain ⟨v, H', os, bare, un, hok', rv, q⟩ := h
    cases (show v = V.bl true from q)
    cases (show u = Value.bool true from rv)
    refine ⟨rfl, OldK.of_keep fun b o e => ?_, os, bare⟩
    rcases hfr b with z | ⟨ob, xs, z⟩
    · exact un.keep b o e z (fun w => absurd (show b ∈ ([] : List Addr) from w) (by simp)) (by simp)
    · have e1 := (hok b _ z).1
      have e2 := (hok' b _ (un.frzs b ob _ z)).1
      rw [e] at e1
      cases e1
      exact e2
/-- the law's call at the heap behind the top -/
theorem callG {k : Nat} {fa a : Addr} {fd : FuncData} {x : Str} {sp : Sp} {mb : Str → Option Value} {s₁ : Shared} {vs : List Value} {ns : List Int} (KX : K.In s₁.heap) (hns : s₁.heap.Ns mainGlobals mg) (hbn : s₁.heap.Ns builtinsNs mb)
    (hbb : ∀ x : Str, x ≠ "__name__" → mb x = bootBuiltins x) (hlim : s₁.heap.NoLimit) (hgen : s₁.gens = #[]) (ha : s₁.heap.get? a = some { cls := .type "list", data := .seq vs.toArray }) (hi : IntsAre vs ns) (hl : ns.length ≤ sizeLine) (hr : Room k callerA)
    (F : ∀ base : Heap, K.In base → base.Ns mainGlobals mg → FnG P w K mg base k fa fd [x] sp) (hbind : ∀ (s : Shared) (u : Value), BindsTo s fd ⟨[u], []⟩ [(x, u)])
    (hsp : ∀ H : Hp, SqL K H a (ns.map V.int) → sp [.ref a] H (fun v _ => v = .bl true) fun _ _ _ => False) :
    codeAny (model P w) callerA (.call (.ref fa) ⟨[.ref a], []⟩) (fun r s' => r = .ok (.ret (.bool true)) ∧ OldK s₁.heap s'.heap ∧ s'.os = s₁.os ∧ AllBare s'.gens) s₁ := by
  have rv := vals_ints hi
  cases hk : K.lookup a with
  | some o =>
    have e := KX a o hk
    rw [ha] at e
    cases e
    refine callG_core (ns := ns) KX hns hbn hbb hlim hgen ha hr F hbind (fun _ => none) (fun b u z => by cases (show (none : Option HO) = some u from z)) (fun b z => absurd rfl z) (fun _ => .inl rfl) (hsp _ (.inr ⟨_, vs.toArray, _, hk, rfl, rfl, rfl, ?_, by simpa using rv⟩))
    rw [List.size_toArray, hi.length]
    exact hl
  | none =>
    have at_ : ∀ b, only a (.frz { cls := .type "list", data := .seq vs.toArray } (.lst (ns.map V.int))) b = if b = a then some (.frz { cls := .type "list", data := .seq vs.toArray } (.lst (ns.map V.int))) else none := fun b => rfl
    refine callG_core (ns := ns) KX hns hbn hbb hlim hgen ha hr F hbind (only a (.frz { cls := .type "list", data := .seq vs.toArray } (.lst (ns.map V.int)))) (fun b u z => ?_) (fun b z => ?_) (fun b => ?_) (hsp _ (.inl (.inr ⟨_, if_pos rfl⟩)))
    · rw [at_] at z
      by_cases hb : b = a
      · rw [if_pos hb] at z
        cases z
        subst hb
        exact ⟨ha, by rw [List.length_map]; exact hl, vs, _, rv, ha⟩
      · rw [if_neg hb] at z
        cases z
    · refine ⟨Classical.byContradiction fun hb => z ?_, hk⟩
      rw [at_, if_neg hb]
    · rw [at_]
      by_cases hb : b = a
      · rw [if_pos hb]
        exact .inr ⟨_, _, rfl⟩
      · rw [if_neg hb]
        exact .inl rfl
end
/-- the goal that k_head leaves -/
theorem walkG {l : PySem.W.OpenLaw} {n k : Nat} {q : Program} {loose : List Str} {XP : (Str → Option Value) → Heap → Prop} {YP : World → Heap → Prop} {d : DefRec} {K : Params → PySem.W.Frag} {sp : PySem.W.Frag → Sp} {x : Str}
    (hn : l.most = some n) (hn2 : n ≤ sizeLine) (hdf : d.params.defaults = []) (hr : Room k callerA) (hY : ∀ (w : World) (h : Heap), YP w h → (K w.params).In h)
    (F : ∀ (w : World) (mg : Str → Option Value) (fa : Addr) (h : Heap), (K w.params).In h → h.Ns mainGlobals mg → mg d.name = some (.ref fa) →
      ∃ fd : FuncData, (∀ (s : Shared) (u : Value), BindsTo s fd ⟨[u], []⟩ [(x, u)]) ∧ ∀ base : Heap, (K w.params).In base → base.Ns mainGlobals mg → FnG l.prog w (K w.params) mg base k fa fd [x] (sp (K w.params)))
    (hsp : ∀ (K : PySem.W.Frag) (H : Hp) (a : Addr) (ns : List Int), ns.length ≤ n → SqL K H a (ns.map V.int) → sp K [.ref a] H (fun v _ => v = .bl true) fun _ _ _ => False) :
    PySem.W.WalkO q loose XP YP l.row.toRowW d [] (fun f vs => PySem.call f vs) := by
  refine Att.attach_call hn hdf fun w s₀ s₁ mg mb fa o pm cd doc a vs ns G Y ho hd hcd hmg hobj hints hlen hg => ?_
  have KX := hY w _ Y
  obtain ⟨fd, hb, hF⟩ := F w mg fa _ KX G.T.g hmg
  exact callG KX G.T.g G.T.b G.T.builtins G.T.nolimit hg hobj hints (Nat.le_trans hlen hn2) hr hF hb fun H hS => hsp _ H a ns hlen hS
end K92

/-! rules: repr of any small value, isinstance of a caught own error with fields, calls of guarded and of raising defs -/
namespace K92
open PySem PySem.Spec PyProof.Rows L2
/-- how a value is shown -/
def Shw (K : PySem.W.Frag) (H : Hp) (x : V) (z : Str) : Prop := (x = .non ∧ z = "None") ∨ (∃ b : Bool, x = .bl b ∧ z = if b then "True" else "False") ∨ (∃ i : Int, x = .int i ∧ i.natAbs.log2 < 1920 ∧ z = toString i) ∨ (∃ t : Str, x = .str t ∧ z = reprText t ∧ (reprText t).length ≤ sizeLine) ∨
  (∃ a d, x = .ref a ∧ Dp K H (.ref a) d ∧ d.showable = true ∧ d.hasDict = false ∧ d.depth ≤ 60 ∧ d.shown.length ≤ sizeLine ∧ z = d.shown) ∨ ∃ a, x = .ref a ∧ H a = some (.dK []) ∧ z = (PyData.dict []).shown
def rReprA (K : PySem.W.Frag) : List V → Hp → VK → Prop := fun xs H Q => ∃ x z, xs = [x] ∧ Shw K H x z ∧ Q (.str z) H
theorem call_reprA {X : Cx} (hg : X.A.guards = some []) (hu : X.A.units + 65 < cLine) : CallR X (.builtin "repr") (rReprA X.K) := by
  intro pins s σ H xs us Q I r h
  obtain ⟨x, z, rfl, hs, q⟩ := h
  rcases hs with ⟨rfl, rfl⟩ | ⟨b, rfl, rfl⟩ | ⟨i, rfl, hi, rfl⟩ | ⟨t, rfl, rfl, ht⟩ | ⟨a, d, rfl, hd, h1, h2, h3, h4, rfl⟩ | ⟨a, rfl, ha, rfl⟩
  · obtain ⟨u, rfl, rx⟩ := vals1 r
    cases (show u = Value.none from rx)
    exact PySem.P.repr_of_none ⟨.str _, H, I.tok _, ⟨_, rfl⟩, q⟩
  · obtain ⟨u, rfl, rx⟩ := vals1 r
    cases (show u = Value.bool b from rx)
    refine PySem.P.repr_of_bool ⟨.str _, H, I.tok _, ⟨_, rfl⟩, ?_⟩
    cases b <;> exact q
  · obtain ⟨u, rfl, t, rfl⟩ := vals1 r
    exact PySem.P.repr_of_int hi ⟨.str _, H, I.tok _, ⟨_, rfl⟩, q⟩
  · obtain ⟨u, rfl, t', rfl⟩ := vals1 r
    exact PySem.P.repr_of_str ⟨.str _, H, I.tok _, ⟨_, rfl⟩, q⟩ ht
  · exact call_repr hg hu pins s σ H [.ref a] us Q I r ⟨a, d, rfl, hd, h1, h2, h3, h4, q⟩
  · obtain ⟨u, rfl, rx⟩ := vals1 r
    cases (show u = Value.ref a from rx)
    obtain ⟨_, hm, vs, kv, o, es, ep, ho, ⟨hc, hdi, hs⟩, hdat, _, hp, _⟩ := dk_of I.hok ha
    have hvs : vs = [] := by cases kv; rfl
    subst hvs
    have hes : es.toList = [] := List.length_eq_zero_iff.mp (by simpa using hp.length)
    have rd : Reads s.heap (.ref a) (.dict []) (a :: [] ++ []) := .dict ho hc hdat (by rw [hes]; exact .nil) (by rw [hes]; exact .nil)
    refine repr_of_reads' rd (by decide +kernel) (fun _ => ?_) hg ?_ (fun _ _ e => e) (fun h' u tk k => ⟨.str _, H, I.kept (t' := tk) k, ⟨u, rfl⟩, q⟩) (by decide +kernel)
    · intro z
      simp only [List.append_nil, List.mem_singleton] at z
      rw [z] at hm
      simp at hm
    · have : (PyData.dict []).depth ≤ 60 := by decide +kernel
      omega
/-- isinstance of the error that the suite holds, its fields known -/
def rIsD (K : PySem.W.Frag) (D a : Addr) (cls : Value) (d : Option Addr) : List V → Hp → VK → Prop := fun xs H Q => ∃ (c : V) (cv : Value) (b : Bool) (dd : Addr) (fs : List (Str × V)), xs = [.ref a, c] ∧ cls = .ref D ∧ (∀ u, RelV c u → u = cv) ∧ PySem.W.kitOne K (.ref D) cv = some b ∧ d = some dd ∧ H dd = some (.xd fs) ∧ Q (.bl b) H
theorem call_isD {X : Cx} {a D : Addr} {cls : Value} {d : Option Addr} {oe : Obj} {pn : List (Addr × Obj)} (C : ExcC X.K D) (hz : Zc cls d oe) (hf : ∃ vs, oe.data = .fields vs) : CallR (X.suite a ((a, oe) :: pn)) (.builtin "isinstance") (rIsD X.K D a cls d) := by
  intro pins s σ H xs us Q I r h
  obtain ⟨c, cv, b, dd, fs, rfl, rfl, hcv, e, rfl, ea, q⟩ := h
  cases r with
  | cons rx rr =>
    cases rr with
    | cons rt rr =>
      cases rr
      cases rx
      have ec := hcv _ rt
      subst ec
      obtain ⟨hget, _⟩ := I.pin (a, oe) (List.mem_append.mpr (.inl List.mem_cons_self))
      obtain ⟨vs, hv⟩ := hf
      have hx : ObjOk X.prog X.w H s.heap dd (.xd fs) := I.hok dd _ ea
      obtain ⟨mA, hns, hr⟩ := hx
      obtain ⟨od, ho, hl⟩ := lookIn_ns hns
      have J : PySem.W.InstAt s.heap a oe D (some od) := ⟨hget, hz.1, by unfold PySem.W.notCls; rw [hv] <;> rfl, by rw [hz.2]; exact ho⟩
      have hcl : (PySem.W.clsIn X.K D).isSome = true := by
        obtain ⟨cd, hc, _⟩ := PySem.W.any_some C.hd
        rw [hc]
        rfl
      exact PySem.W.kia_one (PySem.W.kitx_exc hcl C.hg C.hk C.hs C.ha C.hn C.ht C.hm) I.kIn J e (fun z => nomatch z) fun tk => ⟨.bl b, H, I.kept (t' := tk) fun _ _ z => z, rfl, q⟩
/-! calls -/
structure CalG (P : Program) (w : World) (K : PySem.W.Frag) (mg : Str → Option Value) (base : Heap) (nm : Str) (ps : List Str) (k : Nat) (sp : Sp) : Prop where
  ex : ∃ (f : Addr) (fd : FuncData), FnG P w K mg base k f fd ps sp ∧ (∀ vs H Q E, sp vs H Q E → vs.length = ps.length) ∧ mg nm = some (.ref f) ∧ PySem.W.keepIn K (.ref f) = true ∧ Binds K fd ps []
theorem pe_ownG {X : Cx} {k : Nat} {nm : Str} {ps : List Str} {sp : Sp} {p pos : Pos} {e : Expr} {es : List Expr} {t : TA} (C : CalG X.prog X.w X.K X.mg X.base nm ps k sp) (hgd : X.A.guards = some []) (hr : Room k X.A) (ha : PA X (e :: es) t) (hg : Gl X nm := by rfl)
    (hdb : (nm == ("__debug__" : Str)) = false := by decide) (he : starEach (e :: es) X.env = (false, eval e X.env) :: starEach es X.env := by rfl) (hpl : (backTo pos (starEach es X.env)).any (·.1) = false := by rfl) :
    PE X (.Call (.Name nm p) (e :: es) [] pos) (tCall sp [] E0 t) := by
  obtain ⟨f, fd, F, len, hm, hk, hb⟩ := C.ex
  refine ⟨fun pins s σ H Q I h => ?_⟩
  refine wpAny_Call_Name_kw (ld_glob I hg hm ?_ hdb)
  refine PySem.W.callWith_K (h₀ := X.base) I.ok.mod.kin hk (thn (ha.run pos pins s σ H _ I h) fun us s1 ⟨vs, H1, I1, r, q⟩ => ⟨I1.kIn, ?_⟩) he hpl
  have q : sp (vs ++ []) H1 Q E0 := q
  rw [List.append_nil] at q
  have hl : (us ++ []).length = ps.length := by
    rw [List.append_nil, ← r.length]
    exact len _ _ _ _ q
  have b := hb s1 us I1.kIn hl
  rw [List.append_nil] at b
  refine wpAny_call (codeAny_mono (F X.A X.stack s1 H1 ⟨us, []⟩ us vs Q E0 hgd hr I1.env0 b r q) fun r s' hq => ?_)
  cases r with
  | error e => exact pass0 pins σ H1 s1 e s' I1 hq
  | ok fl =>
    cases fl with
    | ret u => exact I1.after hq
    | next => exact False.elim hq
    | brk => exact False.elim hq
    | cont => exact False.elim hq
structure CalX (P : Program) (w : World) (K : PySem.W.Frag) (mg : Str → Option Value) (base : Heap) (nm : Str) (ps : List Str) (k : Nat) (sp : Sp) : Prop where
  ex : ∃ (f : Addr) (fd : FuncData), FnOk P w K mg base (L2.CX P w) k f fd ps sp ∧ mg nm = some (.ref f) ∧ PySem.W.keepIn K (.ref f) = true ∧ Binds K fd ps []
theorem CalX.mono {P : Program} {w : World} {K : PySem.W.Frag} {mg : Str → Option Value} {base : Heap} {nm : Str} {ps : List Str} {j k : Nat} {sp : Sp} (C : CalX P w K mg base nm ps j sp) (h : j ≤ k) : CalX P w K mg base nm ps k sp := by
  obtain ⟨f, fd, a, b, c, d⟩ := C.ex
  exact ⟨f, fd, a.mono h, b, c, d⟩
/-- it does not raise here -/
theorem pe_ownX {X : Cx} {k : Nat} {nm : Str} {ps : List Str} {sp : Sp} {p pos : Pos} {e : Expr} {es : List Expr} {t : TA} (C : CalX X.prog X.w X.K X.mg X.base nm ps k sp) (hr : Room k X.A) (ha : PA X (e :: es) t) (hg : Gl X nm := by rfl)
    (hdb : (nm == ("__debug__" : Str)) = false := by decide) (he : starEach (e :: es) X.env = (false, eval e X.env) :: starEach es X.env := by rfl) (hpl : (backTo pos (starEach es X.env)).any (·.1) = false := by rfl) :
    PE X (.Call (.Name nm p) (e :: es) [] pos) (tCall sp [] E0 t) := by
  obtain ⟨f, fd, a, b, c, d⟩ := C.ex
  exact pe_call a hr hg b c d .nil passF ha hdb he hpl
/-- what it raises goes to the try around it -/
theorem pe_ownS {X : Cx} {W : WX} {k : Nat} {nm : Str} {ps : List Str} {sp : Sp} {p pos : Pos} {e : Expr} {es : List Expr} {t : TA} (C : CalX X.prog X.w X.K X.mg X.base nm ps k sp) (hr : Room k X.A) (tk : Takes X W) (ha : PA X (e :: es) t) (hg : Gl X nm := by rfl)
    (hdb : (nm == ("__debug__" : Str)) = false := by decide) (he : starEach (e :: es) X.env = (false, eval e X.env) :: starEach es X.env := by rfl) (hpl : (backTo pos (starEach es X.env)).any (·.1) = false := by rfl) :
    PE X (.Call (.Name nm p) (e :: es) [] pos) (tCallS sp (WE W) t) := by
  obtain ⟨f, fd, a, b, c, d⟩ := C.ex
  exact pe_callS a hr hg b c d (fun σ => passAt tk σ) ha hdb he hpl
structure CalXK (P : Program) (w : World) (K : PySem.W.Frag) (mg : Str → Option Value) (base : Heap) (nm : Str) (ps ks : List Str) (gV : List V → List V → List V) (k : Nat) (sp : Sp) : Prop where
  ex : ∃ (f : Addr) (fd : FuncData) (g : List Value → List Value → List Value), FnOk P w K mg base (L2.CX P w) k f fd ps sp ∧ mg nm = some (.ref f) ∧ PySem.W.keepIn K (.ref f) = true ∧ KBinds K fd ps ks g gV
theorem pe_ownXK {X : Cx} {k : Nat} {nm : Str} {ps ks : List Str} {gV : List V → List V → List V} {sp : Sp} {p pos : Pos} {kws : List Keyword} {tk : TA} (C : CalXK X.prog X.w X.K X.mg X.base nm ps ks gV k sp) (hr : Room k X.A) (hkw : PK X kws tk) (hg : Gl X nm := by rfl)
    (hall : (backToKw pos (keywordEach kws X.env)).all (·.1.isSome) = true := by rfl) (hks : (backToKw pos (keywordEach kws X.env)).filterMap (·.1) = ks := by rfl) (hdb : (nm == ("__debug__" : Str)) = false := by decide)
    (hpl : ((backTo pos (starEach [] X.env)).any (·.1) || (backToKw pos (keywordEach kws X.env)).any (·.1.isNone)) = false := by rfl) :
    PE X (.Call (.Name nm p) [] kws pos) (tCallK sp gV E0 tNil tk) := by
  obtain ⟨f, fd, g, F, hm, hkp, hb⟩ := C.ex
  refine ⟨fun pins s σ H Q I h => ?_⟩
  refine wpAny_Call_Name_kw (ld_glob I hg hm ?_ hdb)
  refine PySem.W.callWith_KW0 (h₀ := X.base) I.ok.mod.kin hkp hall ?_ hpl
  refine thn (hkw.run pos pins s σ H _ I h) fun ws s2 ⟨zs, H2, I2, rz, q2⟩ => ⟨I2.kIn, ?_⟩
  rw [hks]
  exact run_fnk F hr hb passF I2 (us := []) (vs := []) .nil rz q2
end K92

/-! plain laws of rows and their least zone; heaps of rows -/
namespace K92
open PySem PySem.Spec PyProof.Rows L2
theorem gap_set {cs : List Str} {rows rows' : List (List Int)} (h0 : rows ≠ []) (h : ∀ r, r ∈ rows ↔ r ∈ rows') (i j : Str) : gap cs rows i j = gap cs rows' i j := by
  have m : ∀ x, x ∈ (rows.map fun r => val cs r i - val cs r j) ↔ x ∈ (rows'.map fun r => val cs r i - val cs r j) := fun x => by
    rw [List.mem_map, List.mem_map]
    exact ⟨fun ⟨r, a, b⟩ => ⟨r, (h r).mp a, b⟩, fun ⟨r, a, b⟩ => ⟨r, (h r).mpr a, b⟩⟩
  have h0' : rows' ≠ [] := fun e => by
    obtain ⟨r, l, rfl⟩ := List.exists_cons_of_ne_nil h0
    have := (h r).mp List.mem_cons_self
    rw [e] at this
    cases this
  exact mxL_eq (by simpa using h0') ((m _).mp (mxL_mem (by simpa using h0))) fun y hy => mxL_ge ((m y).mpr hy)
theorem zone_set {cs ns : List Str} {rows rows' : List (List Int)} (h : ∀ r, r ∈ rows ↔ r ∈ rows') : zoneO cs ns rows = zoneO cs ns rows' := by
  unfold zoneO
  by_cases e : rows = []
  · have e' : rows' = [] := by
      cases rows' with
      | nil => rfl
      | cons r l =>
        have := (h r).mpr List.mem_cons_self
        rw [e] at this
        cases this
    rw [if_pos e, if_pos e']
  · have e' : rows' ≠ [] := fun z => by
      obtain ⟨r, l, rfl⟩ := List.exists_cons_of_ne_nil e
      have := (h r).mp List.mem_cons_self
      rw [z] at this
      cases this
    rw [if_neg e, if_neg e']
    congr 2
    unfold gapL
    congr 1
    funext i
    unfold gapR
    congr 1
    funext j
    rw [gap_set e h]
theorem gapL_mem {cs ns : List Str} {rows : List (List Int)} {t : Tr} : t ∈ gapL cs ns rows ↔ t.1 ∈ ns ∧ t.2.1 ∈ ns ∧ t.1 ≠ t.2.1 ∧ t.2.2 = gap cs rows t.1 t.2.1 := by
  unfold gapL gapR
  rw [List.mem_flatMap]
  constructor
  · rintro ⟨i, hi, h⟩
    rw [List.mem_map] at h
    obtain ⟨j, hj, rfl⟩ := h
    rw [List.mem_filter] at hj
    exact ⟨hi, hj.1, Ne.symm (of_decide_eq_true hj.2), rfl⟩
  · rintro ⟨h1, h2, h3, h4⟩
    refine ⟨t.1, h1, List.mem_map.mpr ⟨t.2.1, List.mem_filter.mpr ⟨h2, decide_eq_true (Ne.symm h3)⟩, ?_⟩⟩
    rw [← h4]
theorem gapL_len {cs ns : List Str} {rows : List (List Int)} : (gapL cs ns rows).length ≤ ns.length * ns.length := by
  unfold gapL
  have : ∀ l : List Str, (l.flatMap (gapR cs ns rows)).length ≤ l.length * ns.length := by
    intro l
    induction l with
    | nil => simp
    | cons x l ih =>
      rw [List.flatMap_cons, List.length_append, List.length_cons, Nat.add_mul, Nat.one_mul]
      have : (gapR cs ns rows x).length ≤ ns.length := by
        unfold gapR
        rw [List.length_map]
        exact List.length_filter_le _ _
      omega
  exact this ns
theorem zoneO_ok {cs : List Str} (h3 : cs.length ≤ 3) (rows : List (List Int)) : zoneOk cs (zoneO cs (("" : Str) :: cs) rows) := by
  unfold zoneO
  by_cases e : rows = []
  · rw [if_pos e]
    trivial
  · rw [if_neg e]
    refine ⟨fun t ht => ?_, ?_⟩
    · obtain ⟨a, b, c, _⟩ := gapL_mem.mp ((sortT_perm _).mem_iff.mp ht)
      exact ⟨a, b, c⟩
    · rw [(sortT_perm _).length_eq]
      have := gapL_len (cs := cs) (ns := ("" : Str) :: cs) (rows := rows)
      rw [List.length_cons] at this
      have : (cs.length + 1) * (cs.length + 1) ≤ 4 * 4 := Nat.mul_le_mul (by omega) (by omega)
      omega
theorem zoneO_row {cs : List Str} {rows : List (List Int)} {r : List Int} (h : r ∈ rows) : zoneB cs r (zoneO cs (("" : Str) :: cs) rows) = true := by
  unfold zoneO
  rw [if_neg (fun e => by rw [e] at h; cases h)]
  refine inB_iff.mpr fun t ht => ?_
  obtain ⟨_, _, _, e⟩ := gapL_mem.mp ((sortT_perm _).mem_iff.mp ht)
  rw [e]
  exact mxL_ge (List.mem_map.mpr ⟨r, h, rfl⟩)
theorem RowAll.rev {H : Hp} {n : Nat} : ∀ {xs : List V} {rs : List (List Int)}, RowAll H n xs rs → RowAll H n xs.reverse rs.reverse
  | _, _, .nil => .nil
  | _, _, .cons a b t => by
    rw [List.reverse_cons, List.reverse_cons]
    exact t.rev.app (.cons a b .nil)
theorem RowAll.take {H : Hp} {n : Nat} : ∀ (k : Nat) {xs : List V} {rs : List (List Int)}, RowAll H n xs rs → RowAll H n (xs.take k) (rs.take k)
  | 0, _, _, _ => .nil
  | _ + 1, _, _, .nil => .nil
  | k + 1, _, _, .cons a b t => .cons a b (t.take k)
/-- the odd things beside a table's name -/
theorem cut_one {xs : List V} : cutV xs none (some 1) = xs.take 1 := by
  unfold cutV
  rw [HT.sIx_none, show ((1 : Int)) = ((1 : Nat) : Int) from rfl, HT.sIx_nat, List.drop_zero, Nat.sub_zero]
  cases xs with
  | nil => rfl
  | cons x xs => rw [Nat.min_eq_left (by simp)]
theorem rows_again (rows : List (List Int)) (r : List Int) : r ∈ rows.reverse ++ rows.take 1 ↔ r ∈ rows := by
  rw [List.mem_append, List.mem_reverse]
  exact ⟨fun h => h.elim id List.mem_of_mem_take, .inl⟩
end K92

/-! odd values; a schema and a database beside a deck -/
namespace K92
open PySem PySem.Spec PyProof.Rows L2
theorem lay1 {d : PyData} (h1 : d.canLay0 = true) (h2 : d.depth ≤ 64) (h3 : d.weight ≤ 2 ^ 20) : d.layable0 = true := by
  unfold PyData.layable0
  rw [h1, Bool.true_and, decide_eq_true h2, decide_eq_true h3]
  rfl
theorem Sp0.fit1 {z : Str} {n : Nat} (h : Sp0 z n) (h16 : n ≤ 16) : (reprText z).length ≤ sizeLine := by
  have a : z.cps.size ≤ n := h.len
  have l : (PyData.str z).layable0 = true := lay1 h.lay (by simp [PyData.depth]) (by simp only [PyData.weight]; omega)
  exact PyData.shown_fits_of_layable0 (B := 8) (by decide) (by decide) l (by simp [PyData.intsShort])
theorem Sp0.fitT {z : Str} {n : Nat} (h : Sp0 z n) (h16 : n ≤ 16) : (PyData.tuple [.str z]).shown.length ≤ sizeLine := by
  have a : z.cps.size ≤ n := h.len
  have hl := h.lay
  have l : (PyData.tuple [.str z]).layable0 = true := lay1 (by simp only [PyData.canLay0, PyData.canLayAll0] at hl ⊢; rw [hl]; rfl) (by simp [PyData.depth, PyData.depthAll]) (by simp only [PyData.weight, PyData.weightAll]; omega)
  exact PyData.shown_fits_of_layable0 (B := 8) (by decide) (by decide) l (by simp [PyData.intsShort, PyData.intsShortAll])
theorem Sp0.fitL {z : Str} {n : Nat} (h : Sp0 z n) (h16 : n ≤ 16) : (PyData.list [.str z]).shown.length ≤ sizeLine := by
  have a : z.cps.size ≤ n := h.len
  have hl := h.lay
  have l : (PyData.list [.str z]).layable0 = true := lay1 (by simp only [PyData.canLay0, PyData.canLayAll0] at hl ⊢; rw [hl]; rfl) (by simp [PyData.depth, PyData.depthAll]) (by simp only [PyData.weight, PyData.weightAll]; omega)
  exact PyData.shown_fits_of_layable0 (B := 8) (by decide) (by decide) l (by simp [PyData.intsShort, PyData.intsShortAll])
/-- not a name of the schema, and shown the same as long as it stands -/
structure Odd (K : PySem.W.Frag) (H : Hp) (L : List TbE) (x : V) : Prop where
  no : NoNm K H L x
  sh : ∃ z : Str, ∀ H', Sm [] H H' → Shw K H' x z
theorem odd_str {K : PySem.W.Frag} {H : Hp} {L : List TbE} {z : Str} (h : Sp0 z 8) (n : ∀ f ∈ L, f.nm ≠ z) : Odd K H L (.str z) := by
  refine ⟨.inl ⟨.str z, .str z, ?_, fun f hf => ?_⟩, reprText z, fun H' _ => .inr (.inr (.inr (.inl ⟨z, rfl, rfl, h.fit1 (by decide)⟩)))⟩
  · refine shaped_str ?_
    unfold PyData.strOk
    rw [← Array.all_toList, List.all_eq_true]
    intro c hc
    have := h.ok c hc
    exact decide_eq_true (by omega)
  · rw [eqv_strs]
    exact decide_eq_false (n f hf)
theorem odd_non {K : PySem.W.Frag} {H : Hp} {L : List TbE} : Odd K H L .non :=
  ⟨.inl ⟨.none, .non, by rfl, fun f hf => by simp [PyData.eqv]⟩, _, fun H' _ => .inl ⟨rfl, rfl⟩⟩
theorem odd_int {K : PySem.W.Frag} {H : Hp} {L : List TbE} : Odd K H L (.int 0) :=
  ⟨.inl ⟨.int 0, .int 0, by rfl, fun f hf => by simp [PyData.eqv]⟩, _, fun H' _ => .inr (.inr (.inl ⟨0, rfl, by decide, rfl⟩))⟩
theorem odd_bl {K : PySem.W.Frag} {H : Hp} {L : List TbE} : Odd K H L (.bl true) :=
  ⟨.inl ⟨.bool true, .bl true, by rfl, fun f hf => by simp [PyData.eqv]⟩, _, fun H' _ => .inr (.inl ⟨true, rfl, rfl⟩)⟩
theorem sp_strOk {z : Str} (h : Sp0 z 8) : PyData.strOk z = true := by
  unfold PyData.strOk
  rw [← Array.all_toList, List.all_eq_true]
  intro c hc
  have := h.ok c hc
  exact decide_eq_true (by omega)
theorem odd_tup {K : PySem.W.Frag} {H : Hp} {L : List TbE} {p : Addr} {z : Str} (h : Sp0 z 8) (e : H p = some (.tup [.str z])) : Odd K H L (.ref p) := by
  refine ⟨.inl ⟨.tuple [.str z], .tup (SqT.of e) (.cons (.str z) .nil), ?_, fun f hf => by simp [PyData.eqv]⟩, _, fun H' s => .inr (.inr (.inr (.inr (.inl ⟨p, .tuple [.str z], rfl, .tup (SqT.of (s.keep e)) (.cons (.str z) .nil), ?_, ?_, ?_, h.fitT (by decide), rfl⟩))))⟩
  · simp [SeqAt.shaped, PyData.canLay0, PyData.canLayAll0, PyData.depth, PyData.depthAll, sp_strOk h]
  · simp [PyData.showable, PyData.showableAll]
  · simp [PyData.hasDict, PyData.hasDictAll]
  · simp [PyData.depth, PyData.depthAll]
theorem odd_lst {K : PySem.W.Frag} {H : Hp} {L : List TbE} {p : Addr} {z : Str} (h : Sp0 z 8) (e : H p = some (.lst [.str z])) : Odd K H L (.ref p) := by
  refine ⟨.inl ⟨.list [.str z], .lst (SqL.of e) (.cons (.str z) .nil), ?_, fun f hf => by simp [PyData.eqv]⟩, _, fun H' s => .inr (.inr (.inr (.inr (.inl ⟨p, .list [.str z], rfl, .lst (SqL.of (s.keep e)) (.cons (.str z) .nil), ?_, ?_, ?_, h.fitL (by decide), rfl⟩))))⟩
  · simp [SeqAt.shaped, PyData.canLay0, PyData.canLayAll0, PyData.depth, PyData.depthAll, sp_strOk h]
  · simp [PyData.showable, PyData.showableAll]
  · simp [PyData.hasDict, PyData.hasDictAll]
  · simp [PyData.depth, PyData.depthAll]
theorem odd_dict {K : PySem.W.Frag} {H : Hp} {L : List TbE} {p : Addr} (e : H p = some (.dK [])) : Odd K H L (.ref p) :=
  ⟨.inr ⟨p, [], rfl, e⟩, _, fun H' s => .inr (.inr (.inr (.inr (.inr ⟨p, rfl, s.keep e, rfl⟩))))⟩
/-- nothing at D is a tuple or an instance -/
def Bare (D : List Addr) (H : Hp) : Prop := ∀ p ∈ D, ∀ o, H p = some o → (∀ xs, o ≠ .tup xs) ∧ (∀ o' u, o ≠ .frz o' u) ∧ ∀ c d f, o ≠ .ins c d f
theorem Deck.bare {H : Hp} {d c : Addr} {n : Nat} (D : Deck H d c n) : Bare [d, c] H := by
  obtain ⟨cs, b, h1, h2, _⟩ := D.ex
  intro p hp o ho
  simp only [List.mem_cons, List.not_mem_nil, or_false] at hp
  rcases hp with rfl | rfl
  · rw [h1] at ho
    cases ho
    exact ⟨fun _ z => (by cases z), fun _ _ z => (by cases z), fun _ _ _ z => (by cases z)⟩
  · rw [h2] at ho
    cases ho
    exact ⟨fun _ z => (by cases z), fun _ _ z => (by cases z), fun _ _ _ z => (by cases z)⟩
theorem sqt_bare {K : PySem.W.Frag} {H H' : Hp} {D : List Addr} {a : Addr} {xs : List V} (h : SqT K H a xs) (s : Sm D H H') (n : Bare D H) : SqT K H' a xs := by
  rcases h with (h | ⟨o, h⟩) | h
  · exact .inl (.inl (s _ _ h fun z => (n a z _ h).1 xs rfl))
  · exact .inl (.inr ⟨o, s _ _ h fun z => (n a z _ h).2.1 _ _ rfl⟩)
  · exact .inr h
theorem Bare.nt {D : List Addr} {H : Hp} (n : Bare D H) : NT D H := fun a ha xs e => (n a ha _ e).1 xs rfl
theorem SchAt.bare {K : PySem.W.Frag} {C : Addr} {H H' : Hp} {D : List Addr} {a : Addr} {L : List TbE} (t : SchAt K C H a L) (s : Sm D H H') (n : Bare D H) : SchAt K C H' a L := by
  obtain ⟨dx, p, h1, h2⟩ := t.ex
  refine ⟨⟨dx, p, s _ _ h1 fun z => (n a z _ h1).2.2 _ _ _ rfl, s _ _ h2 fun z => (n p z _ h2).1 _ rfl⟩, fun e he => ?_, t.nd, t.few⟩
  obtain ⟨⟨i, u, h1, h2, h3⟩, h4, h5, h6⟩ := t.all e he
  exact ⟨⟨i, u, s _ _ h1 fun z => (n _ z _ h1).1 _ rfl, sqt_bare h2 s n, sqt_bare h3 s n⟩, sqt_bare h4 s n, h5, h6⟩
theorem DbAt.bare {K : PySem.W.Frag} {CS CD : Addr} {H H' : Hp} {D : List Addr} {d s : Addr} {L : List TbE} {ps : List PtE} (t : DbAt K CS CD H d s L ps) (s1 : Sm D H H') (n : Bare D H) : DbAt K CS CD H' d s L ps := by
  obtain ⟨dx, p, h1, h2⟩ := t.ex
  refine ⟨⟨dx, p, s1 _ _ h1 fun z => (n d z _ h1).2.2 _ _ _ rfl, s1 _ _ h2 fun z => (n p z _ h2).1 _ rfl⟩, t.sch.bare s1 n, t.nm, fun e he => ?_⟩
  obtain ⟨b, hb, hn, ho⟩ := t.pts e he
  exact ⟨b, hb, hn, ho.kp (s1.kpD n.nt)⟩
/-- the part and the table of a name -/
theorem part_at {L : List TbE} {ps : List PtE} (h : ps.map PtE.nm = L.map TbE.nm) {b : TbE} (hb : b ∈ L) : ∃ e ∈ ps, e.nm = b.nm := by
  have : b.nm ∈ ps.map PtE.nm := by
    rw [h]
    exact List.mem_map.mpr ⟨b, hb, rfl⟩
  obtain ⟨e, he, q⟩ := List.mem_map.mp this
  exact ⟨e, he, q⟩
end K92

/-! are rows right -/
namespace K92
open PySem PySem.Spec PyProof.Rows L2
abbrev sRr : Stmt := topS 82
abbrev nRr : List Str := ["deck", "columns", "base", "names", "rows", "turn", "due", "told", "row", "table", "schema", "data", "first", "database", "odd", "e", "column", "at"]
theorem scRr : FnScope ["deck", "columns", "base", "names", "rows", "turn", "due", "told", "row", "table", "schema", "data", "first", "database", "odd", "e", "column", "at"] ["deck", "columns"] (defScope sRr) := ⟨rfl, rfl, rfl, by decide +kernel, rfl, by decide +kernel, by decide +kernel⟩
section
variable {P : Program} {w : World} {K : PySem.W.Frag} {mg : Str → Option Value} {base : Heap}
/-- what Schema's maker promises, its tables starred -/
def spSiR (K : PySem.W.Frag) (C : Addr) : Sp := fun vs H Q E => ∃ ws rest, vs = ws ++ rest ∧ ws.length = (["self"] : List Str).length ∧ rest.length ≤ sizeLine ∧ ∀ p, H p = Option.none → spSi K C (ws ++ [V.ref p]) (upd H p (.tup rest)) Q E
structure DR (P : Program) (w : World) (K : PySem.W.Frag) (mg : Str → Option Value) (base : Heap) (CS CD Nt WEa fi fp fg fc p fN fi2 fs fpo fgd pd : Addr) : Prop where
  draw : Cal P w K mg base "_law_draw" ["deck", "ways"] 1 spDraw
  pick : Cal P w K mg base "_law_pick" ["deck", "some"] 2 spPick
  nm : Cal P w K mg base "_law_names" ["deck", "many"] 3 spNm
  lz : Cal P w K mg base "_law_least_zone" ["columns", "rows"] 2 (spLz K)
  sm : ∀ n, Cal P w K mg base "_law_same" ["told", "due"] n (spSm n)
  zo : Cal P w K mg base "zone_of" ["columns", "rows"] 2 (spZo K)
  zoK : CalK P w K mg base "zone_of" ["columns", "rows"] ["rows", "columns"] kw2 2 (spZo K)
  zn : Cal P w K mg base "is_in_zone" ["columns", "zone", "values"] 2 (spZn K)
  zt : CalX P w K mg base "zone_of_table" ["database", "table"] 5 (spZt K CS CD Nt)
  ztK : CalXK P w K mg base "zone_of_table" ["database", "table"] ["table", "database"] kw2 5 (spZt K CS CD Nt)
  T : SchC K mg CS fi fp fg fc p
  TD : DbC K mg CD fi2 fs fpo fgd pd
  TN : NtC K mg Nt fN WEa
  FS : FnR P w K mg base CX0 5 fi (spSiR K CS)
  FD : ∃ fd : FuncData, FnOk P w K mg base CX0 6 fi2 fd ["self", "schema", "data"] (spDi K CS CD) ∧ Binds K fd ["self", "schema", "data"] []
  xf : XfC K Nt
  ec : ExcC K Nt
  ex : PySem.W.exmOne K (.ref Nt) (.ref Nt) = some true
  ki : PySem.W.kitOne K (.ref Nt) (.ref WEa) = some true
def spRr : Sp := fun vs H Q _ => ∃ (d c a : Addr) (n : Nat) (cs : List Str), vs = [.ref d, .ref a] ∧ Deck H d c n ∧ n + 300 < 2 ^ 40 ∧ Cols H a cs ∧ Nms cs ∧ (∀ z ∈ cs, Sh z) ∧
  ∀ (m : Nat) H', Sm [d, c] H H' → Deck H' d c m → m ≤ n + 100 → Q (.bl true) H'
abbrev tSuite (K : PySem.W.Frag) (Nt WEa : Addr) (a : Addr) (cls : Value) (d : Option Addr) : TS := tRet (tAndV (tCB (rIsD K Nt a cls d) (tCons (tVar 15) (tCons (tC (.ref WEa)) tNil)))
  (tOp rEq (tCB (rReprA K) (tCons (tXf a cls d Nt "name" (tVar 15)) tNil)) (tCB (rReprA K) (tCons (tVar 14) tNil))))
theorem sp0_nil : Sp0 ("" : Str) 8 := ⟨by decide, fun c h => by
  have : TL.tl ("" : Str) = [] := by decide +kernel
  rw [this] at h
  cases h⟩
theorem cut_sq {K : PySem.W.Frag} {H1 : Hp} {a : Addr} {xs : List V} {lo hi : Option Int} {R : VK} (ha : SqT K H1 a xs) (q : ∀ b H2, Sm [] H1 H2 → SqT K H2 b (cutV xs lo hi) → R (.ref b) H2) : rSlA K (.ref a) lo hi H1 R := by
  refine ⟨a, xs, rfl, ha, fun hw => ?_, fun _ p hp => q p _ (Sm.refl.new hp) (SqT.of upd_same)⟩
  refine q a H1 Sm.refl ?_
  unfold cutV
  rw [hw.1, hw.2, List.drop_zero, Nat.sub_zero, List.take_length]
  exact ha
theorem name_ix {K : PySem.W.Frag} {H : Hp} {Q : VK} {l : Addr} {ns : List Str} {i : Nat} {z : Str} (e : H l = some (.lst (ns.map V.str))) (h : ns[i]? = some z) (q : Q (.str z) H) : rIx K (.ref l) (.int (i : Nat)) H Q :=
  .inl ⟨l, _, i, .str z, rfl, rfl, SqL.of e, atI_nat (j := i) (by rw [List.getElem?_map, h]; rfl), q⟩
theorem fn_rr {CS CD Nt WEa fi fp fg fc p fN fi2 fs fpo fgd pd : Addr} {f : Addr} {fd : FuncData} (F : Fun K "_law_are_rows_right" "_law_are_rows_right" sRr f fd) (B : Bn mg) (C : DR P w K mg base CS CD Nt WEa fi fp fg fc p fN fi2 fs fpo fgd pd) : FnG P w K mg base 8 f fd ["deck", "columns"] spRr := by
  refine fnG_of F scRr (fun vs H Q E h => ?_) (fun cdv A outer s H vs Q E hg hr h => ?_)
  · obtain ⟨d, c, a, n, cs, rfl, _⟩ := h
    rfl
  · obtain ⟨d, c, a, n, cs, rfl, hD, hn, hA, hC, hS, q⟩ := h
    have nd := scRr.nd
    obtain ⟨fdD, FD, bD⟩ := C.FD
    have hu65 := un65_of hr
    refine ⟨_, pss_cons (ps_asg (pe_tup (pa_cons (pe_own (C.pick.mono (by decide)) hr (pa_cons (pv 0) (pa_cons (pe_lst (pa_cons pe_int (pa_cons pe_int (pa_cons pe_int (pa_cons (pe_un un_neg (pe_op op_pow pe_int pe_int)) (pa_cons (pe_op op_pow pe_int pe_int) pa_nil)))))) pa_nil)))
          (pa_cons (pe_own (C.nm.mono (by decide)) hr (pa_cons (pv 0) (pa_cons pe_int pa_nil))) pa_nil)))
        (pg_tup rfl (pgs_cons (pg_name (i := 2) nd rfl (.inr rfl) (.inl rfl)) (pgs_cons (pg_name (i := 3) nd rfl (.inl rfl)) pgs_nil))))
      (pss_cons (ps_set (i := 4) nd rfl (.inl rfl) (pe_lst pa_nil))
      (pss_cons (ps_for PassesOwn.never rfl (pi_range1 (by rfl) B.range (pa_cons (pe_own (C.pick.mono (by decide)) hr (pa_cons (pv 0) (pa_cons (pe_lst (pa_cons pe_int (pa_cons pe_int (pa_cons pe_int (pa_cons pe_int (pa_cons pe_int (pa_cons pe_int pa_nil))))))) pa_nil))) pa_nil)) (pg_name (i := 5) nd rfl (.inl rfl))
        (pss_one (ps_expr (pe_bm PySem.F.plainAttrs_list PySem.F.slot_list_append PySem.F.type_list_append mt_append (pv 4) (pa_cons (pe_callTy call_tuple_of (by rfl) B.tuple boot_tuple (pa_cons
          (pe_lc (own := [("column", 16)]) (g := gName 16) (tt := tYes) (te := tOp (rI0 fun i j => .int (i - j)) (tOp (rI0 fun i j => .int (i + j)) (tVar 2) (tCall spDraw [] E0 (tCons (tVar 0) (tCons (tC (.int 9)) tNil)))) (tC (.int 4))) rfl nd (pi_tup (pv 1)) (blkOk_by (N := nRr) (sc := defScope sRr) (by decide +kernel))
            (fun _ _ _ _ _ => pg_name (i := 16) nd rfl (.inl rfl)) (fun _ _ _ _ _ => pts_nil)
            (fun _ _ _ _ _ => pe_op op_sub (pe_op op_add (pv 2) (pe_own (C.draw.mono (by decide)) hr (pa_cons (pv 0) (pa_cons pe_int pa_nil)))) pe_int)) pa_nil)) pa_nil)))))
      (pss_cons (ps_set (i := 6) nd rfl (.inl rfl) (pe_own (C.lz.mono (by decide)) hr (pa_cons (pv 1) (pa_cons (pv 4) pa_nil))))
      (pss_cons (ps_set (i := 7) nd rfl (.inl rfl) (pe_lst (pa_cons (pe_own (C.zo.mono (by decide)) hr (pa_cons (pv 1) (pa_cons (pe_callTy call_tuple_of (by rfl) B.tuple boot_tuple (pa_cons (pv 4) pa_nil)) pa_nil)))
          (pa_cons (pe_ownC (C.zoK.mono (by decide)) hr (pk_cons (pe_callTy call_tuple_of (by rfl) B.tuple boot_tuple (pa_cons (pe_op op_cat (pe_revL (pv 4)) (pe_slice sl_list (pv 4) po_none (po_some pe_int))) pa_nil)) (pk_cons (pv 1) pk_nil))) pa_nil))))
      (pss_cons (ps_if (pt_not (pt_val (pe_own ((C.sm 4).mono (by decide)) hr (pa_cons (pv 7) (pa_cons (pe_lst (pa_cons (pv 6) (pa_cons (pv 6) pa_nil))) pa_nil))))) (pss_one (ps_ret pe_bl)) pss_nil)
      (pss_cons (ps_for PassesOwn.never rfl (pi_list (pv 4)) (pg_name (i := 8) nd rfl (.inl rfl))
        (pss_one (ps_if (pt_cmpR op_isnot_bl (pe_own (C.zn.mono (by decide)) hr (pa_cons (pv 1) (pa_cons (pv 6) (pa_cons (pv 8) pa_nil)))) pe_bl (nomark _)) (pss_one (ps_ret pe_bl)) pss_nil)))
      (pss_cons (ps_set (i := 9) nd rfl (.inl rfl) (pe_tup (pa_cons (pe_ix ix_seq (pv 3) pe_int (fun _ _ => rfl)) (pa_cons (pv 1) (pa_cons (pe_tup pa_nil) (pa_cons (pe_tup pa_nil) pa_nil))))))
      (pss_cons (ps_set (i := 10) nd rfl (.inl rfl) (StX.pe_makeR C.T.mkS C.FS (hr.mono (by decide)) (by rfl) C.T.gC pass0 (pa_cons (pv 9) (pa_cons (pe_tup (pa_cons (pe_ix ix_seq (pv 3) pe_int (fun _ _ => rfl)) (pa_cons (pe_slice sl_tupA (pv 1) po_none (po_some pe_int)) (pa_cons (pe_tup pa_nil) (pa_cons (pe_tup pa_nil) pa_nil))))) pa_nil))))
      (pss_cons (ps_asg (pe_tup (pa_cons (pe_lst pa_nil) (pa_cons (pe_own (C.draw.mono (by decide)) hr (pa_cons (pv 0) (pa_cons pe_int pa_nil))) pa_nil))) (pg_tup rfl (pgs_cons (pg_name (i := 11) nd rfl (.inl rfl)) (pgs_cons (pg_name (i := 12) nd rfl (.inr rfl) (.inl rfl)) pgs_nil))))
      (pss_cons (ps_expr (pe_bm PySem.F.plainAttrs_list PySem.F.slot_list_append PySem.F.type_list_append mt_append (pv 11) (pa_cons (pe_tup (pa_cons (pe_ix ix_seq (pv 3) pe_int (fun _ _ => rfl)) (pa_cons (pe_op op_add (pv 12) (pe_callB call_len (by rfl) B.len boot_len (pa_cons (pv 4) pa_nil)))
          (pa_cons (pe_callTy call_tuple_of (by rfl) B.tuple boot_tuple (pa_cons
            (pe_lc (own := [("at", 17), ("row", 8)]) (g := gTup K 2 (gCons (gName 17) (gCons (gName 8) gNil))) (tt := tYes) (te := tTup (tCons (tOp (rI0 fun i j => .int (i + j)) (tVar 12) (tVar 17)) (tCons (tVar 8) tNil))) rfl nd (pi_enum (by rfl) B.enumerate (pa_cons (pv 4) pa_nil)) (blkOk_by (N := nRr) (sc := defScope sRr) (by decide +kernel))
              (fun _ _ _ _ _ => pg_tup rfl (pgs_cons (pg_name (i := 17) nd rfl (.inl rfl)) (pgs_cons (pg_name (i := 8) nd rfl (.inl rfl)) pgs_nil))) (fun _ _ _ _ _ => pts_nil)
              (fun _ _ _ _ _ => pe_tup (pa_cons (pe_op op_add (pv 12) (pv 17)) (pa_cons (pv 8) pa_nil)))) pa_nil)) pa_nil)))) pa_nil)))
      (pss_cons (ps_set (i := 13) nd rfl (.inl rfl) (pe_make C.TD.mkS FD (hr.mono (by decide)) (by rfl) C.TD.gC bD .nil pass0 (pa_cons (pv 10) (pa_cons (pe_callTy call_tuple_of (by rfl) B.tuple boot_tuple (pa_cons (pv 11) pa_nil)) pa_nil))))
      (pss_cons (ps_set (i := 7) nd rfl (.inl rfl) (pe_lst (pa_cons (pe_ownX C.zt (hr.mono (by decide)) (pa_cons (pv 13) (pa_cons (pe_ix ix_seq (pv 3) pe_int (fun _ _ => rfl)) pa_nil)))
          (pa_cons (pe_ownXK C.ztK (hr.mono (by decide)) (pk_cons (pe_ix ix_seq (pv 3) pe_int (fun _ _ => rfl)) (pk_cons (pv 13) pk_nil))) pa_nil))))
      (pss_cons (ps_if (PW.pt (pw_or (pt_not (pt_val (pe_own ((C.sm 4).mono (by decide)) hr (pa_cons (pv 7) (pa_cons (pe_lst (pa_cons (pv 6) (pa_cons (pv 6) pa_nil))) pa_nil)))))
          (pw_or1 (pt_cmpR op_notN (pe_ownX C.zt (hr.mono (by decide)) (pa_cons (pv 13) (pa_cons (pe_ix ix_seq (pv 3) pe_int (fun _ _ => rfl)) pa_nil))) pe_non (nomark _))))) (pss_one (ps_ret pe_bl)) pss_nil)
      (pss_cons (ps_set (i := 14) nd rfl (.inl rfl) (pe_own (C.pick.mono (by decide)) hr (pa_cons (pv 0) (pa_cons (pe_lst (pa_cons (pe_ix ix_seq (pv 3) pe_int (fun _ _ => rfl)) (pa_cons pe_str (pa_cons pe_non (pa_cons pe_int (pa_cons pe_bl
          (pa_cons (pe_tup (pa_cons (pe_ix ix_seq (pv 3) pe_int (fun _ _ => rfl)) pa_nil)) (pa_cons (pe_lst (pa_cons (pe_ix ix_seq (pv 3) pe_int (fun _ _ => rfl)) pa_nil)) (pa_cons pe_dnewK pa_nil))))))))) pa_nil))))
      (pss_cons (ps_try_as (i := 15) (tb := fun W => tDrop (tCallS (spZt K CS CD Nt) (WE W) (tCons (tVar 13) (tCons (tVar 14) tNil)))) (ts := tSuite K Nt WEa) (Wout := fun _ _ _ _ => False) rfl rfl nd rfl rfl ⟨rfl, by decide, .inl C.TN.gC⟩ takes0
          (fun W pn xe tk _ => pss_one (ps_expr (pe_ownS C.zt (hr.mono (by decide)) tk (pa_cons (pv 13) (pa_cons (pv 14) pa_nil)))))
          (fun a oe cls d pn hz hf => pss_one (ps_ret (pe_and (pe_callB (call_isD C.ec hz hf) (by rfl) B.isinstance boot_isinstance (pa_cons (pv 15) (pa_cons (pe_glob (v := .ref WEa) (by rfl) C.TN.wE rfl) pa_nil)))
            (pe_one (pe_cmpR op_eq (pe_callB (call_reprA hg hu65) (by rfl) B.repr boot_repr (pa_cons (pe_xf C.xf C.TN.noN hz hf (pv 15)) pa_nil)) (pe_callB (call_reprA hg hu65) (by rfl) B.repr boot_repr (pa_cons (pv 14) pa_nil)) (nomark _)))))))
      (pss_one (ps_ret pe_bl))))))))))))))))), ?_⟩
    -- base, names
    refine ⟨.ref d, rfl, 10, 9, rfl, rfl, ⟨by decide, by decide, by decide⟩, _, rfl, 10, 11, rfl, rfl, ⟨by decide, by decide, by decide⟩, (by show 5 ≤ sizeLine; decide), fun lp hlp => ?_⟩
    have s1 : Sm [] H (upd H lp (.lst [.int 0, .int 0, .int 7, .int (-10 ^ (9 : Int).toNat), .int (10 ^ (11 : Int).toNat)])) := Sm.refl.new hlp
    have e1 : (upd H lp (.lst [.int 0, .int 0, .int 7, .int (-10 ^ (9 : Int).toNat), .int (10 ^ (11 : Int).toNat)])) lp = some (.lst [.int 0, .int 0, .int 7, .int (-10 ^ (9 : Int).toNat), .int (10 ^ (11 : Int).toNat)]) := upd_same
    have nlp := hD.outN hlp
    generalize upd H lp (.lst [.int 0, .int 0, .int 7, .int (-10 ^ (9 : Int).toNat), .int (10 ^ (11 : Int).toNat)]) = H1 at s1 e1
    have D1 := hD.keep s1
    have A1 := hA.sm s1 (by simp)
    refine ⟨d, c, n, .ref lp, _, rfl, D1, by omega, .inl ⟨lp, rfl, e1, nlp⟩, by simp, (by show 5 < 1073741824; decide), fun i2 x2 H2 hx2 s2 D2 => ?_⟩
    obtain ⟨bs, rfl⟩ : ∃ bs : Int, x2 = .int bs := by
      have hm := List.mem_of_getElem? hx2
      simp only [List.mem_cons, List.not_mem_nil, or_false] at hm
      rcases hm with rfl | rfl | rfl | rfl | rfl <;> exact ⟨_, rfl⟩
    have A2 := A1.sm s2 (A1.out D1)
    refine ⟨.ref d, rfl, d, c, n + 1, 4, rfl, D2, by omega, by omega, by omega, fun l ns H3 s3 D3 hl3 el3 hN => ⟨(by show 2 ≤ sizeLine; decide), fun t3 ht3 => ?_⟩⟩
    have A3 := A2.sm s3 (A2.out D2)
    have nl := D2.outN hl3
    have s4 : Sm [] H3 (upd H3 t3 (.tup [.int bs, .ref l])) := Sm.refl.new ht3
    have e4 : (upd H3 t3 (.tup [.int bs, .ref l])) t3 = some (.tup [.int bs, .ref l]) := upd_same
    generalize upd H3 t3 (.tup [.int bs, .ref l]) = H4 at s4 e4
    refine ⟨t3, _, rfl, SqT.of e4, rfl, _, _, rfl, _, _, rfl, rfl, ?_⟩
    have q4 : Sm [d, c] H H4 := ((s1.nil.trans s2).trans s3).trans s4.nil
    have D4 := D3.keep s4
    have A4 := A3.sm s4 (by simp)
    have el4 := s4.keep el3
    obtain ⟨m4, hm4, D4⟩ : ∃ m4, m4 ≤ n + 11 ∧ Deck H4 d c m4 := ⟨_, by omega, D4⟩
    clear e4 s4 ht3 A3 D3 s3 A2 D2 s2 hx2 A1 D1 nlp e1 s1 hlp el3 hl3
    -- rows
    refine ⟨Nat.zero_le _, fun R hR => ?_⟩
    have nR := D4.outN hR
    have s5 : Sm [] H4 (upd H4 R (.lst [])) := Sm.refl.new hR
    have e5 : (upd H4 R (.lst [])) R = some (.lst []) := upd_same
    generalize upd H4 R (.lst []) = H5 at s5 e5
    refine ⟨.ref d, rfl, (by show 6 ≤ sizeLine; decide), fun lp hlp => ?_⟩
    have s6 : Sm [] H5 (upd H5 lp (.lst [.int 0, .int 1, .int 2, .int 3, .int 5, .int 8])) := Sm.refl.new hlp
    have e6 : (upd H5 lp (.lst [.int 0, .int 1, .int 2, .int 3, .int 5, .int 8])) lp = some (.lst [.int 0, .int 1, .int 2, .int 3, .int 5, .int 8]) := upd_same
    have D5 := D4.keep s5
    have nlp := D5.outN hlp
    generalize upd H5 lp (.lst [.int 0, .int 1, .int 2, .int 3, .int 5, .int 8]) = H6 at s6 e6
    have D6 := D5.keep s6
    refine ⟨d, c, m4, .ref lp, _, rfl, D6, by omega, .inl ⟨lp, rfl, e6, nlp⟩, by simp, (by show 6 < 1073741824; decide), fun i7 x7 H7 hx7 s7 D7 => ?_⟩
    obtain ⟨cnt, rfl, c0, c8⟩ : ∃ cnt : Int, x7 = .int cnt ∧ 0 ≤ cnt ∧ cnt ≤ 8 := by
      have hm := List.mem_of_getElem? hx7
      simp only [List.mem_cons, List.not_mem_nil, or_false] at hm
      rcases hm with rfl | rfl | rfl | rfl | rfl | rfl <;> exact ⟨_, rfl, by decide, by decide⟩
    have q7 : Sm [d, c] H4 H7 := (s5.nil.trans s6.nil).trans s7
    have e7 : H7 R = some (.lst []) := s7 _ _ (s6.keep e5) nR
    clear D6 e6 s6 hlp nlp D5 s7 e5 s5 hx7
    have cle := hC.le
    refine ⟨cnt, rfl, by omega, by omega, for_range (fun i σ H' => ∃ (y5 : Option V) (xs : List V) (rows : List (List Int)), σ = [some (.ref d), some (.ref a), some (.int bs), some (.ref l), some (.ref R), y5, none, none, none, none, none, none, none, none, none, none, none, none] ∧ Sm [d, c] H4 H' ∧ (∃ m, m ≤ m4 + 1 + 3 * i ∧ Deck H' d c m) ∧ H' R = some (.lst xs) ∧ RowAll H' cs.length xs rows ∧ rows.length = i) ?_ ?_ ?_⟩
    · exact ⟨none, [], [], rfl, q7, ⟨_, by omega, D7⟩, e7, .nil, rfl⟩
    · rintro i σ H8 hi ⟨y5, xs, rows, rfl, s8, ⟨m8, hm8, D8⟩, e8, R8, l8⟩
      have i8 : i < 8 := by omega
      have A8 := A4.sm s8 (A4.out D4)
      refine ⟨.ref R, rfl, .inl ⟨rfl, _, SqL.of e8⟩, .ref a, rfl, a, rfl, ⟨_, A8.sq⟩, fun D hDn => ?_⟩
      have nD := D8.outN hDn
      have nRD : R ≠ D := ne_of_none e8 hDn
      refine lc_it (walk_tup (K := K) (a := a) (xs := cs.map V.str)) (fun j H' => ∃ r : List Int, H' D = some (.lst (r.map V.int)) ∧ Sm [d, c] H8 H' ∧ Deck H' d c (m8 + j) ∧ r.length = j) ?_ ?_ ?_ ?_
      · exact ⟨[], upd_same, Sm.refl.new hDn, D8.upd nD, rfl⟩
      · rintro j H' _ ⟨r, g1, g2, g3, g4⟩
        exact (A8.sm g2 (A8.out D8)).sq
      · rintro j x H9 H9' hj ⟨r, g1, g2, g3, g4⟩ ⟨rfl, hx⟩
        have hj3 : j < 3 := by
          rw [List.length_map] at hj
          omega
        refine ⟨rfl, .int bs, rfl, .ref d, rfl, d, c, m8 + j, 9, rfl, g3, by omega, by omega, by omega, fun v H10 v0 v1 s10 D10 => ?_⟩
        refine ⟨bs, v, rfl, rfl, bs + v, 4, rfl, rfl, _, s10 _ _ g1 nD, small16 (by rw [List.length_map]; omega), r ++ [bs + v - 4], ?_, (g2.trans s10).own hDn, D10.upd nD, by rw [List.length_append, g4]; rfl⟩
        rw [upd_same, List.map_append]
        rfl
      · rintro H9 ⟨r, g1, g2, g3, g4⟩
        rw [List.length_map] at g3 g4
        refine ⟨D, _, rfl, .inl ⟨SqL.of g1, fun t ht => ?_⟩⟩
        have s10 : Sm [] H9 (upd H9 t (.tup (r.map V.int))) := Sm.refl.new ht
        have e10 : (upd H9 t (.tup (r.map V.int))) t = some (.tup (r.map V.int)) := upd_same
        generalize upd H9 t (.tup (r.map V.int)) = H10 at s10 e10
        have eR : H10 R = some (.lst xs) := s10.keep (g2 _ _ e8 nR)
        have hxl := R8.len
        have kl := list_kp (ys := xs ++ [.ref t]) eR
        refine ⟨R, _, _, rfl, rfl, eR, small16 (by omega), _, xs ++ [.ref t], rows ++ [r], rfl, ((s8.trans g2).trans s10.nil).own hR, ⟨m8 + cs.length, by omega, (g3.keep s10).upd nR⟩, upd_same, ?_, by rw [List.length_append, l8]; rfl⟩
        exact (R8.kp (((g2.kpD D8.nt).trans s10.kp).trans kl)).app (.cons (kl _ _ e10) g4 .nil)
    rintro σ H8 ⟨y5, xs, rows, rfl, s8, ⟨m8, hm8, D8⟩, e8, R8, l8⟩
    clear e7 q7 D7
    have A8 := A4.sm s8 (A4.out D4)
    have el8 := s8 _ _ el4 nl
    have q8 := q4.trans s8
    have rl8 : rows.length ≤ 8 := by omega
    have nR8 : R ∉ [d, c] := nR
    clear D4 A4 el4 q4 s8 hR
    -- due
    refine ⟨.ref a, rfl, .ref R, rfl, a, R, cs, xs, rows, rfl, A8, hC, e8, R8, by omega, fun vd H9 s9 hd9 => ?_⟩
    have e9 := s9.keep e8
    have R9 := R8.kp s9.kp
    have A9 := A8.sm s9 (by simp)
    have xl := R8.len
    have big : (1000 : Nat) ≤ sizeLine := by decide
    -- told
    refine ⟨.ref a, rfl, .ref R, rfl, R, xs, rfl, .inl ⟨SqL.of e9, fun t10 ht10 => ?_⟩⟩
    have s10 : Sm [] H9 (upd H9 t10 (.tup xs)) := Sm.refl.new ht10
    have e10 : (upd H9 t10 (.tup xs)) t10 = some (.tup xs) := upd_same
    generalize upd H9 t10 (.tup xs) = H10 at s10 e10
    refine ⟨a, t10, cs, xs, rows, rfl, (A9.sm s10 (by simp)).sq, cle, hC.nd, hC.full, e10, R9.kp s10.kp, by omega, fun v11 H11 s11 h11 => ?_⟩
    have s911 := s10.trans s11
    have e11 := s911.keep e9
    refine ⟨.ref R, rfl, R, xs, rfl, SqL.of e11, fun p12 hp12 => ?_⟩
    have s12 : Sm [] H11 (upd H11 p12 (.lst xs.reverse)) := Sm.refl.new hp12
    have e12 : (upd H11 p12 (.lst xs.reverse)) p12 = some (.lst xs.reverse) := upd_same
    generalize upd H11 p12 (.lst xs.reverse) = H12 at s12 e12
    refine ⟨.ref R, rfl, 1, rfl, R, xs, rfl, SqL.of (s12.keep e11), fun p13 hp13 => ?_⟩
    rw [cut_one]
    have s13 : Sm [] H12 (upd H12 p13 (.lst (xs.take 1))) := Sm.refl.new hp13
    have e13 : (upd H12 p13 (.lst (xs.take 1))) p13 = some (.lst (xs.take 1)) := upd_same
    generalize upd H12 p13 (.lst (xs.take 1)) = H13 at s13 e13
    refine ⟨p12, p13, _, _, rfl, rfl, s13.keep e12, e13, ?_, fun p14 hp14 => ?_⟩
    · rw [List.length_reverse, List.length_take]
      omega
    have s14 : Sm [] H13 (upd H13 p14 (.lst (xs.reverse ++ xs.take 1))) := Sm.refl.new hp14
    have e14 : (upd H13 p14 (.lst (xs.reverse ++ xs.take 1))) p14 = some (.lst (xs.reverse ++ xs.take 1)) := upd_same
    generalize upd H13 p14 (.lst (xs.reverse ++ xs.take 1)) = H14 at s14 e14
    refine ⟨p14, _, rfl, .inl ⟨SqL.of e14, fun t15 ht15 => ?_⟩⟩
    have s15 : Sm [] H14 (upd H14 t15 (.tup (xs.reverse ++ xs.take 1))) := Sm.refl.new ht15
    have e15 : (upd H14 t15 (.tup (xs.reverse ++ xs.take 1))) t15 = some (.tup (xs.reverse ++ xs.take 1)) := upd_same
    generalize upd H14 t15 (.tup (xs.reverse ++ xs.take 1)) = H15 at s15 e15
    have s1115 := ((s12.trans s13).trans s14).trans s15
    have s915 := s911.trans s1115
    have R15 := R9.kp s915.kp
    refine ⟨.ref a, rfl, a, t15, cs, xs.reverse ++ xs.take 1, rows.reverse ++ rows.take 1, rfl, (A9.sm s915 (by simp)).sq, cle, hC.nd, hC.full, e15, R15.rev.app (R15.take 1), ?_, fun v16 H16 s16 h16 => ⟨(by show 2 ≤ sizeLine; decide), fun p17 hp17 => ?_⟩⟩
    · rw [List.length_append, List.length_reverse, List.length_take]
      omega
    rw [zone_set (rows_again rows)] at h16
    have s17 : Sm [] H16 (upd H16 p17 (.lst [v11, v16])) := Sm.refl.new hp17
    have e17 : (upd H16 p17 (.lst [v11, v16])) p17 = some (.lst [v11, v16]) := upd_same
    generalize upd H16 p17 (.lst [v11, v16]) = H17 at s17 e17
    refine next_in ?_
    dsimp only
    refine ⟨.ref p17, rfl, vd, rfl, vd, rfl, (by show 2 ≤ sizeLine; decide), fun p18 hp18 => ?_⟩
    have s18 : Sm [] H17 (upd H17 p18 (.lst [vd, vd])) := Sm.refl.new hp18
    have e18 : (upd H17 p18 (.lst [vd, vd])) p18 = some (.lst [vd, vd]) := upd_same
    generalize upd H17 p18 (.lst [vd, vd]) = H18 at s18 e18
    have s1618 := s17.trans s18
    have s918 := (s915.trans s16).trans s1618
    refine ⟨.ref p17, .ref p18, 3, rfl, rfl, alk_two (s18.keep e17) e18 (alk_bdsO (h11.kp ((s1115.trans s16).trans s1618).kp) (hd9.kp s918.kp)) (alk_bdsO (h16.kp s1618.kp) (hd9.kp s918.kp)), fun H19 s19 => ⟨_, rfl, ite2 (fun z => by cases z) fun _ => ?_⟩⟩
    have s919 := s918.trans s19
    have d19 : BdsO H19 vd (zoneO cs (("" : Str) :: cs) rows) := hd9.kp s919.kp
    have e19 := s919.keep e9
    have R19 := R9.kp s919.kp
    have A19 := A9.sm s919 (by simp)
    have el19 := s919.keep (s9.keep el8)
    have D19 := (D8.keep s9).keep s919
    have q19 := (q8.trans s9.nil).trans s919.nil
    clear s918 s1618 e18 s18 hp18 e17 s17 hp17 h16 s16 R15 s915 s1115 e15 s15 ht15 e14 s14 hp14 e13 s13 hp13 e12 s12 hp12 e11 s911 h11 s11 e10 s10 ht10 A9 R9 e9 hd9 A8 R8 e8 el8 D8 q8 s919 s19 s9
    -- every row
    refine next_in ?_
    dsimp only
    refine seq_in ?_
    refine ⟨.ref R, rfl, R, rfl, ⟨_, SqL.of e19⟩, for_list (xs := xs) (fun i σ H' => ∃ y8 : Option V, σ = [some (.ref d), some (.ref a), some (.int bs), some (.ref l), some (.ref R), y5, some vd, some (.ref p17), y8, none, none, none, none, none, none, none, none, none] ∧ Sm [] H19 H') ?_ ?_ ?_ ?_⟩
    · exact ⟨none, rfl, Sm.refl⟩
    · rintro i σ H' _ ⟨y8, rfl, s⟩
      exact SqL.of (s.keep e19)
    · rintro i x σ H20 hx ⟨y8, rfl, s20⟩
      obtain ⟨pr, r, rfl, hr1, hr2, hr3⟩ := (R19.kp s20.kp).get hx
      refine ⟨.ref a, rfl, vd, rfl, .ref pr, rfl, a, vd, pr, cs, r, _, rfl, (A19.sm s20 (by simp)).sq, hC.nd, d19.kp s20.kp, hr2, hr3.symm, zoneO_ok cle rows, fun H21 s21 => ?_⟩
      rw [zoneO_row (List.mem_of_getElem? hr1)]
      exact ⟨true, true, rfl, rfl, _, rfl, ite2 (fun z => by cases z) fun _ => ⟨_, rfl, s20.trans s21⟩⟩
    rintro σ H20 ⟨y8, rfl, s20⟩
    have e20 := s20.keep e19
    have R20 := R19.kp s20.kp
    have A20 := A19.sm s20 (by simp)
    have el20 := s20.keep el19
    have D20 := D19.keep s20
    have d20 := d19.kp s20.kp
    have q20 := q19.trans s20.nil
    clear e19 R19 A19 el19 D19 d19 q19 s20
    obtain ⟨n0, n1, n2, hn0, hn1, hn2, hne01, hne02, hne12⟩ : ∃ n0 n1 n2, ns[0]? = some n0 ∧ ns[1]? = some n1 ∧ ns[2]? = some n2 ∧ n0 ≠ n1 ∧ n0 ≠ n2 ∧ n1 ≠ n2 := by
      have h3 := hN.mo (by decide)
      match ns, h3, hN.nd with
      | a0 :: a1 :: a2 :: r, _, hnd =>
        simp only [List.nodup_cons, List.mem_cons, not_or] at hnd
        exact ⟨a0, a1, a2, rfl, rfl, rfl, hnd.1.1, hnd.1.2.1, hnd.2.1.1⟩
    have sh0 := hN.sh _ (List.mem_of_getElem? hn0)
    have sh1 := hN.sh _ (List.mem_of_getElem? hn1)
    have sh2 := hN.sh _ (List.mem_of_getElem? hn2)
    -- table
    refine ⟨.ref l, rfl, name_ix (i := 0) el20 hn0 ⟨.ref a, rfl, Nat.zero_le _, fun u1 hu1 => ⟨Nat.zero_le _, fun u2 hu2 => ⟨(by show 4 ≤ sizeLine; decide), fun t1 ht1 => ?_⟩⟩⟩⟩
    have s21 : Sm [] H20 (upd H20 u1 (.tup [])) := Sm.refl.new hu1
    have e21 : (upd H20 u1 (.tup [])) u1 = some (.tup []) := upd_same
    generalize upd H20 u1 (.tup []) = H21 at s21 e21 hu2 ht1
    have s22 : Sm [] H21 (upd H21 u2 (.tup [])) := Sm.refl.new hu2
    have e22 : (upd H21 u2 (.tup [])) u2 = some (.tup []) := upd_same
    generalize upd H21 u2 (.tup []) = H22 at s22 e22 ht1
    have s23 : Sm [] H22 (upd H22 t1 (.tup [.str n0, .ref a, .ref u1, .ref u2])) := Sm.refl.new ht1
    have e23 : (upd H22 t1 (.tup [.str n0, .ref a, .ref u1, .ref u2])) t1 = some (.tup [.str n0, .ref a, .ref u1, .ref u2]) := upd_same
    generalize upd H22 t1 (.tup [.str n0, .ref a, .ref u1, .ref u2]) = H23 at s23 e23
    have s2023 := (s21.trans s22).trans s23
    have ck : ColOk cs := ⟨List.length_pos_iff.mpr hC.ne, cle, hC.nd, hS⟩
    have ck1 : ColOk (cs.take 1) := ⟨by rw [List.length_take]; have := List.length_pos_iff.mpr hC.ne; omega, by rw [List.length_take]; omega, hC.nd.sublist (List.take_sublist _ _), fun z h => hS z (List.mem_of_mem_take h)⟩
    have A23 := A20.sm s2023 (by simp)
    have tb1 : Tbl K H23 t1 n0 a cs := ⟨⟨u1, u2, e23, SqT.of (s23.keep (s22.keep e21)), SqT.of (s23.keep e22)⟩, A23.sq, ck, sh0⟩
    have el23 := s2023.keep el20
    -- schema
    refine ⟨.ref t1, rfl, .ref l, rfl, name_ix (i := 1) el23 hn1 ⟨.ref a, rfl, 1, rfl, cut_sq A23.sq fun c2 H24 s24 hc2 => ⟨Nat.zero_le _, fun u3 hu3 => ⟨Nat.zero_le _, fun u4 hu4 => ⟨(by show 4 ≤ sizeLine; decide), fun t2 ht2 x dx hx hdx nx => ?_⟩⟩⟩⟩⟩
    rw [cut_one, ← List.map_take] at hc2
    have s25 : Sm [] H24 (upd H24 u3 (.tup [])) := Sm.refl.new hu3
    have e25 : (upd H24 u3 (.tup [])) u3 = some (.tup []) := upd_same
    generalize upd H24 u3 (.tup []) = H25 at s25 e25 hu4 ht2 hx hdx
    have s26 : Sm [] H25 (upd H25 u4 (.tup [])) := Sm.refl.new hu4
    have e26 : (upd H25 u4 (.tup [])) u4 = some (.tup []) := upd_same
    generalize upd H25 u4 (.tup []) = H26 at s26 e26 ht2 hx hdx
    have s27 : Sm [] H26 (upd H26 t2 (.tup [.str n1, .ref c2, .ref u3, .ref u4])) := Sm.refl.new ht2
    have e27 : (upd H26 t2 (.tup [.str n1, .ref c2, .ref u3, .ref u4])) t2 = some (.tup [.str n1, .ref c2, .ref u3, .ref u4]) := upd_same
    generalize upd H26 t2 (.tup [.str n1, .ref c2, .ref u3, .ref u4]) = H27 at s27 e27 hx hdx
    have s2427 := (s25.trans s26).trans s27
    have tb2 : Tbl K H27 t2 n1 c2 (cs.take 1) := ⟨⟨u3, u4, e27, SqT.of (s27.keep (s26.keep e25)), SqT.of (s27.keep e26)⟩, sqt_sm hc2 s2427, ck1, sh1⟩
    refine ⟨[.ref x], [.ref t1, .ref t2], rfl, rfl, (by show 2 ≤ sizeLine; decide), fun pp hpp => ?_⟩
    have hx' : (upd H27 dx (.own x)) x = none := by rw [upd_ne (Ne.symm nx)]; exact hx
    have s28 : Sm [] H27 (upd (upd (upd H27 dx (.own x)) x (.ins CS dx [])) pp (.tup [.ref t1, .ref t2])) := ((Sm.refl.new hdx).new hx').new hpp
    have ex28 : (upd (upd (upd H27 dx (.own x)) x (.ins CS dx [])) pp (.tup [.ref t1, .ref t2])) x = some (.ins CS dx []) := by
      rw [upd_ne (ne_of_none upd_same hpp)]
      exact upd_same
    have ep28 : (upd (upd (upd H27 dx (.own x)) x (.ins CS dx [])) pp (.tup [.ref t1, .ref t2])) pp = some (.tup [.ref t1, .ref t2]) := upd_same
    generalize upd (upd (upd H27 dx (.own x)) x (.ins CS dx [])) pp (.tup [.ref t1, .ref t2]) = H28 at s28 ex28 ep28
    have s2328 : Sm [] H23 H28 := (s24.trans s2427).trans s28
    refine ⟨x, dx, pp, [⟨t1, n0, a, cs⟩, ⟨t2, n1, c2, cs.take 1⟩], rfl, ex28, ep28, fun e he => ?_, ?_, (by show 2 ≤ 4; decide), fun H29 L' hperm s29 hSch => ⟨rfl, ?_⟩⟩
    · simp only [List.mem_cons, List.not_mem_nil, or_false] at he
      rcases he with rfl | rfl
      · exact tb1.sm s2328
      · exact tb2.sm s28
    · simp [hne01]
    have s2729 : Sm [] H27 H29 := (s28.nil.trans s29).trans' hx
    have s2029 : Sm [] H20 H29 := ((s2023.trans s24).trans s2427).trans s2729
    have e29 := s2029.keep e20
    have R29 := R20.kp s2029.kp
    have A29 := A20.sm s2029 (by simp)
    have el29 := s2029.keep el20
    have D29 := D20.keep s2029
    have d29 := d20.kp s2029.kp
    have q29 := q20.trans s2029.nil
    clear s2729 s2328 s29 s28 ex28 ep28 hpp hx' tb2 s2427 s27 e27 s26 e26 s25 e25 hx hdx ht2 hu3 hu4 hc2 s24 tb1 el23 A23 s2023 s23 e23 s22 e22 s21 e21 ht1 hu2 hu1 e20 R20 A20 el20 D20 d20 q20 s2029
    -- data
    refine ⟨Nat.zero_le _, fun Dl hDl => ?_⟩
    have nDl := D29.outN hDl
    have s30 : Sm [] H29 (upd H29 Dl (.lst [])) := Sm.refl.new hDl
    have e30 : (upd H29 Dl (.lst [])) Dl = some (.lst []) := upd_same
    generalize upd H29 Dl (.lst []) = H30 at s30 e30
    have D30 := D29.keep s30
    refine ⟨.ref d, rfl, d, c, m8, 3, rfl, D30, by omega, by omega, by omega, fun fst H31 f0 f1 s31 D31 => ⟨(by show 2 ≤ sizeLine; decide), fun t32 ht32 => ?_⟩⟩
    have s32 : Sm [] H31 (upd H31 t32 (.tup [.ref Dl, .int fst])) := Sm.refl.new ht32
    have e32 : (upd H31 t32 (.tup [.ref Dl, .int fst])) t32 = some (.tup [.ref Dl, .int fst]) := upd_same
    generalize upd H31 t32 (.tup [.ref Dl, .int fst]) = H32 at s32 e32
    refine ⟨t32, _, rfl, SqT.of e32, rfl, _, _, rfl, _, _, rfl, rfl, ?_⟩
    have s2932 : Sm [d, c] H29 H32 := (s30.nil.trans s31).trans s32.nil
    have eDl := s32.keep (s31 _ _ e30 nDl)
    have D32 := D31.keep s32
    have el32 := s2932 _ _ el29 nl
    have eR32 := s2932 _ _ e29 nR8
    have k2932 := s2932.kpD D29.nt
    have R32 := R29.kp k2932
    refine ⟨.ref Dl, rfl, .inl ⟨rfl, _, SqL.of eDl⟩, .ref l, rfl, name_ix (i := 0) el32 hn0 ⟨.int fst, rfl, .ref R, rfl, .ref R, xs.length, rfl, .inl ⟨_, SqL.of eR32, rfl⟩, fst, xs.length, rfl, rfl, .ref R, rfl, R, xs, rfl, SqL.of eR32, fun Dc hDc => ?_⟩⟩
    refine lc_it (walk_enum (xs := xs)) (fun j H' => ∃ G : List RwE, H' Dc = some (.lst (rws G)) ∧ Sm [] H32 H' ∧ G.length = j ∧ (∀ e ∈ G, RwOk H' cs.length e) ∧ (∀ (i : Nat) (e : RwE), G[i]? = some e → e.n = fst + i) ∧ G.map RwE.r = rows.take j) ?_ ?_ ?_ ?_
    · exact ⟨[], upd_same, Sm.refl.new hDc, rfl, fun e h => absurd h (by simp), fun i e h => by simp at h, rfl⟩
    · rintro j H' _ ⟨G, g1, g2, _⟩
      exact SqL.of (g2.keep eR32)
    · rintro j x0 H33 H34 hj ⟨G, g1, g2, g3, g4, g5, g6⟩ ⟨Tp, x1, x2, rfl, hTp, rfl, hx1, hx2⟩
      cases hx1
      obtain ⟨pr, r, rfl, hr1, hr2, hr3⟩ := (R32.kp g2.kp).get hx2
      have jl := (List.getElem?_eq_some_iff.mp hr1).1
      have s34 : Sm [] H33 (upd H33 Tp (.tup [.int (j : Nat), .ref pr])) := Sm.refl.new hTp
      have e34 : (upd H33 Tp (.tup [.int (j : Nat), .ref pr])) Tp = some (.tup [.int (j : Nat), .ref pr]) := upd_same
      generalize upd H33 Tp (.tup [.int (j : Nat), .ref pr]) = H34 at s34 e34
      refine ⟨Tp, _, rfl, SqT.of e34, rfl, _, _, rfl, _, _, rfl, rfl, rfl, ?_⟩
      refine ⟨.int fst, rfl, .int (j : Nat), rfl, fst, j, rfl, rfl, .ref pr, rfl, (by show 2 ≤ sizeLine; decide), fun q5 hq5 => ?_⟩
      have s35 : Sm [] H34 (upd H34 q5 (.tup [.int (fst + (j : Nat)), .ref pr])) := Sm.refl.new hq5
      have e35 : (upd H34 q5 (.tup [.int (fst + (j : Nat)), .ref pr])) q5 = some (.tup [.int (fst + (j : Nat)), .ref pr]) := upd_same
      generalize upd H34 q5 (.tup [.int (fst + (j : Nat)), .ref pr]) = H35 at s35 e35
      have s3335 := s34.trans s35
      have g1' := s3335.keep g1
      have kl := list_kp (ys := rws G ++ [.ref q5]) g1'
      refine ⟨_, g1', small16 (by rw [List.length_map]; omega), G ++ [⟨q5, fst + (j : Nat), pr, r⟩], ?_, (g2.trans s3335).own hDc, by rw [List.length_append, g3]; rfl, fun e he => ?_, fun i e hi => ?_, ?_⟩
      · rw [upd_same]
        simp [rws]
      · rcases List.mem_append.mp he with he | he
        · exact (g4 e he).kp (s3335.kp.trans kl)
        · rw [List.mem_singleton] at he
          subst he
          exact ⟨kl _ _ e35, (s3335.kp.trans kl) _ _ hr2, hr3, by show 0 ≤ fst + (j : Int); omega⟩
      · by_cases hi2 : i < G.length
        · rw [List.getElem?_append_left hi2] at hi
          exact g5 i e hi
        · have hl := (List.getElem?_eq_some_iff.mp hi).1
          rw [List.length_append] at hl
          have hl : i < G.length + 1 := hl
          obtain rfl : i = G.length := by omega
          rw [List.getElem?_concat_length] at hi
          cases hi
          rw [g3]
      · rw [List.map_append, g6, List.take_add_one, hr1]
        rfl
    rintro H33 ⟨G, g1, g2, g3, g4, g5, g6⟩
    rw [xl, List.take_length] at g6
    refine ⟨Dc, _, rfl, .inl ⟨SqL.of g1, fun tT htT => ?_⟩⟩
    have s34 : Sm [] H33 (upd H33 tT (.tup (rws G))) := Sm.refl.new htT
    have e34 : (upd H33 tT (.tup (rws G))) tT = some (.tup (rws G)) := upd_same
    generalize upd H33 tT (.tup (rws G)) = H34 at s34 e34
    refine ⟨(by show 3 ≤ sizeLine; decide), fun tP htP => ?_⟩
    have s35 : Sm [] H34 (upd H34 tP (.tup [.str n0, .int (fst + xs.length), .ref tT])) := Sm.refl.new htP
    have e35 : (upd H34 tP (.tup [.str n0, .int (fst + xs.length), .ref tT])) tP = some (.tup [.str n0, .int (fst + xs.length), .ref tT]) := upd_same
    generalize upd H34 tP (.tup [.str n0, .int (fst + xs.length), .ref tT]) = H35 at s35 e35
    have s3235 := (g2.trans s34).trans s35
    have eDl35 := s3235.keep eDl
    refine ⟨Dl, _, _, rfl, rfl, eDl35, (by show 0 < sizeLine; decide), ?_⟩
    have kp36 : Kp H35 (upd H35 Dl (.lst ([] ++ [.ref tP]))) := list_kp eDl35
    have s36 : Sm [d, c] H29 (upd H35 Dl (.lst ([] ++ [.ref tP]))) := (s2932.trans s3235.nil).own hDl
    have e36 : (upd H35 Dl (.lst ([] ++ [.ref tP]))) Dl = some (.lst [.ref tP]) := upd_same
    have D36 : Deck (upd H35 Dl (.lst ([] ++ [.ref tP]))) d c (m8 + 1) := (D32.keep s3235).upd nDl
    generalize upd H35 Dl (.lst ([] ++ [.ref tP])) = H36 at kp36 s36 e36 D36
    have hpt : PtOk H36 cs.length ⟨tP, n0, fst + xs.length, tT, G⟩ := by
      refine ⟨kp36 _ _ e35, kp36 _ _ (s35.keep e34), fun e he => (g4 e he).kp ((s34.trans s35).kp.trans kp36), fun i x y hx hy => ?_, by show G.length ≤ 90; omega, by show 0 ≤ fst + (xs.length : Int); omega⟩
      have num : ∀ (i : Nat) (x : V), ((G.map fun e => V.int e.n) ++ [.int (fst + xs.length)])[i]? = some x → x = .int (fst + i) := fun i x h => by
        by_cases hi : i < G.length
        · rw [List.getElem?_append_left (by rw [List.length_map]; exact hi), List.getElem?_map] at h
          cases hg : G[i]? with
          | none => rw [hg] at h; cases h
          | some e =>
            rw [hg] at h
            have h := Option.some.inj h
            rw [← h]
            show V.int e.n = _
            rw [g5 i e hg]
        · have hl := (List.getElem?_eq_some_iff.mp h).1
          rw [List.length_append, List.length_map] at hl
          have hl : i < G.length + 1 := hl
          obtain rfl : i = G.length := by omega
          rw [List.getElem?_append_right (by rw [List.length_map]; exact Nat.le_refl _), List.length_map, Nat.sub_self] at h
          cases h
          rw [g3]
      exact ⟨_, _, num i x hx, num (i + 1) y hy, by omega⟩
    have q36 := q29.trans s36
    have A36 := A29.sm s36 (A29.out D29)
    have el36 := s36 _ _ el29 nl
    have d36 := d29.kp (s36.kpD D29.nt)
    have hS36 : SchAt K CS H36 x L' := hSch.bare s36 D29.bare
    clear s3235 eDl35 s35 e35 htP s34 e34 htT g1 g2 R32 k2932 eR32 el32 D32 eDl s2932 e32 s32 ht32 s31 D31 D30 e30 s30 d29 el29 A29 R29 e29 D29 q29 hSch
    -- database
    obtain ⟨b1, hb1, nb1, cb1⟩ : ∃ b ∈ L', b.nm = n0 ∧ b.cs = cs := ⟨⟨t1, n0, a, cs⟩, hperm.mem_iff.mpr List.mem_cons_self, rfl, rfl⟩
    obtain ⟨b2, hb2, nb2⟩ : ∃ b ∈ L', b.nm = n1 := ⟨⟨t2, n1, c2, cs.take 1⟩, hperm.mem_iff.mpr (List.mem_cons_of_mem _ List.mem_cons_self), rfl⟩
    have onlyL : ∀ f ∈ L', f.nm = n0 ∨ f.nm = n1 := fun f hf => by
      have := hperm.mem_iff.mp hf
      simp only [List.mem_cons, List.not_mem_nil, or_false] at this
      rcases this with rfl | rfl
      · exact .inl rfl
      · exact .inr rfl
    refine ⟨.ref x, rfl, .ref Dl, rfl, Dl, _, rfl, .inl ⟨SqL.of e36, fun tD htD y dy hy hdy ny => ?_⟩⟩
    have s37 : Sm [] H36 (upd H36 tD (.tup [.ref tP])) := Sm.refl.new htD
    have e37 : (upd H36 tD (.tup [.ref tP])) tD = some (.tup [.ref tP]) := upd_same
    generalize upd H36 tD (.tup [.ref tP]) = H37 at s37 e37 hy hdy
    have hy' : (upd H37 dy (.own y)) y = none := by rw [upd_ne (Ne.symm ny)]; exact hy
    have s38 : Sm [] H37 (upd (upd H37 dy (.own y)) y (.ins CD dy [])) := (Sm.refl.new hdy).new hy'
    have e38 : (upd (upd H37 dy (.own y)) y (.ins CD dy [])) y = some (.ins CD dy []) := upd_same
    generalize upd (upd H37 dy (.own y)) y (.ins CD dy []) = H38 at s38 e38
    refine ⟨y, dy, x, tD, L', ⟨tP, n0, fst + xs.length, tT, G⟩, b1, rfl, e38, hS36.sm (s37.trans s38), s38.keep e37, hb1, nb1.symm, ?_, fun H39 ps s39 hDb hps => ⟨rfl, ?_⟩⟩
    · rw [cb1]
      exact hpt.kp (s37.trans s38).kp
    have s3739 : Sm [] H37 H39 := (s38.nil.trans s39).trans' hy
    have s3639 := s37.trans s3739
    obtain ⟨p1, hp1, np1⟩ := part_at hDb.nm hb1
    obtain ⟨p2, hp2, np2⟩ := part_at hDb.nm hb2
    have gp1 : p1.L = G := by
      rw [hps p1 hp1, if_pos (by rw [np1, nb1])]
    have gp2 : p2.L = [] := by
      rw [hps p2 hp2, if_neg (by rw [np2, nb2]; exact Ne.symm hne01)]
    have D39 := D36.keep s3639
    have A39 := A36.sm s3639 (by simp)
    have el39 := s3639.keep el36
    have d39 := d36.kp s3639.kp
    have q39 := q36.trans s3639.nil
    clear s3639 s3739 s39 e38 s38 hy' e37 s37 hy hdy htD hS36 d36 el36 A36 q36 hpt D36 e36 s36 kp36
    -- its zone
    have zt0 : ∀ {H' : Hp} {Q' : VK}, Sm [] H39 H' → (∀ v H'', Sm [] H' H'' → BdsO H'' v (zoneO cs (("" : Str) :: cs) rows) → Q' v H'') → spZt K CS CD Nt [.ref y, .str n0] H' Q' E0 := fun s k => by
      refine ⟨y, x, .str n0, L', ps, rfl, hDb.sm s, .inl ⟨p1, hp1, b1, hb1, by rw [np1, nb1], np1, fun v H'' s' h => k v H'' s' ?_⟩⟩
      rw [cb1, gp1, g6] at h
      exact h
    refine ⟨.ref y, rfl, .ref l, rfl, name_ix (i := 0) el39 hn0 (zt0 Sm.refl fun v40 H40 s40 h40 => ?_)⟩
    refine ⟨.ref l, rfl, name_ix (i := 0) (s40.keep el39) hn0 ⟨.ref y, rfl, zt0 s40 fun v41 H41 s41 h41 => ⟨(by show 2 ≤ sizeLine; decide), fun p42 hp42 => ?_⟩⟩⟩
    have s42 : Sm [] H41 (upd H41 p42 (.lst [v40, v41])) := Sm.refl.new hp42
    have e42 : (upd H41 p42 (.lst [v40, v41])) p42 = some (.lst [v40, v41]) := upd_same
    generalize upd H41 p42 (.lst [v40, v41]) = H42 at s42 e42
    refine next_in ?_
    dsimp only
    refine ⟨.ref p42, rfl, vd, rfl, vd, rfl, (by show 2 ≤ sizeLine; decide), fun p43 hp43 => ?_⟩
    have s43 : Sm [] H42 (upd H42 p43 (.lst [vd, vd])) := Sm.refl.new hp43
    have e43 : (upd H42 p43 (.lst [vd, vd])) p43 = some (.lst [vd, vd]) := upd_same
    generalize upd H42 p43 (.lst [vd, vd]) = H43 at s43 e43
    have s4143 := s42.trans s43
    have s3943 := (s40.trans s41).trans s4143
    refine ⟨.ref p42, .ref p43, 3, rfl, rfl, alk_two (s43.keep e42) e43 (alk_bdsO (h40.kp (s41.trans s4143).kp) (d39.kp s3943.kp)) (alk_bdsO (h41.kp s4143.kp) (d39.kp s3943.kp)), fun H44 s44 => ⟨_, rfl, ite2 (fun z => by cases z) fun _ => ?_⟩⟩
    have s3944 := s3943.trans s44
    refine ⟨.ref y, rfl, .ref l, rfl, name_ix (i := 1) (s3944.keep el39) hn1 ⟨y, x, .str n1, L', ps, rfl, hDb.sm s3944, .inl ⟨p2, hp2, b2, hb2, by rw [np2, nb2], by rw [np2], fun v45 H45 s45 h45 => ?_⟩⟩⟩
    rw [gp2] at h45
    have v45n : v45 = .non := by
      rcases h45 with ⟨_, e⟩ | ⟨_, _, e, _⟩
      · exact e
      · cases e
    subst v45n
    refine ⟨rfl, _, rfl, ite2 (fun z => by simp at z) fun _ => ?_⟩
    have s3945 := s3944.trans s45
    have hDb45 := hDb.sm s3945
    have D45 := D39.keep s3945
    have el45 := s3945.keep el39
    have q45 := q39.trans s3945.nil
    clear h45 s45 s3944 s44 s3943 s4143 e43 s43 hp43 e42 s42 hp42 h41 s41 h40 s40 zt0 q39 d39 el39 A39 D39 hDb s3945
    -- odd
    refine next_in ?_
    dsimp only
    refine ⟨.ref d, rfl, .ref l, rfl, name_ix (i := 2) el45 hn2 ⟨.ref l, rfl, name_ix (i := 0) el45 hn0 ⟨(by show 1 ≤ sizeLine; decide), fun o1 ho1 => ?_⟩⟩⟩
    have s46 : Sm [] H45 (upd H45 o1 (.tup [.str n0])) := Sm.refl.new ho1
    have e46 : (upd H45 o1 (.tup [.str n0])) o1 = some (.tup [.str n0]) := upd_same
    generalize upd H45 o1 (.tup [.str n0]) = H46 at s46 e46
    refine ⟨.ref l, rfl, name_ix (i := 0) (s46.keep el45) hn0 ⟨(by show 1 ≤ sizeLine; decide), fun o2 ho2 o3 ho3 => ?_⟩⟩
    have D46 := D45.keep s46
    have no2 := D46.outN ho2
    have s47 : Sm [] H46 (upd H46 o2 (.lst [.str n0])) := Sm.refl.new ho2
    have e47 : (upd H46 o2 (.lst [.str n0])) o2 = some (.lst [.str n0]) := upd_same
    generalize upd H46 o2 (.lst [.str n0]) = H47 at s47 e47 ho3
    have D47 := D46.keep s47
    have no3 := D47.outN ho3
    have s48 : Sm [] H47 (upd H47 o3 (.dK [])) := Sm.refl.new ho3
    have e48 : (upd H47 o3 (.dK [])) o3 = some (.dK []) := upd_same
    generalize upd H47 o3 (.dK []) = H48 at s48 e48
    have D48 := D47.keep s48
    refine ⟨(by show 8 ≤ sizeLine; decide), fun lp hlp => ?_⟩
    have nlp := D48.outN hlp
    have s49 : Sm [] H48 (upd H48 lp (.lst [.str n2, .str "", .non, .int 0, .bl true, .ref o1, .ref o2, .ref o3])) := Sm.refl.new hlp
    have e49 : (upd H48 lp (.lst [.str n2, .str "", .non, .int 0, .bl true, .ref o1, .ref o2, .ref o3])) lp = some (.lst [.str n2, .str "", .non, .int 0, .bl true, .ref o1, .ref o2, .ref o3]) := upd_same
    generalize upd H48 lp (.lst [.str n2, .str "", .non, .int 0, .bl true, .ref o1, .ref o2, .ref o3]) = H49 at s49 e49
    have D49 := D48.keep s49
    have s4549 := ((s46.trans s47).trans s48).trans s49
    refine ⟨d, c, m8 + 1, .ref lp, _, rfl, D49, by omega, .inl ⟨lp, rfl, e49, nlp⟩, by simp, (by show 8 < 1073741824; decide), fun i50 x50 H50 hx50 s50 D50 => ?_⟩
    have hDb50 := (hDb45.sm s4549).bare s50 D49.bare
    have k50 := s50.kpD D49.nt
    have hOdd : Odd K H50 L' x50 := by
      have hm := List.mem_of_getElem? hx50
      simp only [List.mem_cons, List.not_mem_nil, or_false] at hm
      rcases hm with rfl | rfl | rfl | rfl | rfl | rfl | rfl | rfl
      · exact odd_str sh2.sp fun f hf => (onlyL f hf).elim (fun e => by rw [e]; exact hne02) fun e => by rw [e]; exact hne12
      · exact odd_str sp0_nil fun f hf => (onlyL f hf).elim (fun e => by rw [e]; exact sh0.ne) fun e => by rw [e]; exact sh1.ne
      · exact odd_non
      · exact odd_int
      · exact odd_bl
      · exact odd_tup sh0.sp (k50 _ _ (s49.keep (s48.keep (s47.keep e46))))
      · exact odd_lst sh0.sp (s50 _ _ (s49.keep (s48.keep e47)) no2)
      · exact odd_dict (s50 _ _ (s49.keep e48) no3)
    have q50 : Sm [d, c] H H50 := (q45.trans s4549.nil).trans s50
    clear hx50 k50 s50 s4549 e49 s49 nlp hlp e48 s48 no3 e47 s47 no2 e46 s46 D45 D46 D47 D48 D49 hDb45 q45
    -- the call
    obtain ⟨hno, z, hz⟩ := hOdd
    refine ⟨.ref y, rfl, x50, rfl, y, x, x50, L', ps, rfl, hDb50, .inr ⟨hno, fun dd H51 s51 hfree hxd => ⟨true, C.ex, fun _ ea hea => ?_, fun z => by cases z⟩⟩⟩
    refine ⟨.ref ea, rfl, .ref WEa, .ref WEa, true, dd, _, rfl, rfl, (fun u h => h), C.ki, rfl, hxd, true, rfl, ?_⟩
    refine ite2 (fun _ => ?_) fun z => absurd rfl z
    have sw := hz H51 s51
    refine ⟨.ref ea, rfl, rfl, rfl, dd, _, x50, rfl, hxd, by rfl, x50, z, rfl, sw, x50, rfl, x50, z, rfl, sw, ?_⟩
    refine ⟨rfl, ?_⟩
    have hh : decide (V.str z = V.str z) = true := decide_eq_true rfl
    show Q (.bl (decide (V.str z = V.str z))) H51
    rw [hh]
    exact q (m8 + 1 + 1) H51 (q50.trans s51.nil) (D50.keep s51) (by omega)
end
end K92

/-! the law -/
namespace K92
open PySem PySem.Spec PyProof.Rows L2
theorem cbL_ok {L : List Tr} (hL : L.length ≤ 18) (hT : Txs L) (hX : ∀ t ∈ L, -bigC ≤ t.2.2 ∧ t.2.2 ≤ bigC) :
    PyData.showableAll (L.map trD) = true ∧ PyData.hasDictAll (L.map trD) = false ∧ PyData.depthAll (L.map trD) ≤ 1 ∧ PyData.canLayAll0 (L.map trD) = true ∧ PyData.weightAll (L.map trD) ≤ 2000 ∧ PyData.intsShortAll 13 (L.map trD) = true := by
  have lt31 : ∀ t ∈ L, t.2.2.natAbs < 2 ^ 31 := fun t ht => by
    obtain ⟨a, b⟩ := hX t ht
    unfold bigC at a b
    omega
  have log : ∀ t ∈ L, t.2.2.natAbs.log2 < 31 := fun t ht => by
    by_cases h0 : t.2.2.natAbs = 0
    · rw [h0]; decide
    · exact (Nat.log2_lt h0).mpr (lt31 t ht)
  have tr1 : ∀ t ∈ L, (trD t).showable = true := fun t ht => by
    have := log t ht
    simp only [trD, PyData.showable, PyData.showableAll, Bool.true_and, Bool.and_true, decide_eq_true_eq]
    omega
  have tr2 : ∀ t ∈ L, (trD t).canLay0 = true := fun t ht => by
    obtain ⟨a, b⟩ := hT t ht
    have a' := a.lay
    have b' := b.lay
    simp only [trD, PyData.canLay0, PyData.canLayAll0] at a' b' ⊢
    rw [a', b']
    rfl
  have tr3 : ∀ t ∈ L, (trD t).weight ≤ 100 := fun t ht => by
    obtain ⟨a, b⟩ := hT t ht
    have a' : t.1.cps.size ≤ 16 := a.len
    have b' : t.2.1.cps.size ≤ 16 := b.len
    have := log t ht
    simp only [trD, PyData.weight, PyData.weightAll]
    split <;> omega
  have tr4 : ∀ t ∈ L, (trD t).intsShort 13 = true := fun t ht => by
    obtain ⟨a, b⟩ := hX t ht
    unfold bigC at a b
    have := intsShort_of_noneOrIn (lo := -999999999999) (hi := 999999999999) (by decide) (by decide) (.int t.2.2) (by
      simp only [noneOrIn, Bool.and_eq_true, decide_eq_true_eq]
      omega)
    simp only [trD, PyData.intsShort, PyData.intsShortAll] at this ⊢
    rw [this]
    rfl
  have mapT : ∀ {p : PyData → Bool}, (∀ t ∈ L, p (trD t) = true) → ∀ x ∈ L.map trD, p x = true := fun h x hx => by
    obtain ⟨t, ht, rfl⟩ := List.mem_map.mp hx
    exact h t ht
  refine ⟨?_, ?_, ?_, ?_, ?_, ?_⟩
  · exact all_of (p := PyData.showable) (pa := PyData.showableAll) (by simp [PyData.showableAll]) (fun x xs => by simp [PyData.showableAll]) _ (mapT tr1)
  · have a := all_of (p := fun d => !d.hasDict) (pa := fun ds => !PyData.hasDictAll ds) (by simp [PyData.hasDictAll]) (fun x xs => by simp [PyData.hasDictAll]) (L.map trD) (mapT fun t _ => by simp [trD, PyData.hasDict, PyData.hasDictAll])
    simpa using a
  · exact depth_all (n := 1) (ds := L.map trD) fun d hd => by
      obtain ⟨t, _, rfl⟩ := List.mem_map.mp hd
      rw [depth_trD]
      exact Nat.le_refl _
  · exact all_of (p := PyData.canLay0) (pa := PyData.canLayAll0) (by simp [PyData.canLayAll0]) (fun x xs => by simp [PyData.canLayAll0]) _ (mapT tr2)
  · have w1 := weight_all (n := 100) (ds := L.map trD) fun d hd => by
      obtain ⟨t, ht, rfl⟩ := List.mem_map.mp hd
      exact tr3 t ht
    rw [List.length_map] at w1
    omega
  · exact all_of (p := PyData.intsShort 13) (pa := PyData.intsShortAll 13) (by simp [PyData.intsShortAll]) (fun x xs => by simp [PyData.intsShortAll]) _ (mapT tr4)
abbrev cbT (cs : List Str) (L M : List Tr) : PyData := .tuple [.tuple (cs.map .str), .tuple (L.map trD), .tuple (M.map trD)]
theorem cbT_ok {cs : List Str} {L M : List Tr} (hc : cs.length ≤ 3) (hs : ∀ x ∈ cs, Sh x) (hL : L.length ≤ 18) (hT : Txs L) (hX : ∀ t ∈ L, -bigC ≤ t.2.2 ∧ t.2.2 ≤ bigC) (hM : M.length ≤ 18) (hU : Txs M) (hY : ∀ t ∈ M, -bigC ≤ t.2.2 ∧ t.2.2 ≤ bigC) :
    (cbT cs L M).showable = true ∧ (cbT cs L M).hasDict = false ∧ (cbT cs L M).depth ≤ 60 ∧ (cbT cs L M).shown.length ≤ sizeLine := by
  obtain ⟨a1, a2, a3, a4, a5, a6⟩ := cbL_ok hL hT hX
  obtain ⟨b1, b2, b3, b4, b5, b6⟩ := cbL_ok hM hU hY
  have mapS : ∀ {p : PyData → Bool}, (∀ z ∈ cs, p (.str z) = true) → ∀ x ∈ cs.map PyData.str, p x = true := fun h x hx => by
    obtain ⟨t, ht, rfl⟩ := List.mem_map.mp hx
    exact h t ht
  have c1 := all_of (p := PyData.showable) (pa := PyData.showableAll) (by simp [PyData.showableAll]) (fun x xs => by simp [PyData.showableAll]) (cs.map PyData.str) (mapS fun z _ => by simp [PyData.showable])
  have c2 := all_of (p := fun d => !d.hasDict) (pa := fun ds => !PyData.hasDictAll ds) (by simp [PyData.hasDictAll]) (fun x xs => by simp [PyData.hasDictAll]) (cs.map PyData.str) (mapS fun z _ => by simp [PyData.hasDict])
  simp only [Bool.not_eq_true'] at c2
  have c3 := depth_all (n := 1) (ds := cs.map PyData.str) fun d hd => by
    obtain ⟨t, _, rfl⟩ := List.mem_map.mp hd
    simp [PyData.depth]
  have c4 := all_of (p := PyData.canLay0) (pa := PyData.canLayAll0) (by simp [PyData.canLayAll0]) (fun x xs => by simp [PyData.canLayAll0]) (cs.map PyData.str) (mapS fun z hz => (hs z hz).sp.lay)
  have c5 := weight_all (n := 16) (ds := cs.map PyData.str) fun d hd => by
    obtain ⟨z, hz, rfl⟩ := List.mem_map.mp hd
    have : z.cps.size ≤ 16 := Nat.le_trans (hs z hz).sp.len (by decide)
    simp only [PyData.weight]
    exact this
  have c6 := all_of (p := PyData.intsShort 13) (pa := PyData.intsShortAll 13) (by simp [PyData.intsShortAll]) (fun x xs => by simp [PyData.intsShortAll]) (cs.map PyData.str) (mapS fun z _ => by simp [PyData.intsShort])
  rw [List.length_map] at c5
  refine ⟨?_, ?_, ?_, ?_⟩
  · simp only [cbT, PyData.showable, PyData.showableAll]
    rw [a1, b1, c1]
    rfl
  · simp only [cbT, PyData.hasDict, PyData.hasDictAll]
    rw [a2, b2, c2]
    rfl
  · simp only [cbT, PyData.depth, PyData.depthAll]
    omega
  · have h1 : (cbT cs L M).canLay0 = true := by
      simp only [cbT, PyData.canLay0, PyData.canLayAll0]
      rw [a4, b4, c4]
      rfl
    have h2 : (cbT cs L M).depth ≤ 64 := by
      simp only [cbT, PyData.depth, PyData.depthAll]
      omega
    have h3 : (cbT cs L M).weight ≤ 2 ^ 20 := by
      simp only [cbT, PyData.weight, PyData.weightAll]
      have : (2 : Nat) ^ 20 = 1048576 := by decide
      omega
    have hi : (cbT cs L M).intsShort 13 = true := by
      simp only [cbT, PyData.intsShort, PyData.intsShortAll]
      rw [a6, b6, c6]
      rfl
    have := PyData.shown_le_of_layable0 (lay1 h1 h2 h3) hi
    have big : (15728653 : Nat) ≤ sizeLine := by decide
    omega
abbrev sLw : Stmt := topS 83
abbrev nLw : List Str := ["script", "deck", "turn", "columns", "one", "other", "kept"]
theorem scLw : FnScope ["script", "deck", "turn", "columns", "one", "other", "kept"] ["script"] (defScope sLw) := ⟨rfl, rfl, rfl, by decide +kernel, rfl, by decide +kernel, by decide +kernel⟩
section
variable {P : Program} {w : World} {K : PySem.W.Frag} {mg : Str → Option Value} {base : Heap}
def spLw (K : PySem.W.Frag) : Sp := fun vs H Q _ => ∃ (a : Addr) (ns : List Int), vs = [.ref a] ∧ SqL K H a (ns.map V.int) ∧ ns.length ≤ 63 ∧ ∀ H', Q (.bl true) H'
/-- all the defs, as the law calls them -/
structure All (P : Program) (w : World) (K : PySem.W.Frag) (mg : Str → Option Value) (base : Heap) : Prop where
  dk : Cal P w K mg base "_law_deck" ["script", "salt"] 1 (spDeck K)
  draw : Cal P w K mg base "_law_draw" ["deck", "ways"] 1 spDraw
  nm : Cal P w K mg base "_law_names" ["deck", "many"] 3 spNm
  tz : Cal P w K mg base "_law_two_zones" ["deck", "columns"] 4 (spTz K)
  tr : Cal P w K mg base "_law_are_two_right" ["deck", "columns", "one", "other"] 5 (sp2r K)
  rr : CalG P w K mg base "_law_are_rows_right" ["deck", "columns"] 8 spRr
theorem law_body (B : Bn mg) (C : All P w K mg base) {cdv : Value} {A : Around} {outer : List Env} {s : Shared} {H : Hp} {vs : List V} {Q : VK} {E : XK} {f : Addr} (hg : A.guards = some []) (hr : Room 8 (A.deeper (envOfC "law" (defScope sLw) s.heap.objs.size f cdv))) (h : spLw K vs H Q E) :
    ∃ t, PSs (cxOf CX0 P w K mg base ["script", "deck", "turn", "columns", "one", "other", "kept"] "law" (defScope sLw) f cdv A outer s H E).nox (defBody sLw) t ∧ t { nx := fun _ H' => Q .non H', rt := Q } (start ["script", "deck", "turn", "columns", "one", "other", "kept"] vs) H := by
  obtain ⟨a, ns, rfl, hS, hl, q⟩ := h
  have nd := scLw.nd
  have hu65 := un65_of hr
  refine ⟨_, pss_cons (ps_set (i := 1) nd rfl (.inl rfl) (pe_own (C.dk.mono (by decide)) hr (pa_cons (pv 0) (pa_cons pe_int pa_nil))))
    (pss_cons (ps_for PassesOwn.never rfl (pi_range1 (by rfl) B.range (pa_cons pe_int pa_nil)) (pg_name (i := 2) nd rfl (.inl rfl))
      (pss_cons (ps_set (i := 3) nd rfl (.inl rfl) (pe_callTy call_tupF (by rfl) B.tuple boot_tuple (pa_cons (pe_own (C.nm.mono (by decide)) hr (pa_cons (pv 1) (pa_cons (pe_op op_add pe_int (pe_own (C.draw.mono (by decide)) hr (pa_cons (pv 1) (pa_cons pe_int pa_nil)))) pa_nil))) pa_nil)))
      (pss_cons (ps_asg (pe_own (C.tz.mono (by decide)) hr (pa_cons (pv 1) (pa_cons (pv 3) pa_nil))) (pg_tup rfl (pgs_cons (pg_name (i := 4) nd rfl (.inl rfl)) (pgs_cons (pg_name (i := 5) nd rfl (.inl rfl)) pgs_nil))))
      (pss_cons (ps_set (i := 6) nd rfl (.inl rfl) (pe_callB (call_repr hg hu65) (by rfl) B.repr boot_repr (pa_cons (pe_tup (pa_cons (pv 3) (pa_cons (pv 4) (pa_cons (pv 5) pa_nil)))) pa_nil)))
      (pss_cons (ps_if (PW.pt (pw_or (pt_not (pt_val (pe_own (C.tr.mono (by decide)) hr (pa_cons (pv 1) (pa_cons (pv 3) (pa_cons (pv 4) (pa_cons (pv 5) pa_nil))))))) (pw_or1 (pt_not (pt_val (pe_ownG C.rr hg hr (pa_cons (pv 1) (pa_cons (pv 3) pa_nil)))))))) (pss_one (ps_ret pe_bl)) pss_nil)
      (pss_one (ps_if (pt_cmpR op_ne (pe_callB (call_repr hg hu65) (by rfl) B.repr boot_repr (pa_cons (pe_tup (pa_cons (pv 3) (pa_cons (pv 4) (pa_cons (pv 5) pa_nil)))) pa_nil)) (pv 6) (nomark _)) (pss_one (ps_ret pe_bl)) pss_nil)))))))
    (pss_one (ps_ret pe_bl))), ?_⟩
  refine ⟨.ref a, rfl, a, ns, 92, rfl, hS, hl, by decide, by decide, fun d c H0 _ D0 => ?_⟩
  refine ⟨3, rfl, by decide, by decide, for_range (fun i σ H' => ∃ (y2 y3 y4 y5 y6 : Option V) (m : Nat), σ = [some (.ref a), some (.ref d), y2, y3, y4, y5, y6] ∧ Deck H' d c m ∧ m ≤ 300 * i) ?_ ?_ ?_⟩
  · exact ⟨none, none, none, none, none, 0, rfl, D0, Nat.le_refl _⟩
  · rintro i σ H1 hi ⟨y2, y3, y4, y5, y6, m, rfl, D1, hm⟩
    have hi3 : i < 3 := hi
    -- columns
    refine ⟨.ref d, rfl, .ref d, rfl, d, c, m, 3, rfl, D1, by omega, by omega, by omega, fun r1 H2 r1a r1b s2 D2 => ?_⟩
    refine ⟨1, r1, rfl, rfl, d, c, m + 1, 1 + r1, rfl, D2, by omega, by omega, by omega, fun l cs H3 s3 D3 _ el hN => ?_⟩
    refine ⟨l, cs.map V.str, rfl, SqL.of el, fun a2 ob ha2 hob => ?_⟩
    have A4 : Cols (upd H3 a2 (.frz ob (.tup (cs.map V.str)))) a2 cs := ⟨ob, upd_same, hob⟩
    have D4 : Deck (upd H3 a2 (.frz ob (.tup (cs.map V.str)))) d c (m + 1 + 10) := D3.keep (Sm.refl.new ha2)
    generalize upd H3 a2 (.frz ob (.tup (cs.map V.str))) = H4 at A4 D4
    have hC : Nms cs := hN.nms (by omega)
    have hSh := hN.sh
    -- two zones
    refine ⟨.ref d, rfl, .ref a2, rfl, d, c, a2, m + 1 + 10, cs, rfl, D4, by omega, A4, hC, fun t5 b1 b2 L M m5 H5 s5 D5 hm5 et5 hL hM f1 f2 => ?_⟩
    have A5 := A4.sm s5 (A4.out D4)
    refine ⟨t5, _, rfl, SqT.of et5, rfl, _, _, rfl, _, _, rfl, rfl, ?_⟩
    -- kept
    have cb := cbT_ok (M := M) hC.le hSh (by have := f1.len; omega) (txs_of hSh f1.bok) f1.big f2.len (txs_of hSh f2.bok) f2.big
    have rep : ∀ {H' : Hp} {p : Addr}, Cols H' a2 cs → Bds H' b1 L → Bds H' b2 M → H' p = some (.tup [.ref a2, .ref b1, .ref b2]) → Dp K H' (.ref p) (cbT cs L M) := fun hA hB hB2 e => .tup (SqT.of e) (.cons (.tup hA.sq (strs_dp cs)) (.cons hB.dp (.cons hB2.dp .nil)))
    refine ⟨.ref a2, rfl, .ref b1, rfl, .ref b2, rfl, (by show 3 ≤ sizeLine; decide), fun p6 hp6 => ?_⟩
    have s6 : Sm [] H5 (upd H5 p6 (.tup [.ref a2, .ref b1, .ref b2])) := Sm.refl.new hp6
    have e6 : (upd H5 p6 (.tup [.ref a2, .ref b1, .ref b2])) p6 = some (.tup [.ref a2, .ref b1, .ref b2]) := upd_same
    generalize upd H5 p6 (.tup [.ref a2, .ref b1, .ref b2]) = H6 at s6 e6
    have D6 := D5.keep s6
    have A6 := A5.sm s6 (by simp)
    have L6 := hL.kp s6.kp
    have M6 := hM.kp s6.kp
    refine ⟨p6, cbT cs L M, rfl, rep A6 L6 M6 e6, cb.1, cb.2.1, cb.2.2.1, cb.2.2.2, ?_⟩
    -- are two right
    refine next_in ?_
    dsimp only
    refine ⟨.ref d, rfl, .ref a2, rfl, .ref b1, rfl, .ref b2, rfl, d, c, a2, b1, b2, m5, cs, L, M, rfl, D6, by omega, A6, hC, L6, M6, f1, f2, fun m7 H7 s7 D7 hm7 => ⟨_, rfl, ite2 (fun z => by cases z) fun _ => ?_⟩⟩
    have A7 := A6.sm s7 (A6.out D6)
    have k7 := s7.kpD D6.nt
    refine ⟨.ref d, rfl, .ref a2, rfl, d, c, a2, m7, cs, rfl, D7, by omega, A7, hC, hSh, fun m8 H8 s8 D8 hm8 => ⟨_, rfl, ite2 (fun z => by cases z) fun _ => ?_⟩⟩
    have A8 := A7.sm s8 (A7.out D7)
    have k8 := k7.trans (s8.kpD D7.nt)
    -- as it was
    refine next_in ?_
    dsimp only
    refine ⟨.ref a2, rfl, .ref b1, rfl, .ref b2, rfl, (by show 3 ≤ sizeLine; decide), fun p9 hp9 => ?_⟩
    have s9 : Sm [] H8 (upd H8 p9 (.tup [.ref a2, .ref b1, .ref b2])) := Sm.refl.new hp9
    have e9 : (upd H8 p9 (.tup [.ref a2, .ref b1, .ref b2])) p9 = some (.tup [.ref a2, .ref b1, .ref b2]) := upd_same
    generalize upd H8 p9 (.tup [.ref a2, .ref b1, .ref b2]) = H9 at s9 e9
    refine ⟨p9, cbT cs L M, rfl, rep (A8.sm s9 (by simp)) (L6.kp (k8.trans s9.kp)) (M6.kp (k8.trans s9.kp)) e9, cb.1, cb.2.1, cb.2.2.1, cb.2.2.2, ?_⟩
    refine ⟨_, rfl, rfl, _, rfl, ite2 (fun z => by simp at z) fun _ => ?_⟩
    exact ⟨_, _, _, _, _, m8, rfl, D8.keep s9, by omega⟩
  · rintro σ H1 _
    exact q H1
end
end K92

namespace K92
open PySem PySem.Spec PyProof.Rows L2
/-- where a def stands -/
structure At (K : PySem.W.Frag) (nm : Str) (st : Stmt) (f : Addr) (oc kV doc pm cdv ct : Value) (od an : Option Addr) (osl : Array (Option Value)) : Prop where
  a : PySem.W.nsIn K mainGlobals nm = some (some (.ref f))
  l : K.lookup f = some ⟨oc, od, .func (PySem.W.fnOf nm nm (defArgs st) (defBody st) (defScope st) .none kV doc pm an cdv ct), osl⟩
  c : PySem.W.codeIn K cdv nm = true
  k : PySem.W.keepIn K (.ref f) = true
section
variable {P : Program} {w : World} {K : PySem.W.Frag} {h : Heap} {mg : Str → Option Value} {base : Heap} {nm : Str} {st : Stmt} {f : Addr} {oc kV doc pm cdv ct : Value} {od an : Option Addr} {osl : Array (Option Value)}
theorem At.fn (A : At K nm st f oc kV doc pm cdv ct od an osl) : Fun K nm nm st f (PySem.W.fnOf nm nm (defArgs st) (defBody st) (defScope st) .none kV doc pm an cdv ct) := fun_mk A.l A.c A.k
theorem At.gl (A : At K nm st f oc kV doc pm cdv ct od an osl) (X : K.In h) (G : h.Ns mainGlobals mg) : mg nm = some (.ref f) := PySem.W.mg_of X G A.a
theorem At.cal {ps : List Str} {k : Nat} {sp : Sp} (A : At K nm st f oc kV doc pm cdv ct od an osl) (X : K.In h) (G : h.Ns mainGlobals mg) (hb : Binds K (PySem.W.fnOf nm nm (defArgs st) (defBody st) (defScope st) .none kV doc pm an cdv ct) ps [])
    (F : FnOk P w K mg base CX0 k f (PySem.W.fnOf nm nm (defArgs st) (defBody st) (defScope st) .none kV doc pm an cdv ct) ps sp) : Cal P w K mg base nm ps k sp := ⟨⟨f, _, F, A.gl X G, A.k, hb⟩⟩
theorem kb2 {fd : FuncData} {p q : Str} (H : ∀ a b : Value, bindArgs fd ⟨[], [q, p].zip [a, b]⟩ = pure ([p, q].zip [b, a])) : KBinds K fd [p, q] [q, p] kw2 kw2 := by
  refine ⟨fun s us ws _ hl => ?_, fun {vs us zs ws} r rz => ?_⟩
  · match us, ws, hl with
    | [], [a, b], _ => exact .of_eq (H a b)
    | [], [], hl => cases hl
    | [], [_], hl => cases hl
    | [], _ :: _ :: _ :: _, hl => cases hl
    | _ :: _, _, hl => cases hl
  · cases r with
    | cons _ _ => exact .nil
    | nil =>
      cases rz with
      | nil => exact .nil
      | cons h1 rz =>
        cases rz with
        | nil => exact .nil
        | cons h2 rz =>
          cases rz with
          | cons _ _ => exact .nil
          | nil => exact .cons h2 (.cons h1 .nil)

theorem kbI {fd : FuncData} {p q : Str} (H : ∀ a b : Value, bindArgs fd ⟨[], [p, q].zip [a, b]⟩ = pure ([p, q].zip [a, b])) : KBinds K fd [p, q] [p, q] kwI kwI := by
  refine ⟨fun s us ws _ hl => ?_, fun {vs us zs ws} r rz => ?_⟩
  · match us, ws, hl with
    | [], [a, b], _ => exact .of_eq (H a b)
    | [], [], hl => cases hl
    | [], [_], hl => cases hl
    | [], _ :: _ :: _ :: _, hl => cases hl
    | _ :: _, _, hl => cases hl
  · cases r with
    | cons _ _ => exact .nil
    | nil =>
      cases rz with
      | nil => exact .nil
      | cons h1 rz =>
        cases rz with
        | nil => exact .nil
        | cons h2 rz =>
          cases rz with
          | cons _ _ => exact .nil
          | nil => exact .cons h1 (.cons h2 .nil)

theorem kbC {fd : FuncData} {p q r : Str} (H : ∀ a b c : Value, bindArgs fd ⟨[], [q, p, r].zip [a, b, c]⟩ = pure ([p, q, r].zip [b, a, c])) : KBinds K fd [p, q, r] [q, p, r] kwC kwC := by
  refine ⟨fun s us ws _ hl => ?_, fun {vs us zs ws} r rz => ?_⟩
  · match us, ws, hl with
    | [], [a, b, c], _ => exact .of_eq (H a b c)
    | [], [], hl => cases hl
    | [], [_], hl => cases hl
    | [], [_, _], hl => cases hl
    | [], _ :: _ :: _ :: _ :: _, hl => cases hl
    | _ :: _, _, hl => cases hl
  · cases r with
    | cons _ _ => exact .nil
    | nil =>
      cases rz with
      | nil => exact .nil
      | cons h1 rz =>
        cases rz with
        | nil => exact .nil
        | cons h2 rz =>
          cases rz with
          | nil => exact .nil
          | cons h3 rz =>
            cases rz with
            | cons _ _ => exact .nil
            | nil => exact .cons h2 (.cons h1 (.cons h3 .nil))

theorem kbV {fd : FuncData} {p q r : Str} (H : ∀ a b c : Value, bindArgs fd ⟨[], [r, q, p].zip [a, b, c]⟩ = pure ([p, q, r].zip [c, b, a])) : KBinds K fd [p, q, r] [r, q, p] kwV kwV := by
  refine ⟨fun s us ws _ hl => ?_, fun {vs us zs ws} r rz => ?_⟩
  · match us, ws, hl with
    | [], [a, b, c], _ => exact .of_eq (H a b c)
    | [], [], hl => cases hl
    | [], [_], hl => cases hl
    | [], [_, _], hl => cases hl
    | [], _ :: _ :: _ :: _ :: _, hl => cases hl
    | _ :: _, _, hl => cases hl
  · cases r with
    | cons _ _ => exact .nil
    | nil =>
      cases rz with
      | nil => exact .nil
      | cons h1 rz =>
        cases rz with
        | nil => exact .nil
        | cons h2 rz =>
          cases rz with
          | nil => exact .nil
          | cons h3 rz =>
            cases rz with
            | cons _ _ => exact .nil
            | nil => exact .cons h3 (.cons h2 (.cons h1 .nil))

end
theorem all_mk {P : Program} {w : World} {K : PySem.W.Frag} {h : Heap} {mg : Str → Option Value} {fa : Addr} (X : K.In h) (G : h.Ns mainGlobals mg) (hfa : mg "law" = some (.ref fa))
    {f14 : Addr} {oc14 kV14 dc14 pm14 cd14 ct14 : Value} {od14 an14 : Option Addr} {sl14 : Array (Option Value)} (a14 : PySem.W.nsIn K mainGlobals "is_integer" = some (some (.ref f14)))
    (l14 : K.lookup f14 = some ⟨oc14, od14, .func (PySem.W.fnOf "is_integer" "is_integer" (defArgs sInt) (defBody sInt) (defScope sInt) .none kV14 dc14 pm14 an14 cd14 ct14), sl14⟩)
    (c14 : PySem.W.codeIn K cd14 "is_integer" = true)
    (k14 : PySem.W.keepIn K (.ref f14) = true)
    {f15 : Addr} {oc15 kV15 dc15 pm15 cd15 ct15 : Value} {od15 an15 : Option Addr} {sl15 : Array (Option Value)} (a15 : PySem.W.nsIn K mainGlobals "is_count" = some (some (.ref f15)))
    (l15 : K.lookup f15 = some ⟨oc15, od15, .func (PySem.W.fnOf "is_count" "is_count" (defArgs sCn) (defBody sCn) (defScope sCn) .none kV15 dc15 pm15 an15 cd15 ct15), sl15⟩)
    (c15 : PySem.W.codeIn K cd15 "is_count" = true)
    (k15 : PySem.W.keepIn K (.ref f15) = true)
    {f16 : Addr} {oc16 kV16 dc16 pm16 cd16 ct16 : Value} {od16 an16 : Option Addr} {sl16 : Array (Option Value)} (a16 : PySem.W.nsIn K mainGlobals "is_name" = some (some (.ref f16)))
    (l16 : K.lookup f16 = some ⟨oc16, od16, .func (PySem.W.fnOf "is_name" "is_name" (defArgs sIn) (defBody sIn) (defScope sIn) .none kV16 dc16 pm16 an16 cd16 ct16), sl16⟩)
    (c16 : PySem.W.codeIn K cd16 "is_name" = true)
    (k16 : PySem.W.keepIn K (.ref f16) = true)
    {f17 : Addr} {oc17 kV17 dc17 pm17 cd17 ct17 : Value} {od17 an17 : Option Addr} {sl17 : Array (Option Value)} (a17 : PySem.W.nsIn K mainGlobals "are_names" = some (some (.ref f17)))
    (l17 : K.lookup f17 = some ⟨oc17, od17, .func (PySem.W.fnOf "are_names" "are_names" (defArgs sNs) (defBody sNs) (defScope sNs) .none kV17 dc17 pm17 an17 cd17 ct17), sl17⟩)
    (c17 : PySem.W.codeIn K cd17 "are_names" = true)
    (k17 : PySem.W.keepIn K (.ref f17) = true)
    {f18 : Addr} {oc18 kV18 dc18 pm18 cd18 ct18 : Value} {od18 an18 : Option Addr} {sl18 : Array (Option Value)} (a18 : PySem.W.nsIn K mainGlobals "are_distinct" = some (some (.ref f18)))
    (l18 : K.lookup f18 = some ⟨oc18, od18, .func (PySem.W.fnOf "are_distinct" "are_distinct" (defArgs sDs) (defBody sDs) (defScope sDs) .none kV18 dc18 pm18 an18 cd18 ct18), sl18⟩)
    (c18 : PySem.W.codeIn K cd18 "are_distinct" = true)
    (k18 : PySem.W.keepIn K (.ref f18) = true)
    {f19 : Addr} {oc19 kV19 dc19 pm19 cd19 ct19 : Value} {od19 an19 : Option Addr} {sl19 : Array (Option Value)} (a19 : PySem.W.nsIn K mainGlobals "do_ascend" = some (some (.ref f19)))
    (l19 : K.lookup f19 = some ⟨oc19, od19, .func (PySem.W.fnOf "do_ascend" "do_ascend" (defArgs sAs) (defBody sAs) (defScope sAs) .none kV19 dc19 pm19 an19 cd19 ct19), sl19⟩)
    (c19 : PySem.W.codeIn K cd19 "do_ascend" = true)
    (k19 : PySem.W.keepIn K (.ref f19) = true)
    {f24 : Addr} {oc24 kV24 dc24 pm24 cd24 ct24 : Value} {od24 an24 : Option Addr} {sl24 : Array (Option Value)} (a24 : PySem.W.nsIn K mainGlobals "closed_table" = some (some (.ref f24)))
    (l24 : K.lookup f24 = some ⟨oc24, od24, .func (PySem.W.fnOf "closed_table" "closed_table" (defArgs sCt) (defBody sCt) (defScope sCt) .none kV24 dc24 pm24 an24 cd24 ct24), sl24⟩)
    (c24 : PySem.W.codeIn K cd24 "closed_table" = true)
    (k24 : PySem.W.keepIn K (.ref f24) = true)
    {f25 : Addr} {oc25 kV25 dc25 pm25 cd25 ct25 : Value} {od25 an25 : Option Addr} {sl25 : Array (Option Value)} (a25 : PySem.W.nsIn K mainGlobals "closed" = some (some (.ref f25)))
    (l25 : K.lookup f25 = some ⟨oc25, od25, .func (PySem.W.fnOf "closed" "closed" (defArgs sCl) (defBody sCl) (defScope sCl) .none kV25 dc25 pm25 an25 cd25 ct25), sl25⟩)
    (c25 : PySem.W.codeIn K cd25 "closed" = true)
    (k25 : PySem.W.keepIn K (.ref f25) = true)
    {f26 : Addr} {oc26 kV26 dc26 pm26 cd26 ct26 : Value} {od26 an26 : Option Addr} {sl26 : Array (Option Value)} (a26 : PySem.W.nsIn K mainGlobals "value_in" = some (some (.ref f26)))
    (l26 : K.lookup f26 = some ⟨oc26, od26, .func (PySem.W.fnOf "value_in" "value_in" (defArgs sVi) (defBody sVi) (defScope sVi) .none kV26 dc26 pm26 an26 cd26 ct26), sl26⟩)
    (c26 : PySem.W.codeIn K cd26 "value_in" = true)
    (k26 : PySem.W.keepIn K (.ref f26) = true)
    {f27 : Addr} {oc27 kV27 dc27 pm27 cd27 ct27 : Value} {od27 an27 : Option Addr} {sl27 : Array (Option Value)} (a27 : PySem.W.nsIn K mainGlobals "is_in_zone" = some (some (.ref f27)))
    (l27 : K.lookup f27 = some ⟨oc27, od27, .func (PySem.W.fnOf "is_in_zone" "is_in_zone" (defArgs sZn) (defBody sZn) (defScope sZn) .none kV27 dc27 pm27 an27 cd27 ct27), sl27⟩)
    (c27 : PySem.W.codeIn K cd27 "is_in_zone" = true)
    (k27 : PySem.W.keepIn K (.ref f27) = true)
    {f28 : Addr} {oc28 kV28 dc28 pm28 cd28 ct28 : Value} {od28 an28 : Option Addr} {sl28 : Array (Option Value)} (a28 : PySem.W.nsIn K mainGlobals "zone_of" = some (some (.ref f28)))
    (l28 : K.lookup f28 = some ⟨oc28, od28, .func (PySem.W.fnOf "zone_of" "zone_of" (defArgs sZo) (defBody sZo) (defScope sZo) .none kV28 dc28 pm28 an28 cd28 ct28), sl28⟩)
    (c28 : PySem.W.codeIn K cd28 "zone_of" = true)
    (k28 : PySem.W.keepIn K (.ref f28) = true)
    {f29 : Addr} {oc29 kV29 dc29 pm29 cd29 ct29 : Value} {od29 an29 : Option Addr} {sl29 : Array (Option Value)} (a29 : PySem.W.nsIn K mainGlobals "joined" = some (some (.ref f29)))
    (l29 : K.lookup f29 = some ⟨oc29, od29, .func (PySem.W.fnOf "joined" "joined" (defArgs sJn) (defBody sJn) (defScope sJn) .none kV29 dc29 pm29 an29 cd29 ct29), sl29⟩)
    (c29 : PySem.W.codeIn K cd29 "joined" = true)
    (k29 : PySem.W.keepIn K (.ref f29) = true)
    {f30 : Addr} {oc30 kV30 dc30 pm30 cd30 ct30 : Value} {od30 an30 : Option Addr} {sl30 : Array (Option Value)} (a30 : PySem.W.nsIn K mainGlobals "zone_of_table" = some (some (.ref f30)))
    (l30 : K.lookup f30 = some ⟨oc30, od30, .func (PySem.W.fnOf "zone_of_table" "zone_of_table" (defArgs sZt) (defBody sZt) (defScope sZt) .none kV30 dc30 pm30 an30 cd30 ct30), sl30⟩)
    (c30 : PySem.W.codeIn K cd30 "zone_of_table" = true)
    (k30 : PySem.W.keepIn K (.ref f30) = true)
    {f31 : Addr} {oc31 kV31 dc31 pm31 cd31 ct31 : Value} {od31 an31 : Option Addr} {sl31 : Array (Option Value)} (a31 : PySem.W.nsIn K mainGlobals "common" = some (some (.ref f31)))
    (l31 : K.lookup f31 = some ⟨oc31, od31, .func (PySem.W.fnOf "common" "common" (defArgs sCm) (defBody sCm) (defScope sCm) .none kV31 dc31 pm31 an31 cd31 ct31), sl31⟩)
    (c31 : PySem.W.codeIn K cd31 "common" = true)
    (k31 : PySem.W.keepIn K (.ref f31) = true)
    {f32 : Addr} {oc32 kV32 dc32 pm32 cd32 ct32 : Value} {od32 an32 : Option Addr} {sl32 : Array (Option Value)} (a32 : PySem.W.nsIn K mainGlobals "meeting" = some (some (.ref f32)))
    (l32 : K.lookup f32 = some ⟨oc32, od32, .func (PySem.W.fnOf "meeting" "meeting" (defArgs sMt) (defBody sMt) (defScope sMt) .none kV32 dc32 pm32 an32 cd32 ct32), sl32⟩)
    (c32 : PySem.W.codeIn K cd32 "meeting" = true)
    (k32 : PySem.W.keepIn K (.ref f32) = true)
    {f33 : Addr} {oc33 kV33 dc33 pm33 cd33 ct33 : Value} {od33 an33 : Option Addr} {sl33 : Array (Option Value)} (a33 : PySem.W.nsIn K mainGlobals "is_part" = some (some (.ref f33)))
    (l33 : K.lookup f33 = some ⟨oc33, od33, .func (PySem.W.fnOf "is_part" "is_part" (defArgs sPt) (defBody sPt) (defScope sPt) .none kV33 dc33 pm33 an33 cd33 ct33), sl33⟩)
    (c33 : PySem.W.codeIn K cd33 "is_part" = true)
    (k33 : PySem.W.keepIn K (.ref f33) = true)
    {f34 : Addr} {oc34 kV34 dc34 pm34 cd34 ct34 : Value} {od34 an34 : Option Addr} {sl34 : Array (Option Value)} (a34 : PySem.W.nsIn K mainGlobals "row_in" = some (some (.ref f34)))
    (l34 : K.lookup f34 = some ⟨oc34, od34, .func (PySem.W.fnOf "row_in" "row_in" (defArgs sRw) (defBody sRw) (defScope sRw) .none kV34 dc34 pm34 an34 cd34 ct34), sl34⟩)
    (c34 : PySem.W.codeIn K cd34 "row_in" = true)
    (k34 : PySem.W.keepIn K (.ref f34) = true)
    {f39 : Addr} {oc39 kV39 dc39 pm39 cd39 ct39 : Value} {od39 an39 : Option Addr} {sl39 : Array (Option Value)} (a39 : PySem.W.nsIn K mainGlobals "is_row" = some (some (.ref f39)))
    (l39 : K.lookup f39 = some ⟨oc39, od39, .func (PySem.W.fnOf "is_row" "is_row" (defArgs sIr) (defBody sIr) (defScope sIr) .none kV39 dc39 pm39 an39 cd39 ct39), sl39⟩)
    (c39 : PySem.W.codeIn K cd39 "is_row" = true)
    (k39 : PySem.W.keepIn K (.ref f39) = true)
    {f40 : Addr} {oc40 kV40 dc40 pm40 cd40 ct40 : Value} {od40 an40 : Option Addr} {sl40 : Array (Option Value)} (a40 : PySem.W.nsIn K mainGlobals "are_rows" = some (some (.ref f40)))
    (l40 : K.lookup f40 = some ⟨oc40, od40, .func (PySem.W.fnOf "are_rows" "are_rows" (defArgs sAr) (defBody sAr) (defScope sAr) .none kV40 dc40 pm40 an40 cd40 ct40), sl40⟩)
    (c40 : PySem.W.codeIn K cd40 "are_rows" = true)
    (k40 : PySem.W.keepIn K (.ref f40) = true)
    {f41 : Addr} {oc41 kV41 dc41 pm41 cd41 ct41 : Value} {od41 an41 : Option Addr} {sl41 : Array (Option Value)} (a41 : PySem.W.nsIn K mainGlobals "are_triples" = some (some (.ref f41)))
    (l41 : K.lookup f41 = some ⟨oc41, od41, .func (PySem.W.fnOf "are_triples" "are_triples" (defArgs sAt) (defBody sAt) (defScope sAt) .none kV41 dc41 pm41 an41 cd41 ct41), sl41⟩)
    (c41 : PySem.W.codeIn K cd41 "are_triples" = true)
    (k41 : PySem.W.keepIn K (.ref f41) = true)
    {f42 : Addr} {oc42 kV42 dc42 pm42 cd42 ct42 : Value} {od42 an42 : Option Addr} {sl42 : Array (Option Value)} (a42 : PySem.W.nsIn K mainGlobals "require_data" = some (some (.ref f42)))
    (l42 : K.lookup f42 = some ⟨oc42, od42, .func (PySem.W.fnOf "require_data" "require_data" (defArgs sRd) (defBody sRd) (defScope sRd) .none kV42 dc42 pm42 an42 cd42 ct42), sl42⟩)
    (c42 : PySem.W.codeIn K cd42 "require_data" = true)
    (k42 : PySem.W.keepIn K (.ref f42) = true)
    {f43 : Addr} {oc43 kV43 dc43 pm43 cd43 ct43 : Value} {od43 an43 : Option Addr} {sl43 : Array (Option Value)} (a43 : PySem.W.nsIn K mainGlobals "first_duplicate" = some (some (.ref f43)))
    (l43 : K.lookup f43 = some ⟨oc43, od43, .func (PySem.W.fnOf "first_duplicate" "first_duplicate" (defArgs sFd) (defBody sFd) (defScope sFd) .none kV43 dc43 pm43 an43 cd43 ct43), sl43⟩)
    (c43 : PySem.W.codeIn K cd43 "first_duplicate" = true)
    (k43 : PySem.W.keepIn K (.ref f43) = true)
    {f56 : Addr} {oc56 kV56 dc56 pm56 cd56 ct56 : Value} {od56 an56 : Option Addr} {sl56 : Array (Option Value)} (a56 : PySem.W.nsIn K mainGlobals "are_columns" = some (some (.ref f56)))
    (l56 : K.lookup f56 = some ⟨oc56, od56, .func (PySem.W.fnOf "are_columns" "are_columns" (defArgs sAc) (defBody sAc) (defScope sAc) .none kV56 dc56 pm56 an56 cd56 ct56), sl56⟩)
    (c56 : PySem.W.codeIn K cd56 "are_columns" = true)
    (k56 : PySem.W.keepIn K (.ref f56) = true)
    {f57 : Addr} {oc57 kV57 dc57 pm57 cd57 ct57 : Value} {od57 an57 : Option Addr} {sl57 : Array (Option Value)} (a57 : PySem.W.nsIn K mainGlobals "are_some" = some (some (.ref f57)))
    (l57 : K.lookup f57 = some ⟨oc57, od57, .func (PySem.W.fnOf "are_some" "are_some" (defArgs sSo) (defBody sSo) (defScope sSo) .none kV57 dc57 pm57 an57 cd57 ct57), sl57⟩)
    (c57 : PySem.W.codeIn K cd57 "are_some" = true)
    (k57 : PySem.W.keepIn K (.ref f57) = true)
    {f58 : Addr} {oc58 kV58 dc58 pm58 cd58 ct58 : Value} {od58 an58 : Option Addr} {sl58 : Array (Option Value)} (a58 : PySem.W.nsIn K mainGlobals "is_table" = some (some (.ref f58)))
    (l58 : K.lookup f58 = some ⟨oc58, od58, .func (PySem.W.fnOf "is_table" "is_table" (defArgs sTa) (defBody sTa) (defScope sTa) .none kV58 dc58 pm58 an58 cd58 ct58), sl58⟩)
    (c58 : PySem.W.codeIn K cd58 "is_table" = true)
    (k58 : PySem.W.keepIn K (.ref f58) = true)
    {f66 : Addr} {oc66 kV66 dc66 pm66 cd66 ct66 : Value} {od66 an66 : Option Addr} {sl66 : Array (Option Value)} (a66 : PySem.W.nsIn K mainGlobals "_law_deck" = some (some (.ref f66)))
    (l66 : K.lookup f66 = some ⟨oc66, od66, .func (PySem.W.fnOf "_law_deck" "_law_deck" (defArgs sDeck) (defBody sDeck) (defScope sDeck) .none kV66 dc66 pm66 an66 cd66 ct66), sl66⟩)
    (c66 : PySem.W.codeIn K cd66 "_law_deck" = true)
    (k66 : PySem.W.keepIn K (.ref f66) = true)
    {f67 : Addr} {oc67 kV67 dc67 pm67 cd67 ct67 : Value} {od67 an67 : Option Addr} {sl67 : Array (Option Value)} (a67 : PySem.W.nsIn K mainGlobals "_law_draw" = some (some (.ref f67)))
    (l67 : K.lookup f67 = some ⟨oc67, od67, .func (PySem.W.fnOf "_law_draw" "_law_draw" (defArgs sDraw) (defBody sDraw) (defScope sDraw) .none kV67 dc67 pm67 an67 cd67 ct67), sl67⟩)
    (c67 : PySem.W.codeIn K cd67 "_law_draw" = true)
    (k67 : PySem.W.keepIn K (.ref f67) = true)
    {f68 : Addr} {oc68 kV68 dc68 pm68 cd68 ct68 : Value} {od68 an68 : Option Addr} {sl68 : Array (Option Value)} (a68 : PySem.W.nsIn K mainGlobals "_law_pick" = some (some (.ref f68)))
    (l68 : K.lookup f68 = some ⟨oc68, od68, .func (PySem.W.fnOf "_law_pick" "_law_pick" (defArgs sPick) (defBody sPick) (defScope sPick) .none kV68 dc68 pm68 an68 cd68 ct68), sl68⟩)
    (c68 : PySem.W.codeIn K cd68 "_law_pick" = true)
    (k68 : PySem.W.keepIn K (.ref f68) = true)
    {f69 : Addr} {oc69 kV69 dc69 pm69 cd69 ct69 : Value} {od69 an69 : Option Addr} {sl69 : Array (Option Value)} (a69 : PySem.W.nsIn K mainGlobals "_law_names" = some (some (.ref f69)))
    (l69 : K.lookup f69 = some ⟨oc69, od69, .func (PySem.W.fnOf "_law_names" "_law_names" (defArgs sNm) (defBody sNm) (defScope sNm) .none kV69 dc69 pm69 an69 cd69 ct69), sl69⟩)
    (c69 : PySem.W.codeIn K cd69 "_law_names" = true)
    (k69 : PySem.W.keepIn K (.ref f69) = true)
    {f70 : Addr} {oc70 kV70 dc70 pm70 cd70 ct70 : Value} {od70 an70 : Option Addr} {sl70 : Array (Option Value)} (a70 : PySem.W.nsIn K mainGlobals "_law_same" = some (some (.ref f70)))
    (l70 : K.lookup f70 = some ⟨oc70, od70, .func (PySem.W.fnOf "_law_same" "_law_same" (defArgs sSm) (defBody sSm) (defScope sSm) .none kV70 dc70 pm70 an70 cd70 ct70), sl70⟩)
    (c70 : PySem.W.codeIn K cd70 "_law_same" = true)
    (k70 : PySem.W.keepIn K (.ref f70) = true)
    {f71 : Addr} {oc71 kV71 dc71 pm71 cd71 ct71 : Value} {od71 an71 : Option Addr} {sl71 : Array (Option Value)} (a71 : PySem.W.nsIn K mainGlobals "_law_table_of" = some (some (.ref f71)))
    (l71 : K.lookup f71 = some ⟨oc71, od71, .func (PySem.W.fnOf "_law_table_of" "_law_table_of" (defArgs sTo) (defBody sTo) (defScope sTo) .none kV71 dc71 pm71 an71 cd71 ct71), sl71⟩)
    (c71 : PySem.W.codeIn K cd71 "_law_table_of" = true)
    (k71 : PySem.W.keepIn K (.ref f71) = true)
    {f72 : Addr} {oc72 kV72 dc72 pm72 cd72 ct72 : Value} {od72 an72 : Option Addr} {sl72 : Array (Option Value)} (a72 : PySem.W.nsIn K mainGlobals "_law_tight" = some (some (.ref f72)))
    (l72 : K.lookup f72 = some ⟨oc72, od72, .func (PySem.W.fnOf "_law_tight" "_law_tight" (defArgs sTi) (defBody sTi) (defScope sTi) .none kV72 dc72 pm72 an72 cd72 ct72), sl72⟩)
    (c72 : PySem.W.codeIn K cd72 "_law_tight" = true)
    (k72 : PySem.W.keepIn K (.ref f72) = true)
    {f73 : Addr} {oc73 kV73 dc73 pm73 cd73 ct73 : Value} {od73 an73 : Option Addr} {sl73 : Array (Option Value)} (a73 : PySem.W.nsIn K mainGlobals "_law_value" = some (some (.ref f73)))
    (l73 : K.lookup f73 = some ⟨oc73, od73, .func (PySem.W.fnOf "_law_value" "_law_value" (defArgs sVl) (defBody sVl) (defScope sVl) .none kV73 dc73 pm73 an73 cd73 ct73), sl73⟩)
    (c73 : PySem.W.codeIn K cd73 "_law_value" = true)
    (k73 : PySem.W.keepIn K (.ref f73) = true)
    {f74 : Addr} {oc74 kV74 dc74 pm74 cd74 ct74 : Value} {od74 an74 : Option Addr} {sl74 : Array (Option Value)} (a74 : PySem.W.nsIn K mainGlobals "_law_is_in" = some (some (.ref f74)))
    (l74 : K.lookup f74 = some ⟨oc74, od74, .func (PySem.W.fnOf "_law_is_in" "_law_is_in" (defArgs sIs) (defBody sIs) (defScope sIs) .none kV74 dc74 pm74 an74 cd74 ct74), sl74⟩)
    (c74 : PySem.W.codeIn K cd74 "_law_is_in" = true)
    (k74 : PySem.W.keepIn K (.ref f74) = true)
    {f75 : Addr} {oc75 kV75 dc75 pm75 cd75 ct75 : Value} {od75 an75 : Option Addr} {sl75 : Array (Option Value)} (a75 : PySem.W.nsIn K mainGlobals "_law_least_zone" = some (some (.ref f75)))
    (l75 : K.lookup f75 = some ⟨oc75, od75, .func (PySem.W.fnOf "_law_least_zone" "_law_least_zone" (defArgs sLz) (defBody sLz) (defScope sLz) .none kV75 dc75 pm75 an75 cd75 ct75), sl75⟩)
    (c75 : PySem.W.codeIn K cd75 "_law_least_zone" = true)
    (k75 : PySem.W.keepIn K (.ref f75) = true)
    {f76 : Addr} {oc76 kV76 dc76 pm76 cd76 ct76 : Value} {od76 an76 : Option Addr} {sl76 : Array (Option Value)} (a76 : PySem.W.nsIn K mainGlobals "_law_bounds" = some (some (.ref f76)))
    (l76 : K.lookup f76 = some ⟨oc76, od76, .func (PySem.W.fnOf "_law_bounds" "_law_bounds" (defArgs sLb) (defBody sLb) (defScope sLb) .none kV76 dc76 pm76 an76 cd76 ct76), sl76⟩)
    (c76 : PySem.W.codeIn K cd76 "_law_bounds" = true)
    (k76 : PySem.W.keepIn K (.ref f76) = true)
    {f77 : Addr} {oc77 kV77 dc77 pm77 cd77 ct77 : Value} {od77 an77 : Option Addr} {sl77 : Array (Option Value)} (a77 : PySem.W.nsIn K mainGlobals "_law_joined" = some (some (.ref f77)))
    (l77 : K.lookup f77 = some ⟨oc77, od77, .func (PySem.W.fnOf "_law_joined" "_law_joined" (defArgs sLj) (defBody sLj) (defScope sLj) .none kV77 dc77 pm77 an77 cd77 ct77), sl77⟩)
    (c77 : PySem.W.codeIn K cd77 "_law_joined" = true)
    (k77 : PySem.W.keepIn K (.ref f77) = true)
    {f78 : Addr} {oc78 kV78 dc78 pm78 cd78 ct78 : Value} {od78 an78 : Option Addr} {sl78 : Array (Option Value)} (a78 : PySem.W.nsIn K mainGlobals "_law_is_part" = some (some (.ref f78)))
    (l78 : K.lookup f78 = some ⟨oc78, od78, .func (PySem.W.fnOf "_law_is_part" "_law_is_part" (defArgs sLp) (defBody sLp) (defScope sLp) .none kV78 dc78 pm78 an78 cd78 ct78), sl78⟩)
    (c78 : PySem.W.codeIn K cd78 "_law_is_part" = true)
    (k78 : PySem.W.keepIn K (.ref f78) = true)
    {f79 : Addr} {oc79 kV79 dc79 pm79 cd79 ct79 : Value} {od79 an79 : Option Addr} {sl79 : Array (Option Value)} (a79 : PySem.W.nsIn K mainGlobals "_law_is_row_in" = some (some (.ref f79)))
    (l79 : K.lookup f79 = some ⟨oc79, od79, .func (PySem.W.fnOf "_law_is_row_in" "_law_is_row_in" (defArgs sLi) (defBody sLi) (defScope sLi) .none kV79 dc79 pm79 an79 cd79 ct79), sl79⟩)
    (c79 : PySem.W.codeIn K cd79 "_law_is_row_in" = true)
    (k79 : PySem.W.keepIn K (.ref f79) = true)
    {f80 : Addr} {oc80 kV80 dc80 pm80 cd80 ct80 : Value} {od80 an80 : Option Addr} {sl80 : Array (Option Value)} (a80 : PySem.W.nsIn K mainGlobals "_law_two_zones" = some (some (.ref f80)))
    (l80 : K.lookup f80 = some ⟨oc80, od80, .func (PySem.W.fnOf "_law_two_zones" "_law_two_zones" (defArgs sTz) (defBody sTz) (defScope sTz) .none kV80 dc80 pm80 an80 cd80 ct80), sl80⟩)
    (c80 : PySem.W.codeIn K cd80 "_law_two_zones" = true)
    (k80 : PySem.W.keepIn K (.ref f80) = true)
    {f81 : Addr} {oc81 kV81 dc81 pm81 cd81 ct81 : Value} {od81 an81 : Option Addr} {sl81 : Array (Option Value)} (a81 : PySem.W.nsIn K mainGlobals "_law_are_two_right" = some (some (.ref f81)))
    (l81 : K.lookup f81 = some ⟨oc81, od81, .func (PySem.W.fnOf "_law_are_two_right" "_law_are_two_right" (defArgs s2r) (defBody s2r) (defScope s2r) .none kV81 dc81 pm81 an81 cd81 ct81), sl81⟩)
    (c81 : PySem.W.codeIn K cd81 "_law_are_two_right" = true)
    (k81 : PySem.W.keepIn K (.ref f81) = true)
    {f82 : Addr} {oc82 kV82 dc82 pm82 cd82 ct82 : Value} {od82 an82 : Option Addr} {sl82 : Array (Option Value)} (a82 : PySem.W.nsIn K mainGlobals "_law_are_rows_right" = some (some (.ref f82)))
    (l82 : K.lookup f82 = some ⟨oc82, od82, .func (PySem.W.fnOf "_law_are_rows_right" "_law_are_rows_right" (defArgs sRr) (defBody sRr) (defScope sRr) .none kV82 dc82 pm82 an82 cd82 ct82), sl82⟩)
    (c82 : PySem.W.codeIn K cd82 "_law_are_rows_right" = true)
    (k82 : PySem.W.keepIn K (.ref f82) = true)
    {f83 : Addr} {oc83 kV83 dc83 pm83 cd83 ct83 : Value} {od83 an83 : Option Addr} {sl83 : Array (Option Value)} (a83 : PySem.W.nsIn K mainGlobals "law" = some (some (.ref f83)))
    (l83 : K.lookup f83 = some ⟨oc83, od83, .func (PySem.W.fnOf "law" "law" (defArgs sLw) (defBody sLw) (defScope sLw) .none kV83 dc83 pm83 an83 cd83 ct83), sl83⟩)
    (c83 : PySem.W.codeIn K cd83 "law" = true)
    (k83 : PySem.W.keepIn K (.ref f83) = true)
    {tN : Tok} (gtN : PySem.W.nsIn K mainGlobals "NOTHING" = some (some (.str ("" : Str) tN)))
    {tL : Tok} (gtL : PySem.W.nsIn K mainGlobals "LETTERS" = some (some (.str az tL)))
    {tM : Tok} (gtM : PySem.W.nsIn K mainGlobals "MOST_LETTERS" = some (some (.int 8 tM)))
    {tT : Tok} (gtT : PySem.W.nsIn K mainGlobals "TABLE_PARTS" = some (some (.int 4 tT)))
    {tC : Tok} (gtC : PySem.W.nsIn K mainGlobals "MOST_COLUMNS" = some (some (.int 3 tC)))
    {tR : Tok} (gtR : PySem.W.nsIn K mainGlobals "ROW_PARTS" = some (some (.int 2 tR)))
    {tD : Tok} (gtD : PySem.W.nsIn K mainGlobals "DATA_PARTS" = some (some (.int 3 tD)))
    (z_isinstance : PySem.W.nsIn K mainGlobals "isinstance" = some none)
    (z_int : PySem.W.nsIn K mainGlobals "int" = some none)
    (z_bool : PySem.W.nsIn K mainGlobals "bool" = some none)
    (z_tuple : PySem.W.nsIn K mainGlobals "tuple" = some none)
    (z_list : PySem.W.nsIn K mainGlobals "list" = some none)
    (z_dict : PySem.W.nsIn K mainGlobals "dict" = some none)
    (z_str : PySem.W.nsIn K mainGlobals "str" = some none)
    (z_len : PySem.W.nsIn K mainGlobals "len" = some none)
    (z_all : PySem.W.nsIn K mainGlobals "all" = some none)
    (z_min : PySem.W.nsIn K mainGlobals "min" = some none)
    (z_max : PySem.W.nsIn K mainGlobals "max" = some none)
    (z_abs : PySem.W.nsIn K mainGlobals "abs" = some none)
    (z_sorted : PySem.W.nsIn K mainGlobals "sorted" = some none)
    (z_zip : PySem.W.nsIn K mainGlobals "zip" = some none)
    (z_range : PySem.W.nsIn K mainGlobals "range" = some none)
    (z_repr : PySem.W.nsIn K mainGlobals "repr" = some none)
    (z_enumerate : PySem.W.nsIn K mainGlobals "enumerate" = some none)
    (z_set : PySem.W.nsIn K mainGlobals "set" = some none)
    {WE : Addr} (aCWE : PySem.W.nsIn K mainGlobals "WakeError" = some (some (.ref WE)))
    {Nt : Addr} (aCNt : PySem.W.nsIn K mainGlobals "NoTable" = some (some (.ref Nt)))
    {CS : Addr} (aCCS : PySem.W.nsIn K mainGlobals "Schema" = some (some (.ref CS)))
    {CD : Addr} (aCCD : PySem.W.nsIn K mainGlobals "Database" = some (some (.ref CD)))
    {f101 : Addr} {oc101 kV101 dc101 pm101 cd101 ct101 : Value} {od101 an101 : Option Addr} {sl101 : Array (Option Value)} (at101 : PySem.W.findIn K (.ref Nt) "__init__" = some (some (.ref f101)))
    (l101 : K.lookup f101 = some ⟨oc101, od101, .func (PySem.W.fnOf "__init__" "NoTable.__init__" (defArgs sNt) (defBody sNt) (defScope sNt) .none kV101 dc101 pm101 an101 cd101 ct101), sl101⟩)
    (c101 : PySem.W.codeIn K cd101 "NoTable.__init__" = true)
    (k101 : PySem.W.keepIn K (.ref f101) = true)
    {f111 : Addr} {oc111 kV111 dc111 pm111 cd111 ct111 : Value} {od111 an111 : Option Addr} {sl111 : Array (Option Value)} (at111 : PySem.W.findIn K (.ref CS) "__init__" = some (some (.ref f111)))
    (l111 : K.lookup f111 = some ⟨oc111, od111, .func (PySem.W.fnOf "__init__" "Schema.__init__" (defArgs sSi) (defBody sSi) (defScope sSi) .none kV111 dc111 pm111 an111 cd111 ct111), sl111⟩)
    (c111 : PySem.W.codeIn K cd111 "Schema.__init__" = true)
    (k111 : PySem.W.keepIn K (.ref f111) = true)
    (i111 : PySem.W.isFn K (.ref f111) = true)
    {p112 : Addr} (at112 : PySem.W.findIn K (.ref CS) "tables" = some (some (.ref p112)))
    (gt112 : PySem.W.specialIn K (.ref p112) "__get__" = some (some (.builtin "property.__get__")))
    (tk112 : PySem.W.takesIn K (.ref p112) = some true)
    {f112 : Addr} {oc112 kV112 dc112 pm112 cd112 ct112 : Value} {od112 an112 : Option Addr} {sl112 : Array (Option Value)} {r112 : List Value} (rc112 : PySem.W.recIn K p112 "property" = some (.ref f112 :: r112))
    (l112 : K.lookup f112 = some ⟨oc112, od112, .func (PySem.W.fnOf "tables" "Schema.tables" (defArgs sSt) (defBody sSt) (defScope sSt) .none kV112 dc112 pm112 an112 cd112 ct112), sl112⟩)
    (c112 : PySem.W.codeIn K cd112 "Schema.tables" = true)
    (k112 : PySem.W.keepIn K (.ref f112) = true)
    {f113 : Addr} {oc113 kV113 dc113 pm113 cd113 ct113 : Value} {od113 an113 : Option Addr} {sl113 : Array (Option Value)} (at113 : PySem.W.findIn K (.ref CS) "__getitem__" = some (some (.ref f113)))
    (l113 : K.lookup f113 = some ⟨oc113, od113, .func (PySem.W.fnOf "__getitem__" "Schema.__getitem__" (defArgs sSg) (defBody sSg) (defScope sSg) .none kV113 dc113 pm113 an113 cd113 ct113), sl113⟩)
    (c113 : PySem.W.codeIn K cd113 "Schema.__getitem__" = true)
    (k113 : PySem.W.keepIn K (.ref f113) = true)
    (i113 : PySem.W.isFn K (.ref f113) = true)
    (n113 : PySem.W.fnIn K f113 = true)
    {f114 : Addr} {oc114 kV114 dc114 pm114 cd114 ct114 : Value} {od114 an114 : Option Addr} {sl114 : Array (Option Value)} (at114 : PySem.W.findIn K (.ref CS) "__contains__" = some (some (.ref f114)))
    (l114 : K.lookup f114 = some ⟨oc114, od114, .func (PySem.W.fnOf "__contains__" "Schema.__contains__" (defArgs sSc) (defBody sSc) (defScope sSc) .none kV114 dc114 pm114 an114 cd114 ct114), sl114⟩)
    (c114 : PySem.W.codeIn K cd114 "Schema.__contains__" = true)
    (k114 : PySem.W.keepIn K (.ref f114) = true)
    (i114 : PySem.W.isFn K (.ref f114) = true)
    {f121 : Addr} {oc121 kV121 dc121 pm121 cd121 ct121 : Value} {od121 an121 : Option Addr} {sl121 : Array (Option Value)} (at121 : PySem.W.findIn K (.ref CD) "__init__" = some (some (.ref f121)))
    {T121 : Addr} (l121 : K.lookup f121 = some ⟨oc121, od121, .func (PySem.W.fnOf "__init__" "Database.__init__" (defArgs sDi) (defBody sDi) (defScope sDi) (.ref T121) kV121 dc121 pm121 an121 cd121 ct121), sl121⟩)
    (c121 : PySem.W.codeIn K cd121 "Database.__init__" = true)
    (k121 : PySem.W.keepIn K (.ref f121) = true)
    {ocT : Value} {odT : Option Addr} {aT : Addr} {nT : Nat} {slT : Array (Option Value)} (lt121 : K.lookup T121 = some ⟨ocT, odT, .seq #[.ref aT] nT, slT⟩)
    (i121 : PySem.W.isFn K (.ref f121) = true)
    {p122 : Addr} (at122 : PySem.W.findIn K (.ref CD) "schema" = some (some (.ref p122)))
    (gt122 : PySem.W.specialIn K (.ref p122) "__get__" = some (some (.builtin "property.__get__")))
    (tk122 : PySem.W.takesIn K (.ref p122) = some true)
    {f122 : Addr} {oc122 kV122 dc122 pm122 cd122 ct122 : Value} {od122 an122 : Option Addr} {sl122 : Array (Option Value)} {r122 : List Value} (rc122 : PySem.W.recIn K p122 "property" = some (.ref f122 :: r122))
    (l122 : K.lookup f122 = some ⟨oc122, od122, .func (PySem.W.fnOf "schema" "Database.schema" (defArgs sDs1) (defBody sDs1) (defScope sDs1) .none kV122 dc122 pm122 an122 cd122 ct122), sl122⟩)
    (c122 : PySem.W.codeIn K cd122 "Database.schema" = true)
    (k122 : PySem.W.keepIn K (.ref f122) = true)
    {f123 : Addr} {oc123 kV123 dc123 pm123 cd123 ct123 : Value} {od123 an123 : Option Addr} {sl123 : Array (Option Value)} (at123 : PySem.W.findIn K (.ref CD) "part_of" = some (some (.ref f123)))
    (l123 : K.lookup f123 = some ⟨oc123, od123, .func (PySem.W.fnOf "part_of" "Database.part_of" (defArgs sDp) (defBody sDp) (defScope sDp) .none kV123 dc123 pm123 an123 cd123 ct123), sl123⟩)
    (c123 : PySem.W.codeIn K cd123 "Database.part_of" = true)
    (k123 : PySem.W.keepIn K (.ref f123) = true)
    (i123 : PySem.W.isFn K (.ref f123) = true)
    {f124 : Addr} {oc124 kV124 dc124 pm124 cd124 ct124 : Value} {od124 an124 : Option Addr} {sl124 : Array (Option Value)} (at124 : PySem.W.findIn K (.ref CD) "__getitem__" = some (some (.ref f124)))
    (l124 : K.lookup f124 = some ⟨oc124, od124, .func (PySem.W.fnOf "__getitem__" "Database.__getitem__" (defArgs sDg) (defBody sDg) (defScope sDg) .none kV124 dc124 pm124 an124 cd124 ct124), sl124⟩)
    (c124 : PySem.W.codeIn K cd124 "Database.__getitem__" = true)
    (k124 : PySem.W.keepIn K (.ref f124) = true)
    (i124 : PySem.W.isFn K (.ref f124) = true)
    (n124 : PySem.W.fnIn K f124 = true)
    (pgCS : PySem.W.plainGet K CS Str.empty = true)
    (hdCS : PySem.W.hasDictIn K CS = true)
    (poCS : PySem.W.plainOver K CS = true)
    (saCS : PySem.W.findIn K (.ref CS) "__setattr__" = some (some (.builtin "object.__setattr__")))
    (mkCS : PySem.W.makesIn K CS = true)
    (kcCS : PySem.W.keepIn K (.ref CS) = true)
    (pgCD : PySem.W.plainGet K CD Str.empty = true)
    (hdCD : PySem.W.hasDictIn K CD = true)
    (poCD : PySem.W.plainOver K CD = true)
    (saCD : PySem.W.findIn K (.ref CD) "__setattr__" = some (some (.builtin "object.__setattr__")))
    (mkCD : PySem.W.makesIn K CD = true)
    (kcCD : PySem.W.keepIn K (.ref CD) = true)
    (nTk : PySem.W.findIn K (.ref CS) "tables_kept" = some none)
    (nSk : PySem.W.findIn K (.ref CD) "schema_kept" = some none)
    (nPk : PySem.W.findIn K (.ref CD) "parts_kept" = some none)
    {nmN qN : Str} {NN : Addr} {bsN bmN : List Value} {snN : List Str} {subN : List Value} {abN : Bool} {colN : Option Bool} {ddN : Option Addr} {m0 m1 m2 m3 m5 : Option Value} (xNt : K.lookup Nt = some (excClassObj nmN qN Nt NN bsN bmN true snN subN abN colN ddN m0 m1 m2 m3 m5 "ValueError.__new__"))
    (vNt : PySem.HandSPX.refsVE bmN = true)
    (saNt : PySem.W.findIn K (.ref Nt) "__setattr__" = some (some (.builtin "object.__setattr__")))
    (exNt : PySem.W.subIn K (.ref Nt) (.type "BaseException") = some true)
    (tyNt : PySem.W.typeIn K (.ref Nt) = some (.type "type"))
    (kNt : PySem.W.keepIn K (.ref Nt) = true)
    (tiNt : PySem.W.typeIn K (.ref f101) = some (.type "function"))
    (noNt : PySem.W.findIn K (.ref Nt) "name" = some none)
    (rdWE : PySem.W.readsIn K WE (.type "type") = true)
    (gaWE : PySem.W.specialIn K (.ref WE) "__getattribute__" = some (some (.builtin "type.__getattribute__")))
    (wIWE : PySem.W.findCls K (.ref WE) (.type "type") "__init__" = some (.val (.builtin "ValueError.__init__")))
    (gaNt : PySem.W.findIn K (.ref Nt) "__getattribute__" = some (some (.builtin "BaseException.__getattribute__")))
    (ggNt : PySem.W.findIn K (.ref Nt) "__getattr__" = some none)
    (hdNt : PySem.W.hasDictIn K Nt = true)
    (caNt : PySem.W.findIn K (.ref Nt) "__class__" = some (some (.builtin "object.__class__")))
    (cgNt : PySem.W.specialIn K (.builtin "object.__class__") "__get__" = some (some (.builtin "getset_descriptor.__get__")))
    (ctNt : PySem.W.takesIn K (.builtin "object.__class__") = some true)
    (cmNt : PySem.W.mroIn K Nt (.type "object") = some true)
    (emNt : PySem.W.exmOne K (.ref Nt) (.ref Nt) = some true)
    (kiNt : PySem.W.kitOne K (.ref Nt) (.ref WE) = some true)
    : ∃ fd : FuncData, (∀ (s : Shared) (v : Value), BindsTo s fd ⟨[v], []⟩ [("script", v)]) ∧ ∀ base : Heap, K.In base → base.Ns mainGlobals mg → FnG P w K mg base 9 fa fd ["script"] (spLw K) := by
  have e := hfa.symm.trans (PySem.W.mg_of X G a83)
  obtain rfl : f83 = fa := (Value.ref.inj (Option.some.inj e)).symm
  have B : Bn mg := ⟨PySem.W.mg_none_of X G z_isinstance, PySem.W.mg_none_of X G z_int, PySem.W.mg_none_of X G z_bool, PySem.W.mg_none_of X G z_tuple, PySem.W.mg_none_of X G z_list, PySem.W.mg_none_of X G z_dict, PySem.W.mg_none_of X G z_str, PySem.W.mg_none_of X G z_len, PySem.W.mg_none_of X G z_all, PySem.W.mg_none_of X G z_min, PySem.W.mg_none_of X G z_max, PySem.W.mg_none_of X G z_abs, PySem.W.mg_none_of X G z_sorted, PySem.W.mg_none_of X G z_zip, PySem.W.mg_none_of X G z_range, PySem.W.mg_none_of X G z_repr, PySem.W.mg_none_of X G z_enumerate⟩
  have hset : mg "set" = none := PySem.W.mg_none_of X G z_set
  have N : Gn mg := ⟨⟨tN, PySem.W.mg_of X G gtN⟩⟩
  have Nf : Gf mg := ⟨⟨tL, PySem.W.mg_of X G gtL⟩, ⟨tM, PySem.W.mg_of X G gtM⟩⟩
  have Ns : Gs mg := ⟨⟨tT, PySem.W.mg_of X G gtT⟩, ⟨tC, PySem.W.mg_of X G gtC⟩⟩
  have Nd : Gd mg := ⟨⟨tR, PySem.W.mg_of X G gtR⟩, ⟨tD, PySem.W.mg_of X G gtD⟩⟩
  have A14 : At K "is_integer" sInt f14 oc14 kV14 dc14 pm14 cd14 ct14 od14 an14 sl14 := ⟨a14, l14, c14, k14⟩
  have A15 : At K "is_count" sCn f15 oc15 kV15 dc15 pm15 cd15 ct15 od15 an15 sl15 := ⟨a15, l15, c15, k15⟩
  have A16 : At K "is_name" sIn f16 oc16 kV16 dc16 pm16 cd16 ct16 od16 an16 sl16 := ⟨a16, l16, c16, k16⟩
  have A17 : At K "are_names" sNs f17 oc17 kV17 dc17 pm17 cd17 ct17 od17 an17 sl17 := ⟨a17, l17, c17, k17⟩
  have A18 : At K "are_distinct" sDs f18 oc18 kV18 dc18 pm18 cd18 ct18 od18 an18 sl18 := ⟨a18, l18, c18, k18⟩
  have A19 : At K "do_ascend" sAs f19 oc19 kV19 dc19 pm19 cd19 ct19 od19 an19 sl19 := ⟨a19, l19, c19, k19⟩
  have A24 : At K "closed_table" sCt f24 oc24 kV24 dc24 pm24 cd24 ct24 od24 an24 sl24 := ⟨a24, l24, c24, k24⟩
  have A25 : At K "closed" sCl f25 oc25 kV25 dc25 pm25 cd25 ct25 od25 an25 sl25 := ⟨a25, l25, c25, k25⟩
  have A26 : At K "value_in" sVi f26 oc26 kV26 dc26 pm26 cd26 ct26 od26 an26 sl26 := ⟨a26, l26, c26, k26⟩
  have A27 : At K "is_in_zone" sZn f27 oc27 kV27 dc27 pm27 cd27 ct27 od27 an27 sl27 := ⟨a27, l27, c27, k27⟩
  have A28 : At K "zone_of" sZo f28 oc28 kV28 dc28 pm28 cd28 ct28 od28 an28 sl28 := ⟨a28, l28, c28, k28⟩
  have A29 : At K "joined" sJn f29 oc29 kV29 dc29 pm29 cd29 ct29 od29 an29 sl29 := ⟨a29, l29, c29, k29⟩
  have A30 : At K "zone_of_table" sZt f30 oc30 kV30 dc30 pm30 cd30 ct30 od30 an30 sl30 := ⟨a30, l30, c30, k30⟩
  have A31 : At K "common" sCm f31 oc31 kV31 dc31 pm31 cd31 ct31 od31 an31 sl31 := ⟨a31, l31, c31, k31⟩
  have A32 : At K "meeting" sMt f32 oc32 kV32 dc32 pm32 cd32 ct32 od32 an32 sl32 := ⟨a32, l32, c32, k32⟩
  have A33 : At K "is_part" sPt f33 oc33 kV33 dc33 pm33 cd33 ct33 od33 an33 sl33 := ⟨a33, l33, c33, k33⟩
  have A34 : At K "row_in" sRw f34 oc34 kV34 dc34 pm34 cd34 ct34 od34 an34 sl34 := ⟨a34, l34, c34, k34⟩
  have A39 : At K "is_row" sIr f39 oc39 kV39 dc39 pm39 cd39 ct39 od39 an39 sl39 := ⟨a39, l39, c39, k39⟩
  have A40 : At K "are_rows" sAr f40 oc40 kV40 dc40 pm40 cd40 ct40 od40 an40 sl40 := ⟨a40, l40, c40, k40⟩
  have A41 : At K "are_triples" sAt f41 oc41 kV41 dc41 pm41 cd41 ct41 od41 an41 sl41 := ⟨a41, l41, c41, k41⟩
  have A42 : At K "require_data" sRd f42 oc42 kV42 dc42 pm42 cd42 ct42 od42 an42 sl42 := ⟨a42, l42, c42, k42⟩
  have A43 : At K "first_duplicate" sFd f43 oc43 kV43 dc43 pm43 cd43 ct43 od43 an43 sl43 := ⟨a43, l43, c43, k43⟩
  have A56 : At K "are_columns" sAc f56 oc56 kV56 dc56 pm56 cd56 ct56 od56 an56 sl56 := ⟨a56, l56, c56, k56⟩
  have A57 : At K "are_some" sSo f57 oc57 kV57 dc57 pm57 cd57 ct57 od57 an57 sl57 := ⟨a57, l57, c57, k57⟩
  have A58 : At K "is_table" sTa f58 oc58 kV58 dc58 pm58 cd58 ct58 od58 an58 sl58 := ⟨a58, l58, c58, k58⟩
  have A66 : At K "_law_deck" sDeck f66 oc66 kV66 dc66 pm66 cd66 ct66 od66 an66 sl66 := ⟨a66, l66, c66, k66⟩
  have A67 : At K "_law_draw" sDraw f67 oc67 kV67 dc67 pm67 cd67 ct67 od67 an67 sl67 := ⟨a67, l67, c67, k67⟩
  have A68 : At K "_law_pick" sPick f68 oc68 kV68 dc68 pm68 cd68 ct68 od68 an68 sl68 := ⟨a68, l68, c68, k68⟩
  have A69 : At K "_law_names" sNm f69 oc69 kV69 dc69 pm69 cd69 ct69 od69 an69 sl69 := ⟨a69, l69, c69, k69⟩
  have A70 : At K "_law_same" sSm f70 oc70 kV70 dc70 pm70 cd70 ct70 od70 an70 sl70 := ⟨a70, l70, c70, k70⟩
  have A71 : At K "_law_table_of" sTo f71 oc71 kV71 dc71 pm71 cd71 ct71 od71 an71 sl71 := ⟨a71, l71, c71, k71⟩
  have A72 : At K "_law_tight" sTi f72 oc72 kV72 dc72 pm72 cd72 ct72 od72 an72 sl72 := ⟨a72, l72, c72, k72⟩
  have A73 : At K "_law_value" sVl f73 oc73 kV73 dc73 pm73 cd73 ct73 od73 an73 sl73 := ⟨a73, l73, c73, k73⟩
  have A74 : At K "_law_is_in" sIs f74 oc74 kV74 dc74 pm74 cd74 ct74 od74 an74 sl74 := ⟨a74, l74, c74, k74⟩
  have A75 : At K "_law_least_zone" sLz f75 oc75 kV75 dc75 pm75 cd75 ct75 od75 an75 sl75 := ⟨a75, l75, c75, k75⟩
  have A76 : At K "_law_bounds" sLb f76 oc76 kV76 dc76 pm76 cd76 ct76 od76 an76 sl76 := ⟨a76, l76, c76, k76⟩
  have A77 : At K "_law_joined" sLj f77 oc77 kV77 dc77 pm77 cd77 ct77 od77 an77 sl77 := ⟨a77, l77, c77, k77⟩
  have A78 : At K "_law_is_part" sLp f78 oc78 kV78 dc78 pm78 cd78 ct78 od78 an78 sl78 := ⟨a78, l78, c78, k78⟩
  have A79 : At K "_law_is_row_in" sLi f79 oc79 kV79 dc79 pm79 cd79 ct79 od79 an79 sl79 := ⟨a79, l79, c79, k79⟩
  have A80 : At K "_law_two_zones" sTz f80 oc80 kV80 dc80 pm80 cd80 ct80 od80 an80 sl80 := ⟨a80, l80, c80, k80⟩
  have A81 : At K "_law_are_two_right" s2r f81 oc81 kV81 dc81 pm81 cd81 ct81 od81 an81 sl81 := ⟨a81, l81, c81, k81⟩
  have A82 : At K "_law_are_rows_right" sRr f82 oc82 kV82 dc82 pm82 cd82 ct82 od82 an82 sl82 := ⟨a82, l82, c82, k82⟩
  have A83 : At K "law" sLw f83 oc83 kV83 dc83 pm83 cd83 ct83 od83 an83 sl83 := ⟨a83, l83, c83, k83⟩
  have b14 : Binds K (PySem.W.fnOf "is_integer" "is_integer" (defArgs sInt) (defBody sInt) (defScope sInt) .none kV14 dc14 pm14 an14 cd14 ct14) ["thing"] [] := A14.fn.binds (ps := ["thing"]) fun _ _ _ _ _ _ us hl => match us, hl with | [_], _ => rfl
  have b15 : Binds K (PySem.W.fnOf "is_count" "is_count" (defArgs sCn) (defBody sCn) (defScope sCn) .none kV15 dc15 pm15 an15 cd15 ct15) ["thing"] [] := A15.fn.binds (ps := ["thing"]) fun _ _ _ _ _ _ us hl => match us, hl with | [_], _ => rfl
  have b16 : Binds K (PySem.W.fnOf "is_name" "is_name" (defArgs sIn) (defBody sIn) (defScope sIn) .none kV16 dc16 pm16 an16 cd16 ct16) ["thing"] [] := A16.fn.binds (ps := ["thing"]) fun _ _ _ _ _ _ us hl => match us, hl with | [_], _ => rfl
  have b17 : Binds K (PySem.W.fnOf "are_names" "are_names" (defArgs sNs) (defBody sNs) (defScope sNs) .none kV17 dc17 pm17 an17 cd17 ct17) ["thing"] [] := A17.fn.binds (ps := ["thing"]) fun _ _ _ _ _ _ us hl => match us, hl with | [_], _ => rfl
  have b18 : Binds K (PySem.W.fnOf "are_distinct" "are_distinct" (defArgs sDs) (defBody sDs) (defScope sDs) .none kV18 dc18 pm18 an18 cd18 ct18) ["things"] [] := A18.fn.binds (ps := ["things"]) fun _ _ _ _ _ _ us hl => match us, hl with | [_], _ => rfl
  have b19 : Binds K (PySem.W.fnOf "do_ascend" "do_ascend" (defArgs sAs) (defBody sAs) (defScope sAs) .none kV19 dc19 pm19 an19 cd19 ct19) ["things"] [] := A19.fn.binds (ps := ["things"]) fun _ _ _ _ _ _ us hl => match us, hl with | [_], _ => rfl
  have b24 : Binds K (PySem.W.fnOf "closed_table" "closed_table" (defArgs sCt) (defBody sCt) (defScope sCt) .none kV24 dc24 pm24 an24 cd24 ct24) ["columns", "bounds"] [] := A24.fn.binds (ps := ["columns", "bounds"]) fun _ _ _ _ _ _ us hl => match us, hl with | [_, _], _ => rfl
  have b25 : Binds K (PySem.W.fnOf "closed" "closed" (defArgs sCl) (defBody sCl) (defScope sCl) .none kV25 dc25 pm25 an25 cd25 ct25) ["columns", "bounds"] [] := A25.fn.binds (ps := ["columns", "bounds"]) fun _ _ _ _ _ _ us hl => match us, hl with | [_, _], _ => rfl
  have b26 : Binds K (PySem.W.fnOf "value_in" "value_in" (defArgs sVi) (defBody sVi) (defScope sVi) .none kV26 dc26 pm26 an26 cd26 ct26) ["worths", "name"] [] := A26.fn.binds (ps := ["worths", "name"]) fun _ _ _ _ _ _ us hl => match us, hl with | [_, _], _ => rfl
  have b27 : Binds K (PySem.W.fnOf "is_in_zone" "is_in_zone" (defArgs sZn) (defBody sZn) (defScope sZn) .none kV27 dc27 pm27 an27 cd27 ct27) ["columns", "zone", "values"] [] := A27.fn.binds (ps := ["columns", "zone", "values"]) fun _ _ _ _ _ _ us hl => match us, hl with | [_, _, _], _ => rfl
  have b28 : Binds K (PySem.W.fnOf "zone_of" "zone_of" (defArgs sZo) (defBody sZo) (defScope sZo) .none kV28 dc28 pm28 an28 cd28 ct28) ["columns", "rows"] [] := A28.fn.binds (ps := ["columns", "rows"]) fun _ _ _ _ _ _ us hl => match us, hl with | [_, _], _ => rfl
  have b29 : Binds K (PySem.W.fnOf "joined" "joined" (defArgs sJn) (defBody sJn) (defScope sJn) .none kV29 dc29 pm29 an29 cd29 ct29) ["zone", "other"] [] := A29.fn.binds (ps := ["zone", "other"]) fun _ _ _ _ _ _ us hl => match us, hl with | [_, _], _ => rfl
  have b30 : Binds K (PySem.W.fnOf "zone_of_table" "zone_of_table" (defArgs sZt) (defBody sZt) (defScope sZt) .none kV30 dc30 pm30 an30 cd30 ct30) ["database", "table"] [] := A30.fn.binds (ps := ["database", "table"]) fun _ _ _ _ _ _ us hl => match us, hl with | [_, _], _ => rfl
  have b31 : Binds K (PySem.W.fnOf "common" "common" (defArgs sCm) (defBody sCm) (defScope sCm) .none kV31 dc31 pm31 an31 cd31 ct31) ["columns", "zone", "other"] [] := A31.fn.binds (ps := ["columns", "zone", "other"]) fun _ _ _ _ _ _ us hl => match us, hl with | [_, _, _], _ => rfl
  have b32 : Binds K (PySem.W.fnOf "meeting" "meeting" (defArgs sMt) (defBody sMt) (defScope sMt) .none kV32 dc32 pm32 an32 cd32 ct32) ["columns", "zone", "bounds"] [] := A32.fn.binds (ps := ["columns", "zone", "bounds"]) fun _ _ _ _ _ _ us hl => match us, hl with | [_, _, _], _ => rfl
  have b33 : Binds K (PySem.W.fnOf "is_part" "is_part" (defArgs sPt) (defBody sPt) (defScope sPt) .none kV33 dc33 pm33 an33 cd33 ct33) ["zone", "other"] [] := A33.fn.binds (ps := ["zone", "other"]) fun _ _ _ _ _ _ us hl => match us, hl with | [_, _], _ => rfl
  have b34 : Binds K (PySem.W.fnOf "row_in" "row_in" (defArgs sRw) (defBody sRw) (defScope sRw) .none kV34 dc34 pm34 an34 cd34 ct34) ["columns", "zone"] [] := A34.fn.binds (ps := ["columns", "zone"]) fun _ _ _ _ _ _ us hl => match us, hl with | [_, _], _ => rfl
  have b39 : Binds K (PySem.W.fnOf "is_row" "is_row" (defArgs sIr) (defBody sIr) (defScope sIr) .none kV39 dc39 pm39 an39 cd39 ct39) ["thing", "width"] [] := A39.fn.binds (ps := ["thing", "width"]) fun _ _ _ _ _ _ us hl => match us, hl with | [_, _], _ => rfl
  have b40 : Binds K (PySem.W.fnOf "are_rows" "are_rows" (defArgs sAr) (defBody sAr) (defScope sAr) .none kV40 dc40 pm40 an40 cd40 ct40) ["thing", "width", "following"] [] := A40.fn.binds (ps := ["thing", "width", "following"]) fun _ _ _ _ _ _ us hl => match us, hl with | [_, _, _], _ => rfl
  have b41 : Binds K (PySem.W.fnOf "are_triples" "are_triples" (defArgs sAt) (defBody sAt) (defScope sAt) .none kV41 dc41 pm41 an41 cd41 ct41) ["schema", "thing"] [] := A41.fn.binds (ps := ["schema", "thing"]) fun _ _ _ _ _ _ us hl => match us, hl with | [_, _], _ => rfl
  have b42 : Binds K (PySem.W.fnOf "require_data" "require_data" (defArgs sRd) (defBody sRd) (defScope sRd) .none kV42 dc42 pm42 an42 cd42 ct42) ["schema", "thing"] [] := A42.fn.binds (ps := ["schema", "thing"]) fun _ _ _ _ _ _ us hl => match us, hl with | [_, _], _ => rfl
  have b43 : Binds K (PySem.W.fnOf "first_duplicate" "first_duplicate" (defArgs sFd) (defBody sFd) (defScope sFd) .none kV43 dc43 pm43 an43 cd43 ct43) ["table", "rows"] [] := A43.fn.binds (ps := ["table", "rows"]) fun _ _ _ _ _ _ us hl => match us, hl with | [_, _], _ => rfl
  have b56 : Binds K (PySem.W.fnOf "are_columns" "are_columns" (defArgs sAc) (defBody sAc) (defScope sAc) .none kV56 dc56 pm56 an56 cd56 ct56) ["thing"] [] := A56.fn.binds (ps := ["thing"]) fun _ _ _ _ _ _ us hl => match us, hl with | [_], _ => rfl
  have b57 : Binds K (PySem.W.fnOf "are_some" "are_some" (defArgs sSo) (defBody sSo) (defScope sSo) .none kV57 dc57 pm57 an57 cd57 ct57) ["thing", "columns"] [] := A57.fn.binds (ps := ["thing", "columns"]) fun _ _ _ _ _ _ us hl => match us, hl with | [_, _], _ => rfl
  have b58 : Binds K (PySem.W.fnOf "is_table" "is_table" (defArgs sTa) (defBody sTa) (defScope sTa) .none kV58 dc58 pm58 an58 cd58 ct58) ["thing"] [] := A58.fn.binds (ps := ["thing"]) fun _ _ _ _ _ _ us hl => match us, hl with | [_], _ => rfl
  have b66 : Binds K (PySem.W.fnOf "_law_deck" "_law_deck" (defArgs sDeck) (defBody sDeck) (defScope sDeck) .none kV66 dc66 pm66 an66 cd66 ct66) ["script", "salt"] [] := A66.fn.binds (ps := ["script", "salt"]) fun _ _ _ _ _ _ us hl => match us, hl with | [_, _], _ => rfl
  have b67 : Binds K (PySem.W.fnOf "_law_draw" "_law_draw" (defArgs sDraw) (defBody sDraw) (defScope sDraw) .none kV67 dc67 pm67 an67 cd67 ct67) ["deck", "ways"] [] := A67.fn.binds (ps := ["deck", "ways"]) fun _ _ _ _ _ _ us hl => match us, hl with | [_, _], _ => rfl
  have b68 : Binds K (PySem.W.fnOf "_law_pick" "_law_pick" (defArgs sPick) (defBody sPick) (defScope sPick) .none kV68 dc68 pm68 an68 cd68 ct68) ["deck", "some"] [] := A68.fn.binds (ps := ["deck", "some"]) fun _ _ _ _ _ _ us hl => match us, hl with | [_, _], _ => rfl
  have b69 : Binds K (PySem.W.fnOf "_law_names" "_law_names" (defArgs sNm) (defBody sNm) (defScope sNm) .none kV69 dc69 pm69 an69 cd69 ct69) ["deck", "many"] [] := A69.fn.binds (ps := ["deck", "many"]) fun _ _ _ _ _ _ us hl => match us, hl with | [_, _], _ => rfl
  have b70 : Binds K (PySem.W.fnOf "_law_same" "_law_same" (defArgs sSm) (defBody sSm) (defScope sSm) .none kV70 dc70 pm70 an70 cd70 ct70) ["told", "due"] [] := A70.fn.binds (ps := ["told", "due"]) fun _ _ _ _ _ _ us hl => match us, hl with | [_, _], _ => rfl
  have b71 : Binds K (PySem.W.fnOf "_law_table_of" "_law_table_of" (defArgs sTo) (defBody sTo) (defScope sTo) .none kV71 dc71 pm71 an71 cd71 ct71) ["columns", "bounds"] [] := A71.fn.binds (ps := ["columns", "bounds"]) fun _ _ _ _ _ _ us hl => match us, hl with | [_, _], _ => rfl
  have b72 : Binds K (PySem.W.fnOf "_law_tight" "_law_tight" (defArgs sTi) (defBody sTi) (defScope sTi) .none kV72 dc72 pm72 an72 cd72 ct72) ["columns", "bounds"] [] := A72.fn.binds (ps := ["columns", "bounds"]) fun _ _ _ _ _ _ us hl => match us, hl with | [_, _], _ => rfl
  have b73 : Binds K (PySem.W.fnOf "_law_value" "_law_value" (defArgs sVl) (defBody sVl) (defScope sVl) .none kV73 dc73 pm73 an73 cd73 ct73) ["columns", "values", "one"] [] := A73.fn.binds (ps := ["columns", "values", "one"]) fun _ _ _ _ _ _ us hl => match us, hl with | [_, _, _], _ => rfl
  have b74 : Binds K (PySem.W.fnOf "_law_is_in" "_law_is_in" (defArgs sIs) (defBody sIs) (defScope sIs) .none kV74 dc74 pm74 an74 cd74 ct74) ["columns", "bounds", "values"] [] := A74.fn.binds (ps := ["columns", "bounds", "values"]) fun _ _ _ _ _ _ us hl => match us, hl with | [_, _, _], _ => rfl
  have b75 : Binds K (PySem.W.fnOf "_law_least_zone" "_law_least_zone" (defArgs sLz) (defBody sLz) (defScope sLz) .none kV75 dc75 pm75 an75 cd75 ct75) ["columns", "rows"] [] := A75.fn.binds (ps := ["columns", "rows"]) fun _ _ _ _ _ _ us hl => match us, hl with | [_, _], _ => rfl
  have b76 : Binds K (PySem.W.fnOf "_law_bounds" "_law_bounds" (defArgs sLb) (defBody sLb) (defScope sLb) .none kV76 dc76 pm76 an76 cd76 ct76) ["deck", "columns", "many", "far"] [] := A76.fn.binds (ps := ["deck", "columns", "many", "far"]) fun _ _ _ _ _ _ us hl => match us, hl with | [_, _, _, _], _ => rfl
  have b77 : Binds K (PySem.W.fnOf "_law_joined" "_law_joined" (defArgs sLj) (defBody sLj) (defScope sLj) .none kV77 dc77 pm77 an77 cd77 ct77) ["columns", "zone", "other"] [] := A77.fn.binds (ps := ["columns", "zone", "other"]) fun _ _ _ _ _ _ us hl => match us, hl with | [_, _, _], _ => rfl
  have b78 : Binds K (PySem.W.fnOf "_law_is_part" "_law_is_part" (defArgs sLp) (defBody sLp) (defScope sLp) .none kV78 dc78 pm78 an78 cd78 ct78) ["zone", "other"] [] := A78.fn.binds (ps := ["zone", "other"]) fun _ _ _ _ _ _ us hl => match us, hl with | [_, _], _ => rfl
  have b79 : Binds K (PySem.W.fnOf "_law_is_row_in" "_law_is_row_in" (defArgs sLi) (defBody sLi) (defScope sLi) .none kV79 dc79 pm79 an79 cd79 ct79) ["columns", "zone", "row"] [] := A79.fn.binds (ps := ["columns", "zone", "row"]) fun _ _ _ _ _ _ us hl => match us, hl with | [_, _, _], _ => rfl
  have b80 : Binds K (PySem.W.fnOf "_law_two_zones" "_law_two_zones" (defArgs sTz) (defBody sTz) (defScope sTz) .none kV80 dc80 pm80 an80 cd80 ct80) ["deck", "columns"] [] := A80.fn.binds (ps := ["deck", "columns"]) fun _ _ _ _ _ _ us hl => match us, hl with | [_, _], _ => rfl
  have b81 : Binds K (PySem.W.fnOf "_law_are_two_right" "_law_are_two_right" (defArgs s2r) (defBody s2r) (defScope s2r) .none kV81 dc81 pm81 an81 cd81 ct81) ["deck", "columns", "one", "other"] [] := A81.fn.binds (ps := ["deck", "columns", "one", "other"]) fun _ _ _ _ _ _ us hl => match us, hl with | [_, _, _, _], _ => rfl
  have b82 : Binds K (PySem.W.fnOf "_law_are_rows_right" "_law_are_rows_right" (defArgs sRr) (defBody sRr) (defScope sRr) .none kV82 dc82 pm82 an82 cd82 ct82) ["deck", "columns"] [] := A82.fn.binds (ps := ["deck", "columns"]) fun _ _ _ _ _ _ us hl => match us, hl with | [_, _], _ => rfl
  have F101 := fun_mk (st := sNt) l101 c101 k101
  have b101 : Binds K (PySem.W.fnOf "__init__" "NoTable.__init__" (defArgs sNt) (defBody sNt) (defScope sNt) .none kV101 dc101 pm101 an101 cd101 ct101) ["self", "name"] [] := F101.binds (ps := ["self", "name"]) fun _ _ _ _ _ _ us hl => match us, hl with | [_, _], _ => rfl
  have F111 := fun_mk (st := sSi) l111 c111 k111
  have F112 := fun_mk (st := sSt) l112 c112 k112
  have b112 : Binds K (PySem.W.fnOf "tables" "Schema.tables" (defArgs sSt) (defBody sSt) (defScope sSt) .none kV112 dc112 pm112 an112 cd112 ct112) ["self"] [] := F112.binds (ps := ["self"]) fun _ _ _ _ _ _ us hl => match us, hl with | [_], _ => rfl
  have F113 := fun_mk (st := sSg) l113 c113 k113
  have b113 : Binds K (PySem.W.fnOf "__getitem__" "Schema.__getitem__" (defArgs sSg) (defBody sSg) (defScope sSg) .none kV113 dc113 pm113 an113 cd113 ct113) ["self", "name"] [] := F113.binds (ps := ["self", "name"]) fun _ _ _ _ _ _ us hl => match us, hl with | [_, _], _ => rfl
  have F114 := fun_mk (st := sSc) l114 c114 k114
  have b114 : Binds K (PySem.W.fnOf "__contains__" "Schema.__contains__" (defArgs sSc) (defBody sSc) (defScope sSc) .none kV114 dc114 pm114 an114 cd114 ct114) ["self", "name"] [] := F114.binds (ps := ["self", "name"]) fun _ _ _ _ _ _ us hl => match us, hl with | [_, _], _ => rfl
  have D121 : FunD K "__init__" "Database.__init__" (defArgs sDi) (defBody sDi) (defScope sDi) [.ref aT] [] f121 (PySem.W.fnOf "__init__" "Database.__init__" (defArgs sDi) (defBody sDi) (defScope sDi) (.ref T121) kV121 dc121 pm121 an121 cd121 ct121) := ⟨⟨_, _, _, _, _, _, _, _, _, _, rfl, l121, c121, .inr ⟨by simp, T121, _, [.ref aT], _, rfl, lt121, rfl, .cons rfl .nil⟩, .inl rfl⟩, k121⟩
  obtain ⟨ds121, hv121, b121a⟩ := D121.binds1 (ps := ["self", "schema", "data"]) 3 1 (by simp) rfl fun T kV doc pm an cdv ct us its h1 h2 => match us, its, h1, h2 with | [_, _, _], [_], _, _ => ⟨_, rfl, rfl⟩
  have hv121 : Vals [] ds121 := hv121
  obtain rfl : ds121 = [] := by cases hv121; rfl
  have b121 := b121a
  have F122 := fun_mk (st := sDs1) l122 c122 k122
  have b122 : Binds K (PySem.W.fnOf "schema" "Database.schema" (defArgs sDs1) (defBody sDs1) (defScope sDs1) .none kV122 dc122 pm122 an122 cd122 ct122) ["self"] [] := F122.binds (ps := ["self"]) fun _ _ _ _ _ _ us hl => match us, hl with | [_], _ => rfl
  have F123 := fun_mk (st := sDp) l123 c123 k123
  have b123 : Binds K (PySem.W.fnOf "part_of" "Database.part_of" (defArgs sDp) (defBody sDp) (defScope sDp) .none kV123 dc123 pm123 an123 cd123 ct123) ["self", "name"] [] := F123.binds (ps := ["self", "name"]) fun _ _ _ _ _ _ us hl => match us, hl with | [_, _], _ => rfl
  have F124 := fun_mk (st := sDg) l124 c124 k124
  have b124 : Binds K (PySem.W.fnOf "__getitem__" "Database.__getitem__" (defArgs sDg) (defBody sDg) (defScope sDg) .none kV124 dc124 pm124 an124 cd124 ct124) ["self", "name"] [] := F124.binds (ps := ["self", "name"]) fun _ _ _ _ _ _ us hl => match us, hl with | [_, _], _ => rfl
  have T : SchC K mg CS f111 f112 f113 f114 p112 := ⟨⟨pgCS, hdCS, poCS, saCS⟩, ⟨mkCS, at111, i111, kcCS⟩, nTk, PySem.W.mg_of X G aCCS, ⟨at112, gt112, tk112, ⟨_, rc112⟩⟩, at113, n113, i113, at114, i114⟩
  have TD : DbC K mg CD f121 f122 f123 f124 p122 := ⟨⟨pgCD, hdCD, poCD, saCD⟩, ⟨mkCD, at121, i121, kcCD⟩, nSk, nPk, PySem.W.mg_of X G aCCD, ⟨at122, gt122, tk122, ⟨_, rc122⟩⟩, ⟨at123, i123, k123⟩, at124, n124, i124⟩
  have TN : NtC K mg Nt f101 WE := ⟨⟨⟨_, _, _, _, _, _, _, _, _, _, _, _, _, _, _, xNt, vNt⟩, saNt, exNt, tyNt, kNt⟩, at101, tiNt, PySem.W.mg_of X G aCNt, noNt, PySem.W.mg_of X G aCWE, ⟨rdWE, gaWE⟩, wIWE⟩
  refine ⟨PySem.W.fnOf "law" "law" (defArgs sLw) (defBody sLw) (defScope sLw) .none kV83 dc83 pm83 an83 cd83 ct83, fun s v => .of_eq rfl, fun base _ _ => ?_⟩
  have cInt := A14.cal (P := P) (w := w) (base := base) X G b14 (ok_int A14.fn B)
  have cDraw := A67.cal (P := P) (w := w) (base := base) X G b67 (ok_draw A67.fn B)
  have cPick := A68.cal (P := P) (w := w) (base := base) X G b68 (ok_pick A68.fn B cDraw)
  have cDeck := A66.cal (P := P) (w := w) (base := base) X G b66 (ok_deck A66.fn B)
  have cCt := A24.cal (P := P) (w := w) (base := base) X G b24 (ok_ct A24.fn B N)
  have cCl := A25.cal (P := P) (w := w) (base := base) X G b25 (ok_cl A25.fn B cCt)
  have cVi := A26.cal (P := P) (w := w) (base := base) X G b26 (ok_vi A26.fn N)
  have cZn := A27.cal (P := P) (w := w) (base := base) X G b27 (ok_zn A27.fn B cVi)
  have cNm := A69.cal (P := P) (w := w) (base := base) X G b69 (ok_nm A69.fn B cDraw cPick)
  have cTo := A71.cal (P := P) (w := w) (base := base) X G b71 (ok_to A71.fn B)
  have cTi := A72.cal (P := P) (w := w) (base := base) X G b72 (ok_ti A72.fn B cTo)
  have cVl := A73.cal (P := P) (w := w) (base := base) X G b73 (ok_vl A73.fn)
  have cIs := A74.cal (P := P) (w := w) (base := base) X G b74 (ok_is A74.fn cVl)
  have cLb := A76.cal (P := P) (w := w) (base := base) X G b76 (ok_lb A76.fn B cDraw cPick)
  have cSm := fun n => cal_sm (P := P) (w := w) (base := base) A70.fn B (A70.gl X G) b70 n
  have oJn := ok_jn (P := P) (w := w) (base := base) A29.fn B
  have cJn := A29.cal (P := P) (w := w) (base := base) X G b29 (oJn)
  have oPt := ok_pt (P := P) (w := w) (base := base) A33.fn B
  have cPt := A33.cal (P := P) (w := w) (base := base) X G b33 (oPt)
  have oCm := ok_cm (P := P) (w := w) (base := base) A31.fn cCl
  have cCm := A31.cal (P := P) (w := w) (base := base) X G b31 (oCm)
  have oMt := ok_mt (P := P) (w := w) (base := base) A32.fn B cCl
  have cMt := A32.cal (P := P) (w := w) (base := base) X G b32 (oMt)
  have oRw := ok_rw (P := P) (w := w) (base := base) A34.fn B N cCl cCt
  have cRw := A34.cal (P := P) (w := w) (base := base) X G b34 (oRw)
  have oZo := ok_zo (P := P) (w := w) (base := base) A28.fn B N cVi
  have cZo := A28.cal (P := P) (w := w) (base := base) X G b28 (oZo)
  have kJn : CalK P w K mg base "joined" ["zone", "other"] ["other", "zone"] kw2 1 spJn := ⟨⟨f29, _, kw2, oJn, A29.gl X G, k29, kb2 fun _ _ => rfl⟩⟩
  have kPt : CalK P w K mg base "is_part" ["zone", "other"] ["zone", "other"] kwI 1 spPt := ⟨⟨f33, _, kwI, oPt, A33.gl X G, k33, kbI fun _ _ => rfl⟩⟩
  have kCm : CalK P w K mg base "common" ["columns", "zone", "other"] ["zone", "columns", "other"] kwC 3 (spCm K) := ⟨⟨f31, _, kwC, oCm, A31.gl X G, k31, kbC fun _ _ _ => rfl⟩⟩
  have kMt : CalK P w K mg base "meeting" ["columns", "zone", "bounds"] ["bounds", "zone", "columns"] kwV 3 (spMt K) := ⟨⟨f32, _, kwV, oMt, A32.gl X G, k32, kbV fun _ _ _ => rfl⟩⟩
  have kRw : CalK P w K mg base "row_in" ["columns", "zone"] ["zone", "columns"] kw2 3 (spRw K) := ⟨⟨f34, _, kw2, oRw, A34.gl X G, k34, kb2 fun _ _ => rfl⟩⟩
  have kZo : CalK P w K mg base "zone_of" ["columns", "rows"] ["rows", "columns"] kw2 2 (spZo K) := ⟨⟨f28, _, kw2, oZo, A28.gl X G, k28, kb2 fun _ _ => rfl⟩⟩
  have cLj := A77.cal (P := P) (w := w) (base := base) X G b77 (ok_lj A77.fn B)
  have cLp := A78.cal (P := P) (w := w) (base := base) X G b78 (ok_lp A78.fn B)
  have cLi := A79.cal (P := P) (w := w) (base := base) X G b79 (ok_li A79.fn B cIs)
  have cLz := A75.cal (P := P) (w := w) (base := base) X G b75 (ok_lz A75.fn B cVl)
  have cTz := A80.cal (P := P) (w := w) (base := base) X G b80 (ok_tz A80.fn B cDraw cPick cLb)
  have cTr := A81.cal (P := P) (w := w) (base := base) X G b81 (ok_2r A81.fn B ⟨cDraw, cTi, cLj, cSm, cJn, kJn, cPt, kPt, cLp, cCm, kCm, cMt, kMt, cRw, kRw, cLi, cIs, cZn⟩)
  have cCn := A15.cal (P := P) (w := w) (base := base) X G b15 (ok_cn A15.fn cInt)
  have cIn := A16.cal (P := P) (w := w) (base := base) X G b16 (ok_in A16.fn B Nf)
  have cNs := A17.cal (P := P) (w := w) (base := base) X G b17 (ok_ns A17.fn B cIn)
  have cDs := A18.cal (P := P) (w := w) (base := base) X G b18 (ok_ds A18.fn B hset)
  have cAs := A19.cal (P := P) (w := w) (base := base) X G b19 (ok_as A19.fn B)
  have cAc := A56.cal (P := P) (w := w) (base := base) X G b56 (ok_ac A56.fn B Ns cNs cDs)
  have cSo := A57.cal (P := P) (w := w) (base := base) X G b57 (ok_so A57.fn B cNs cAs)
  have cTa := A58.cal (P := P) (w := w) (base := base) X G b58 (ok_ta A58.fn B Ns cIn cAc cSo)
  have cIr := A39.cal (P := P) (w := w) (base := base) X G b39 (ok_ir A39.fn B Nd cInt cCn)
  have cAr := A40.cal (P := P) (w := w) (base := base) X G b40 (ok_ar A40.fn B cCn cIr cAs)
  have cFd := A43.cal (P := P) (w := w) (base := base) X G b43 (ok_fd A43.fn B)
  have oNt := ok_nt (P := P) (w := w) (base := base) F101 TN
  have oSi := ok_si (P := P) (w := w) (base := base) B T cTa l111 c111 (StX.bind_star1 (B := fun us => bindArgs (PySem.W.fnOf "__init__" "Schema.__init__" (defArgs sSi) (defBody sSi) (defScope sSi) .none kV111 dc111 pm111 an111 cd111 ct111) ⟨us, []⟩) (fun _ => rfl) (fun _ _ _ => rfl))
  have oSt := fn_getter (CX := CX0) (P := P) (w := w) (mg := mg) (base := base) (k := 0) (N := ["self"]) l112 c112 scSt rfl rfl T.cl T.nK
  have oSc := ok_sc (P := P) (w := w) (base := base) F114 T
  have oSg := ok_sg (P := P) (w := w) (base := base) F113 T TN oNt b101
  have cAt := A41.cal (P := P) (w := w) (base := base) X G b41 (ok_at A41.fn B Nd T oSc b114 cIn cAs)
  have cRd := A42.cal (P := P) (w := w) (base := base) X G b42 (ok_rd A42.fn B T oSg b113 cAt cAr)
  have oDi := ok_di (P := P) (w := w) (base := base) B T TD oSg b113 oSt b112 cRd cFd l121 c121
  have oDs := fn_getter (CX := CX0) (P := P) (w := w) (mg := mg) (base := base) (k := 0) (N := ["self"]) l122 c122 scDs1 rfl rfl TD.cl TD.nS
  have oDp := ok_dp (CS := CS) (P := P) (w := w) (base := base) F123 TD
  have oDg := ok_dg (CS := CS) (P := P) (w := w) (base := base) F124 TD oDp b123
  have oZt := ok_zt (P := P) (w := w) (base := base) A30.fn B T TD oSg b113 oDs b122 oDg b124 cZo
  have cZt : CalX P w K mg base "zone_of_table" ["database", "table"] 5 (spZt K CS CD Nt) := ⟨⟨f30, _, oZt, A30.gl X G, k30, b30⟩⟩
  have kZt : CalXK P w K mg base "zone_of_table" ["database", "table"] ["table", "database"] kw2 5 (spZt K CS CD Nt) := ⟨⟨f30, _, kw2, oZt, A30.gl X G, k30, kb2 fun _ _ => rfl⟩⟩
  have C : DR P w K mg base CS CD Nt WE f111 f112 f113 f114 p112 f101 f121 f122 f123 f124 p122 := ⟨cDraw, cPick, cNm, cLz, cSm, cZo, kZo, cZn, cZt, kZt, T, TD, TN, oSi, ⟨_, oDi, b121⟩, ⟨gaNt, ggNt, exNt, hdNt⟩, ⟨gaNt, ggNt, exNt, hdNt, caNt, cgNt, ctNt, cmNt⟩, emNt, kiNt⟩
  have cRr : CalG P w K mg base "_law_are_rows_right" ["deck", "columns"] 8 spRr := ⟨⟨f82, _, fn_rr A82.fn B C, fun vs H Q E h => by obtain ⟨d, c, a, n, cs, rfl, _⟩ := h; rfl, A82.gl X G, k82, b82⟩⟩
  exact fnG_of A83.fn scLw (fun vs H Q E h => by obtain ⟨a, ns, rfl, _⟩ := h; rfl) fun cdv A outer s H vs Q E hg hr h => law_body B ⟨cDeck, cDraw, cNm, cTz, cTr, cRr⟩ hg hr h
end K92

open PySem PySem.W PyProof.Rows in
set_option maxRecDepth 100000 in
set_option maxHeartbeats 0 in
theorem PySem.Challenge.cw_wakefree_k92_least_joined_and_common_zon_holds : PySem.Challenge.rw_wakefree_k92_least_joined_and_common_zon.Holds := by
  w_on; o_law; k_head; (case hw => w_witness2)
  k_fill
  refine K92.walkG (l := PySem.Challenge.rw_wakefree_k92_least_joined_and_common_zon) (n := 63) (k := 9) (x := "script") (sp := fun K => K92.spLw K) rfl (by decide) rfl ⟨rfl, by decide, by decide⟩ (fun w h Y => PySem.W.kIn_of Y) ?F fun K H a ns hl hS => ⟨a, ns, rfl, hS, hl, fun _ => rfl⟩
  case F =>
    intro w mg fa h KX G hmg
    refine' K92.all_mk KX G hmg ?a14 ?l14 ?c14 ?k14 ?a15 ?l15 ?c15 ?k15 ?a16 ?l16 ?c16 ?k16 ?a17 ?l17 ?c17 ?k17 ?a18 ?l18 ?c18 ?k18 ?a19 ?l19 ?c19 ?k19 ?a24 ?l24 ?c24 ?k24 ?a25 ?l25 ?c25 ?k25 ?a26 ?l26 ?c26 ?k26 ?a27 ?l27 ?c27 ?k27 ?a28 ?l28 ?c28 ?k28 ?a29 ?l29 ?c29 ?k29 ?a30 ?l30 ?c30 ?k30 ?a31 ?l31 ?c31 ?k31 ?a32 ?l32 ?c32 ?k32 ?a33 ?l33 ?c33 ?k33 ?a34 ?l34 ?c34 ?k34 ?a39 ?l39 ?c39 ?k39 ?a40 ?l40 ?c40 ?k40 ?a41 ?l41 ?c41 ?k41 ?a42 ?l42 ?c42 ?k42 ?a43 ?l43 ?c43 ?k43 ?a56 ?l56 ?c56 ?k56 ?a57 ?l57 ?c57 ?k57 ?a58 ?l58 ?c58 ?k58 ?a66 ?l66 ?c66 ?k66 ?a67 ?l67 ?c67 ?k67 ?a68 ?l68 ?c68 ?k68 ?a69 ?l69 ?c69 ?k69 ?a70 ?l70 ?c70 ?k70 ?a71 ?l71 ?c71 ?k71 ?a72 ?l72 ?c72 ?k72 ?a73 ?l73 ?c73 ?k73 ?a74 ?l74 ?c74 ?k74 ?a75 ?l75 ?c75 ?k75 ?a76 ?l76 ?c76 ?k76 ?a77 ?l77 ?c77 ?k77 ?a78 ?l78 ?c78 ?k78 ?a79 ?l79 ?c79 ?k79 ?a80 ?l80 ?c80 ?k80 ?a81 ?l81 ?c81 ?k81 ?a82 ?l82 ?c82 ?k82 ?a83 ?l83 ?c83 ?k83 ?gtN ?gtL ?gtM ?gtT ?gtC ?gtR ?gtD ?z_isinstance ?z_int ?z_bool ?z_tuple ?z_list ?z_dict ?z_str ?z_len ?z_all ?z_min ?z_max ?z_abs ?z_sorted ?z_zip ?z_range ?z_repr ?z_enumerate ?z_set ?aCWE ?aCNt ?aCCS ?aCCD ?at101 ?l101 ?c101 ?k101 ?at111 ?l111 ?c111 ?k111 ?i111 ?at112 ?gt112 ?tk112 ?rc112 ?l112 ?c112 ?k112 ?at113 ?l113 ?c113 ?k113 ?i113 ?n113 ?at114 ?l114 ?c114 ?k114 ?i114 ?at121 ?l121 ?c121 ?k121 ?lt121 ?i121 ?at122 ?gt122 ?tk122 ?rc122 ?l122 ?c122 ?k122 ?at123 ?l123 ?c123 ?k123 ?i123 ?at124 ?l124 ?c124 ?k124 ?i124 ?n124 ?pgCS ?hdCS ?poCS ?saCS ?mkCS ?kcCS ?pgCD ?hdCD ?poCD ?saCD ?mkCD ?kcCD ?nTk ?nSk ?nPk ?xNt ?vNt ?saNt ?exNt ?tyNt ?kNt ?tiNt ?noNt ?rdWE ?gaWE ?wIWE ?gaNt ?ggNt ?hdNt ?caNt ?cgNt ?ctNt ?cmNt ?emNt ?kiNt
    (case a14 => k_is)
    (case l14 => k_is)
    (case c14 => k_is)
    (case k14 => k_is)
    (case a15 => k_is)
    (case l15 => k_is)
    (case c15 => k_is)
    (case k15 => k_is)
    (case a16 => k_is)
    (case l16 => k_is)
    (case c16 => k_is)
    (case k16 => k_is)
    (case a17 => k_is)
    (case l17 => k_is)
    (case c17 => k_is)
    (case k17 => k_is)
    (case a18 => k_is)
    (case l18 => k_is)
    (case c18 => k_is)
    (case k18 => k_is)
    (case a19 => k_is)
    (case l19 => k_is)
    (case c19 => k_is)
    (case k19 => k_is)
    (case a24 => k_is)
    (case l24 => k_is)
    (case c24 => k_is)
    (case k24 => k_is)
    (case a25 => k_is)
    (case l25 => k_is)
    (case c25 => k_is)
    (case k25 => k_is)
    (case a26 => k_is)
    (case l26 => k_is)
    (case c26 => k_is)
    (case k26 => k_is)
    (case a27 => k_is)
    (case l27 => k_is)
    (case c27 => k_is)
    (case k27 => k_is)
    (case a28 => k_is)
    (case l28 => k_is)
    (case c28 => k_is)
    (case k28 => k_is)
    (case a29 => k_is)
    (case l29 => k_is)
    (case c29 => k_is)
    (case k29 => k_is)
    (case a30 => k_is)
    (case l30 => k_is)
    (case c30 => k_is)
    (case k30 => k_is)
    (case a31 => k_is)
    (case l31 => k_is)
    (case c31 => k_is)
    (case k31 => k_is)
    (case a32 => k_is)
    (case l32 => k_is)
    (case c32 => k_is)
    (case k32 => k_is)
    (case a33 => k_is)
    (case l33 => k_is)
    (case c33 => k_is)
    (case k33 => k_is)
    (case a34 => k_is)
    (case l34 => k_is)
    (case c34 => k_is)
    (case k34 => k_is)
    (case a39 => k_is)
    (case l39 => k_is)
    (case c39 => k_is)
    (case k39 => k_is)
    (case a40 => k_is)
    (case l40 => k_is)
    (case c40 => k_is)
    (case k40 => k_is)
    (case a41 => k_is)
    (case l41 => k_is)
    (case c41 => k_is)
    (case k41 => k_is)
    (case a42 => k_is)
    (case l42 => k_is)
    (case c42 => k_is)
    (case k42 => k_is)
    (case a43 => k_is)
    (case l43 => k_is)
    (case c43 => k_is)
    (case k43 => k_is)
    (case a56 => k_is)
    (case l56 => k_is)
    (case c56 => k_is)
    (case k56 => k_is)
    (case a57 => k_is)
    (case l57 => k_is)
    (case c57 => k_is)
    (case k57 => k_is)
    (case a58 => k_is)
    (case l58 => k_is)
    (case c58 => k_is)
    (case k58 => k_is)
    (case a66 => k_is)
    (case l66 => k_is)
    (case c66 => k_is)
    (case k66 => k_is)
    (case a67 => k_is)
    (case l67 => k_is)
    (case c67 => k_is)
    (case k67 => k_is)
    (case a68 => k_is)
    (case l68 => k_is)
    (case c68 => k_is)
    (case k68 => k_is)
    (case a69 => k_is)
    (case l69 => k_is)
    (case c69 => k_is)
    (case k69 => k_is)
    (case a70 => k_is)
    (case l70 => k_is)
    (case c70 => k_is)
    (case k70 => k_is)
    (case a71 => k_is)
    (case l71 => k_is)
    (case c71 => k_is)
    (case k71 => k_is)
    (case a72 => k_is)
    (case l72 => k_is)
    (case c72 => k_is)
    (case k72 => k_is)
    (case a73 => k_is)
    (case l73 => k_is)
    (case c73 => k_is)
    (case k73 => k_is)
    (case a74 => k_is)
    (case l74 => k_is)
    (case c74 => k_is)
    (case k74 => k_is)
    (case a75 => k_is)
    (case l75 => k_is)
    (case c75 => k_is)
    (case k75 => k_is)
    (case a76 => k_is)
    (case l76 => k_is)
    (case c76 => k_is)
    (case k76 => k_is)
    (case a77 => k_is)
    (case l77 => k_is)
    (case c77 => k_is)
    (case k77 => k_is)
    (case a78 => k_is)
    (case l78 => k_is)
    (case c78 => k_is)
    (case k78 => k_is)
    (case a79 => k_is)
    (case l79 => k_is)
    (case c79 => k_is)
    (case k79 => k_is)
    (case a80 => k_is)
    (case l80 => k_is)
    (case c80 => k_is)
    (case k80 => k_is)
    (case a81 => k_is)
    (case l81 => k_is)
    (case c81 => k_is)
    (case k81 => k_is)
    (case a82 => k_is)
    (case l82 => k_is)
    (case c82 => k_is)
    (case k82 => k_is)
    (case a83 => k_is)
    (case l83 => k_is)
    (case c83 => k_is)
    (case k83 => k_is)
    (case gtN => k_is)
    (case gtL => k_is)
    (case gtM => k_is)
    (case gtT => k_is)
    (case gtC => k_is)
    (case gtR => k_is)
    (case gtD => k_is)
    (case z_isinstance => k_is)
    (case z_int => k_is)
    (case z_bool => k_is)
    (case z_tuple => k_is)
    (case z_list => k_is)
    (case z_dict => k_is)
    (case z_str => k_is)
    (case z_len => k_is)
    (case z_all => k_is)
    (case z_min => k_is)
    (case z_max => k_is)
    (case z_abs => k_is)
    (case z_sorted => k_is)
    (case z_zip => k_is)
    (case z_range => k_is)
    (case z_repr => k_is)
    (case z_enumerate => k_is)
    (case z_set => k_is)
    (case aCWE => k_is)
    (case aCNt => k_is)
    (case aCCS => k_is)
    (case aCCD => k_is)
    (case at101 => k_is)
    (case l101 => k_is)
    (case c101 => k_is)
    (case k101 => k_is)
    (case at111 => k_is)
    (case l111 => k_is)
    (case c111 => k_is)
    (case k111 => k_is)
    (case i111 => k_is)
    (case at112 => k_is)
    (case gt112 => k_is)
    (case tk112 => k_is)
    (case rc112 => k_is)
    (case l112 => k_is)
    (case c112 => k_is)
    (case k112 => k_is)
    (case at113 => k_is)
    (case l113 => k_is)
    (case c113 => k_is)
    (case k113 => k_is)
    (case i113 => k_is)
    (case n113 => k_is)
    (case at114 => k_is)
    (case l114 => k_is)
    (case c114 => k_is)
    (case k114 => k_is)
    (case i114 => k_is)
    (case at121 => k_is)
    (case l121 => k_is)
    (case c121 => k_is)
    (case k121 => k_is)
    (case lt121 => k_is)
    (case i121 => k_is)
    (case at122 => k_is)
    (case gt122 => k_is)
    (case tk122 => k_is)
    (case rc122 => k_is)
    (case l122 => k_is)
    (case c122 => k_is)
    (case k122 => k_is)
    (case at123 => k_is)
    (case l123 => k_is)
    (case c123 => k_is)
    (case k123 => k_is)
    (case i123 => k_is)
    (case at124 => k_is)
    (case l124 => k_is)
    (case c124 => k_is)
    (case k124 => k_is)
    (case i124 => k_is)
    (case n124 => k_is)
    (case pgCS => k_is)
    (case hdCS => k_is)
    (case poCS => k_is)
    (case saCS => k_is)
    (case mkCS => k_is)
    (case kcCS => k_is)
    (case pgCD => k_is)
    (case hdCD => k_is)
    (case poCD => k_is)
    (case saCD => k_is)
    (case mkCD => k_is)
    (case kcCD => k_is)
    (case nTk => k_is)
    (case nSk => k_is)
    (case nPk => k_is)
    (case xNt => k_is)
    (case vNt => first | k_is | rfl)
    (case saNt => k_is)
    (case exNt => k_is)
    (case tyNt => k_is)
    (case kNt => k_is)
    (case tiNt => k_is)
    (case noNt => k_is)
    (case rdWE => k_is)
    (case gaWE => k_is)
    (case wIWE => k_is)
    (case gaNt => k_is)
    (case ggNt => k_is)
    (case hdNt => k_is)
    (case caNt => k_is)
    (case cgNt => k_is)
    (case ctNt => k_is)
    (case cmNt => k_is)
    (case emNt => first | k_is | rfl)
    (case kiNt => first | k_is | rfl)
#print axioms PySem.Challenge.cw_wakefree_k92_least_joined_and_common_zon_holds
