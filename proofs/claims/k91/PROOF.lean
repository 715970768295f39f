import PyProof.Rows.All
import Wide.All
import OpenK.AllK
import Wide.FinOn
import HandS.ForMost
import HandS.IsInst
import HandS.TupAny
import HandS.Style
import HandS.Star
import HandS.Walk
import HandS.NoneIn
import HandS.Conv
import HandS.Zip
import HandS.DictTup
import HandS.SortOrd
import HandS.SortRule
import HandS.TupLe
import PySem.Challenge.RW_wakefree_k91_bounds_and_closed_zones
import HandS.Evl
import KE.KDictZip
import HandS.Strs
import KE.KDictKeyed
import KE.KDictWalk
import KE.SortData
import HandS.Text
import PyProof.ReprRoads
import PyProof.ReprLen
import PyProof.Rows.ReprShort
set_option Elab.async false
set_option linter.all false
set_option maxRecDepth 100000
set_option maxHeartbeats 4000000
namespace K91
open PySem PySem.Spec PyProof.Rows L2

def topS (i : Nat) : Stmt := PySem.Challenge.pw_wakefree_k91_bounds_and_closed_zones.main.body.getD i (.Pass ⟨0, 0, 0, 0⟩)

/-! ### an own def as it is called -/
structure Cal (P : Program) (w : World) (K : PySem.W.Frag) (mg : Str → Option Value) (base : Heap) (nm : Str) (ps : List Str) (k : Nat) (sp : Sp) : Prop where
  ex : ∃ (f : Addr) (fd : FuncData), FnOk P w K mg base CX0 k f fd ps sp ∧ mg nm = some (.ref f) ∧ PySem.W.keepIn K (.ref f) = true ∧ Binds K fd ps []
theorem Cal.mono {P : Program} {w : World} {K : PySem.W.Frag} {mg : Str → Option Value} {base : Heap} {nm : Str} {ps : List Str} {j k : Nat} {sp : Sp} (C : Cal P w K mg base nm ps j sp) (h : j ≤ k) : Cal P w K mg base nm ps k sp := by
  obtain ⟨f, fd, a, b, c, d⟩ := C.ex
  exact ⟨f, fd, a.mono h, b, c, d⟩
theorem pe_own {X : Cx} {k : Nat} {nm : Str} {ps : List Str} {sp : Sp} {p pos : Pos} {e : Expr} {es : List Expr} {t : TA} (C : Cal X.prog X.w X.K X.mg X.base nm ps k sp) (hr : Room k X.A) (ha : PA X (e :: es) t) (hg : Gl X nm := by rfl)
    (hdb : (nm == ("__debug__" : Str)) = false := by decide) (he : starEach (e :: es) X.env = (false, eval e X.env) :: starEach es X.env := by rfl) (hpl : (backTo pos (starEach es X.env)).any (·.1) = false := by rfl) :
    PE X (.Call (.Name nm p) (e :: es) [] pos) (tCall sp [] E0 t) := by
  obtain ⟨f, fd, a, b, c, d⟩ := C.ex
  exact pe_call a hr hg b c d .nil pass0 ha hdb he hpl

/-! ### the built-in names -/
structure Bn (mg : Str → Option Value) : Prop where
  isinstance : mg "isinstance" = none
  int : mg "int" = none
  bool : mg "bool" = none
  tuple : mg "tuple" = none
  list : mg "list" = none
  dict : mg "dict" = none
  str : mg "str" = none
  len : mg "len" = none
  all : mg "all" = none
  min : mg "min" = none
  max : mg "max" = none
  abs : mg "abs" = none
  sorted : mg "sorted" = none
  zip : mg "zip" = none
  range : mg "range" = none
  repr : mg "repr" = none
  enumerate : mg "enumerate" = none

/-! ### heaps: what stays -/
/-- all that was tracked is as it was, but for what stands at D -/
def Sm (D : List Addr) (H H' : Hp) : Prop := ∀ b o, H b = some o → b ∉ D → H' b = some o
theorem Sm.refl {D : List Addr} {H : Hp} : Sm D H H := fun _ _ h _ => h
theorem Sm.trans {D : List Addr} {H H1 H2 : Hp} (a : Sm D H H1) (b : Sm D H1 H2) : Sm D H H2 := fun c o h n => b c o (a c o h n) n
theorem Sm.new {D : List Addr} {H H1 : Hp} {p : Addr} {o : HO} (a : Sm D H H1) (hp : H1 p = none) : Sm D H (upd H1 p o) := fun b u h n => by
  have q := a b u h n
  rw [upd_ne (ne_of_none q hp)]
  exact q
theorem Sm.put {D : List Addr} {H H1 : Hp} {p : Addr} {o : HO} (a : Sm D H H1) (hp : p ∈ D) : Sm D H (upd H1 p o) := fun b u h n => by
  have q := a b u h n
  rw [upd_ne (fun e => n (by rw [e]; exact hp))]
  exact q
/-- written: an object that was not there at first -/
theorem Sm.own {D : List Addr} {H H1 : Hp} {p : Addr} {o : HO} (a : Sm D H H1) (hp : H p = none) : Sm D H (upd H1 p o) := fun b u h n => by
  have q := a b u h n
  rw [upd_ne (ne_of_none h hp)]
  exact q
theorem Sm.more {D D' : List Addr} {H H' : Hp} (a : Sm D H H') (h : ∀ b ∈ D, b ∈ D') : Sm D' H H' := fun b o e n => a b o e fun z => n (h b z)
theorem Sm.nil {D : List Addr} {H H' : Hp} (a : Sm [] H H') : Sm D H H' := a.more fun b z => absurd z (by simp)
theorem Sm.at {D : List Addr} {H H' : Hp} {b : Addr} {o : HO} (a : Sm D H H') (h : H b = some o) (n : b ∉ D) : H' b = some o := a b o h n
theorem Sm.keep {H H' : Hp} {b : Addr} {o : HO} (a : Sm [] H H') (h : H b = some o) : H' b = some o := a b o h (by simp)
theorem Sm.free {D : List Addr} {H H' : Hp} {b : Addr} (a : Sm D H H') (h : H' b = none) (n : b ∉ D) : H b = none := by
  cases q : H b with
  | none => rfl
  | some o =>
    rw [a b o q n] at h
    cases h
/-- tuples stay -/
def Kp (H H' : Hp) : Prop := ∀ b xs, H b = some (.tup xs) → H' b = some (.tup xs)
theorem Kp.refl {H : Hp} : Kp H H := fun _ _ h => h
theorem Kp.trans {H H1 H2 : Hp} (a : Kp H H1) (b : Kp H1 H2) : Kp H H2 := fun c o h => b c o (a c o h)
theorem Sm.kp {H H' : Hp} (a : Sm [] H H') : Kp H H' := fun b xs h => a.keep h
theorem Kp.new {H H1 : Hp} {p : Addr} {o : HO} (a : Kp H H1) (hp : H1 p = none) : Kp H (upd H1 p o) := fun b u h => by
  have q := a b u h
  rw [upd_ne (ne_of_none q hp)]
  exact q
/-- no tuple stands at D -/
def NT (D : List Addr) (H : Hp) : Prop := ∀ b ∈ D, ∀ xs, H b ≠ some (.tup xs)
theorem Sm.kpD {D : List Addr} {H H' : Hp} (a : Sm D H H') (h : NT D H) : Kp H H' := fun b xs e => a b _ e fun z => h b z xs e

/-! ### isinstance -/
section
variable {X : Cx}
/-- isinstance(x, C), C a built-in class -/
def rIs (K : PySem.W.Frag) : List V → Hp → VK → Prop := fun xs H Q => ∃ (x : V) (C T : String) (b : Bool), xs = [x, .ty C] ∧ TyX K H x (.type T) ∧ kitB T C = some b ∧ Q (.bl b) H
theorem call_is : CallR X (.builtin "isinstance") (rIs X.K) := by
  intro pins s σ H xs us Q I r h
  obtain ⟨x, C, T, b, rfl, ty, e, q⟩ := h
  exact call_isi pins s σ H _ us Q I r ⟨x, .ty C, .type T, .type C, b, rfl, .ty C, ty, kit_ty e, q⟩
theorem TyX.non {K : PySem.W.Frag} {H : Hp} : TyX K H .non (.type "NoneType") := .base .non
theorem TyX.bl {K : PySem.W.Frag} {H : Hp} (b : Bool) : TyX K H (.bl b) (.type "bool") := .base (.bl b)
theorem TyX.int {K : PySem.W.Frag} {H : Hp} (i : Int) : TyX K H (.int i) (.type "int") := .base (.int i)
theorem TyX.str {K : PySem.W.Frag} {H : Hp} (z : Str) : TyX K H (.str z) (.type "str") := .base (.str z)
theorem TyX.lst {K : PySem.W.Frag} {H : Hp} {a : Addr} {xs : List V} (e : H a = some (.lst xs)) : TyX K H (.ref a) (.type "list") := .base (.lst e)
theorem TyX.tup {K : PySem.W.Frag} {H : Hp} {a : Addr} {xs : List V} (e : H a = some (.tup xs)) : TyX K H (.ref a) (.type "tuple") := .base (.tup e)
theorem TyX.dK {K : PySem.W.Frag} {H : Hp} {a : Addr} {kvs : List (Key × V)} (e : H a = some (.dK kvs)) : TyX K H (.ref a) (.type "dict") := .base (.dK e)
/-- the term: isinstance(x, C) -/
theorem pe_is {C : String} {x : Expr} {tx : TE} {nc : Str} {p1 p2 pos : Pos} (B : Bn X.mg) (hm : X.mg nc = none) (hv : bootBuiltins nc = some (.type C)) (hx : PE X x tx) (hg : Gl X "isinstance" := by rfl) (hgc : Gl X nc := by rfl)
    (he : starEach [x, Expr.Name nc p2] X.env = (false, eval x X.env) :: starEach [Expr.Name nc p2] X.env := by rfl) (hpl : (backTo pos (starEach [Expr.Name nc p2] X.env)).any (·.1) = false := by rfl) (hn : nc ≠ "__name__" := by decide) (hd : (nc == ("__debug__" : Str)) = false := by decide) :
    PE X (.Call (.Name "isinstance" p1) [x, .Name nc p2] [] pos) (tCB (rIs X.K) (tCons tx (tCons (tC (.ty C)) tNil))) :=
  pe_callB call_is hg B.isinstance boot_isinstance (pa_cons hx (pa_cons (pe_bltn (v := .ty C) hgc hm hv rfl hn hd) pa_nil) (hs := he)) (by decide) (by decide) he hpl
end

/-! ### is_integer -/
abbrev sInt : Stmt := topS 1
theorem scInt : FnScope ["thing"] ["thing"] (defScope sInt) := ⟨rfl, rfl, rfl, by decide +kernel, rfl, by decide +kernel, by decide +kernel⟩
section
variable {P : Program} {w : World} {K : PySem.W.Frag} {mg : Str → Option Value} {base : Heap}
/-- the classes that are asked here, by whether they are int, bool -/
def isI (T : String) : Bool := T == "int"
def spInt (K : PySem.W.Frag) : Sp := fun vs H Q _ => ∃ (x : V) (T : String) (b c : Bool), vs = [x] ∧ TyX K H x (.type T) ∧ kitB T "int" = some b ∧ kitB T "bool" = some c ∧ Q (.bl (b && !c)) H
theorem ok_int {f : Addr} {fd : FuncData} (F : Fun K "is_integer" "is_integer" sInt f fd) (B : Bn mg) : FnOk P w K mg base CX0 1 f fd ["thing"] (spInt K) := by
  refine F.ok scInt (fun vs H Q E h => ?_) (fun cdv A outer s H vs Q E hr h => ?_)
  · obtain ⟨x, T, b, c, rfl, _⟩ := h
    rfl
  · obtain ⟨x, T, b, c, rfl, ty, e1, e2, q⟩ := h
    refine ⟨_, pss_one (ps_ret (pe_and (pe_is B B.int boot_int (pv 0)) (pe_one (pe_not (pe_is B B.bool boot_bool (pv 0)))))), ?_⟩
    refine ⟨x, rfl, x, "int", T, b, rfl, ty, e1, b, rfl, ?_⟩
    cases b with
    | true => exact ⟨x, rfl, x, "bool", T, c, rfl, ty, e2, c, rfl, q⟩
    | false => exact q
end
end K91

namespace K91
open PySem PySem.Spec PyProof.Rows L2

/-! ### the deck -/
def dkv (c : Addr) (b n : Int) : List (Key × V) := [(Sum.inr "cells", .ref c), (Sum.inr "blend", .int b), (Sum.inr "drawn", .int n)]
theorem dkv_cells (c : Addr) (b n : Int) : valV (dkv c b n) (Sum.inr "cells") = some (.ref c) := rfl
theorem dkv_blend (c : Addr) (b n : Int) : valV (dkv c b n) (Sum.inr "blend") = some (.int b) := rfl
theorem dkv_drawn (c : Addr) (b n : Int) : valV (dkv c b n) (Sum.inr "drawn") = some (.int n) := rfl
theorem dkv_put (c : Addr) (b n m : Int) : putK (dkv c b n) (Sum.inr "drawn") (.int m) = dkv c b m := rfl
/-- the deck at d, its cells at c, n draws made -/
structure Deck (H : Hp) (d c : Addr) (n : Nat) : Prop where
  ex : ∃ (cs : List Int) (b : Int), H d = some (.dK (dkv c b n)) ∧ H c = some (.lst (cs.map V.int)) ∧ cs.length ≤ 63 ∧ 0 ≤ b ∧ b < 2147483587
theorem Deck.nt {H : Hp} {d c : Addr} {n : Nat} (D : Deck H d c n) : NT [d, c] H := by
  obtain ⟨cs, b, h1, h2, _⟩ := D.ex
  intro a ha xs e
  rcases List.mem_cons.mp ha with rfl | ha
  · rw [h1] at e; cases e
  · rcases List.mem_cons.mp ha with rfl | ha
    · rw [h2] at e; cases e
    · cases ha
theorem Deck.ne {H : Hp} {d c : Addr} {n : Nat} (D : Deck H d c n) : d ≠ c := by
  obtain ⟨cs, b, h1, h2, _⟩ := D.ex
  exact ne_of h1 h2 (by intro z; cases z)
theorem Deck.mono {H H' : Hp} {d c : Addr} {n : Nat} {D' : List Addr} (D : Deck H d c n) (s : Sm D' H H') (h1 : d ∉ D') (h2 : c ∉ D') : Deck H' d c n := by
  obtain ⟨cs, b, e1, e2, r⟩ := D.ex
  exact ⟨cs, b, s _ _ e1 h1, s _ _ e2 h2, r⟩
theorem Deck.keep {H H' : Hp} {d c : Addr} {n : Nat} (D : Deck H d c n) (s : Sm [] H H') : Deck H' d c n := D.mono s (by simp) (by simp)

theorem ints_dp {K : PySem.W.Frag} {H : Hp} : ∀ (ns : List Int), DpAll K H (ns.map V.int) (ns.map PyData.int)
  | [] => .nil
  | n :: ns => .cons (.int n) (ints_dp ns)
theorem ints_lay : ∀ ns : List Int, PyData.canLayAll0 (ns.map PyData.int) = true
  | [] => by simp [PyData.canLayAll0]
  | n :: ns => by simp [PyData.canLayAll0, PyData.canLay0, ints_lay ns]
theorem ints_depth : ∀ ns : List Int, PyData.depthAll (ns.map PyData.int) = 0
  | [] => by simp [PyData.depthAll]
  | n :: ns => by simp [PyData.depthAll, PyData.depth, ints_depth ns]
theorem ints_shaped (ns : List Int) : SeqAt.shaped (.list (ns.map PyData.int)) = true := by
  simp [SeqAt.shaped, PyData.canLay0, ints_lay ns, PyData.depth, ints_depth ns]
theorem ints_eqv_nil (ns : List Int) : PyData.eqv (.list (ns.map PyData.int)) (.list []) = decide (ns = []) := by
  cases ns with
  | nil => simp [PyData.eqv, PyData.eqvAll]
  | cons n ns => simp [PyData.eqv, PyData.eqvAll]

abbrev sDraw : Stmt := topS 13
theorem scDraw : FnScope ["deck", "ways", "drawn", "number", "cell"] ["deck", "ways"] (defScope sDraw) := ⟨rfl, rfl, rfl, by decide +kernel, rfl, by decide +kernel, by decide +kernel⟩
section
variable {P : Program} {w : World} {K : PySem.W.Frag} {mg : Str → Option Value} {base : Heap}
/-- what a draw does to the deck -/
def spDraw : Sp := fun vs H Q _ => ∃ (d c : Addr) (n : Nat) (ways : Int), vs = [.ref d, .int ways] ∧ Deck H d c n ∧ n < 2 ^ 40 ∧ 1 ≤ ways ∧ ways < 1073741824 ∧
  ∀ (r : Int) H', 0 ≤ r → r < ways → Sm [d, c] H H' → Deck H' d c (n + 1) → Q (.int r) H'
theorem ok_draw {f : Addr} {fd : FuncData} (F : Fun K "_law_draw" "_law_draw" sDraw f fd) (B : Bn mg) : FnOk P w K mg base CX0 1 f fd ["deck", "ways"] spDraw := by
  refine F.ok scDraw (fun vs H Q E h => ?_) (fun cdv A outer s H vs Q E hr h => ?_)
  · obtain ⟨d, c, n, ways, rfl, _⟩ := h
    rfl
  · obtain ⟨d, c, n, ways, rfl, hD, hn, w1, w2, q⟩ := h
    have hu := hu_of hr
    have nd := scDraw.nd
    refine ⟨_, pss_cons (ps_par rfl nd rfl rfl (by decide) rfl rfl (i := 2) (j := 3) (pa_cons (pe_op op_add (pe_dget hu (pv 0) pe_str (fun _ _ => rfl)) pe_int) (pa_cons (pe_dget hu (pv 0) pe_str (fun _ _ => rfl)) pa_nil)) (by rfl))
      (pss_cons (ps_dput hu (pv 0) pe_str (pv 2) rfl)
      (Evl.pss_cut (ps_if (pt_cmpR (op_neD hr.units) (pe_dget hu (pv 0) pe_str (fun _ _ => rfl)) (pe_lst pa_nil) (nomark _))
          (pss_cons (ps_set (i := 4) nd rfl (.inl rfl) (pe_bm0 PySem.F.plainAttrs_list PySem.F.slot_list_pop PySem.F.type_list_pop mt_pop (pe_dget hu (pv 0) pe_str (fun _ _ => rfl))))
          (pss_cons (ps_if (pt_cmpR op_ge (pv 4) (pe_op op_pow pe_int pe_int) (nomark _))
              (pss_cons (ps_expr (pe_bm PySem.F.plainAttrs_list PySem.F.slot_list_append PySem.F.type_list_append mt_append (pe_dget hu (pv 0) pe_str (fun _ _ => rfl))
                  (pa_cons (pe_op op_fdiv (pv 4) (pe_callB (call_max2 rfl) (by rfl) B.max boot_max (pa_cons pe_int (pa_cons (pv 1) pa_nil)))) pa_nil)))
                (pss_one (ps_ret (pe_op op_mod (pv 4) (pv 1))))) pss_nil)
            (pss_one (ps_set (i := 3) nd rfl (.inl rfl) (pe_op op_add (pv 3) (pv 4)))))) pss_nil)
      (pss_cons (ps_set (i := 3) nd rfl (.inl rfl) (pe_op op_mod (pe_op op_mul (pe_op op_add (pe_op op_add (pe_op op_mod (pv 3) pe_int) (pe_op op_mul (pe_op op_mul pe_int (pv 2)) (pv 2))) pe_int) pe_int) pe_int))
      (pss_cons (ps_set (i := 3) nd rfl (.inl rfl) (pe_op op_mod (pe_op op_add (pe_op op_add (pe_op op_mul (pv 3) (pv 3)) (pe_op op_mul pe_int (pv 2))) pe_int) pe_int))
      (pss_one (ps_ret (pe_op op_mod (pe_op op_fdiv (pe_op op_mod (pe_op op_mul (pv 3) pe_int) pe_int) pe_int) (pv 1)))))))), ?_⟩
    obtain ⟨cs, b, e1, e2, hl, b0, b1⟩ := hD.ex
    have ndc := hD.ne
    -- drawn, number
    refine ⟨.ref d, rfl, d, .int n, rfl, .inl ⟨_, Sum.inr "drawn", .inl e1, rfl, rfl⟩, n, 1, rfl, rfl, .ref d, rfl, d, .int b, rfl, .inl ⟨_, Sum.inr "blend", .inl e1, rfl, rfl⟩, _, _, rfl, ?_⟩
    refine ⟨.int (n + 1), rfl, .ref d, rfl, d, _, rfl, DPut.k (k := Sum.inr "drawn") e1 (by show 3 < sizeLine; decide), ?_⟩
    rw [dkv_put]
    have s1 : Sm [d, c] H (upd H d (.dK (dkv c b (n + 1)))) := Sm.refl.put (by simp)
    have e1' : (upd H d (.dK (dkv c b (n + 1)))) d = some (.dK (dkv c b (n + 1))) := upd_same
    have e2' : (upd H d (.dK (dkv c b (n + 1)))) c = some (.lst (cs.map V.int)) := by
      rw [upd_ne ndc.symm]
      exact e2
    generalize upd H d (.dK (dkv c b (n + 1))) = H1 at s1 e1' e2'
    refine ⟨fun σ' H' => ∃ (x : Int) (y : Option V), σ' = [some (.ref d), some (.int ways), some (.int (n + 1)), some (.int x), y] ∧ Sm [d, c] H H' ∧ Deck H' d c (n + 1), ?_, fun σ' H' hM => ?_⟩
    · -- if deck['cells'] != []
      refine ⟨.ref d, rfl, d, .ref c, rfl, .inl ⟨_, Sum.inr "cells", .inl e1', rfl, rfl⟩, Nat.zero_le _, fun p hp => ?_⟩
      have s2 : Sm [d, c] H (upd H1 p (.lst [])) := s1.new hp
      have e1'' : (upd H1 p (.lst [])) d = some (.dK (dkv c b (n + 1))) := by
        rw [upd_ne (ne_of_none e1' hp)]
        exact e1'
      have e2'' : (upd H1 p (.lst [])) c = some (.lst (cs.map V.int)) := by
        rw [upd_ne (ne_of_none e2' hp)]
        exact e2'
      have ep : (upd H1 p (.lst [])) p = some (.lst []) := upd_same
      generalize upd H1 p (.lst []) = H2 at s2 e1'' e2'' ep
      refine ⟨_, _, Dp.lst (SqL.of e2'') (ints_dp cs), Dp.lst (SqL.of ep) .nil, ints_shaped cs, by decide, _, rfl, ?_⟩
      rw [ints_eqv_nil]
      refine ite2 (fun hc => ?_) (fun hc => ?_)
      · have hne : cs ≠ [] := by simpa using hc
        obtain ⟨cs', x, rfl⟩ : ∃ cs' x, cs = cs' ++ [x] := ⟨cs.dropLast, cs.getLast hne, (List.dropLast_concat_getLast hne).symm⟩
        refine ⟨.ref d, rfl, d, .ref c, rfl, .inl ⟨_, Sum.inr "cells", .inl e1'', rfl, rfl⟩, .inl ⟨rfl, _, SqL.of e2''⟩, c, _, .int x, rfl, rfl, e2'', by simp, ?_⟩
        have e1c : (upd H2 c (.lst (((cs' ++ [x]).map V.int).dropLast))) d = some (.dK (dkv c b (n + 1))) := by
          rw [upd_ne ndc]
          exact e1''
        have e2c : (upd H2 c (.lst (((cs' ++ [x]).map V.int).dropLast))) c = some (.lst (cs'.map V.int)) := by
          rw [upd_same]
          simp
        have s3 : Sm [d, c] H (upd H2 c (.lst (((cs' ++ [x]).map V.int).dropLast))) := s2.put (by simp)
        generalize upd H2 c (.lst (((cs' ++ [x]).map V.int).dropLast)) = H3 at s3 e1c e2c
        have hl' : cs'.length + 1 ≤ 63 := by simpa using hl
        -- if cell >= 10 ** 18
        refine ⟨.int x, rfl, 10, 18, rfl, rfl, ⟨by decide, by decide, by decide⟩, x, 10 ^ 18, rfl, rfl, _, rfl, ite2 (fun hx => ?_) (fun hx => ?_)⟩
        · have hw : (if ways > 2 then ways else 2) = max 2 ways := by
            by_cases h : ways > 2
            · rw [if_pos h]; omega
            · rw [if_neg h]; omega
          refine ⟨.ref d, rfl, d, .ref c, rfl, .inl ⟨_, Sum.inr "cells", .inl e1c, rfl, rfl⟩, .inl ⟨rfl, _, SqL.of e2c⟩, .int x, rfl, .int ways, rfl, 2, ways, rfl, x, _, rfl, rfl, ?_, c, _, _, rfl, rfl, e2c, ?_, ?_⟩
          · rw [hw]
            exact ⟨by omega, by omega⟩
          · rw [List.length_map]
            exact small1000 (by omega)
          refine ⟨.int x, rfl, .int ways, rfl, x, ways, rfl, rfl, by show (0 : Int) < ways; omega, ?_⟩
          refine q _ _ (Int.emod_nonneg _ (by omega)) (Int.emod_lt_of_pos _ (by omega)) (s3.put (by simp)) ⟨cs' ++ [x / max 2 ways], b, ?_, ?_, ?_, b0, b1⟩
          · rw [upd_ne ndc]
            exact e1c
          · rw [upd_same, hw]
            simp
          · simpa using hl'
        · refine ⟨.int b, rfl, .int x, rfl, b, x, rfl, rfl, b + x, _, rfl, s3, cs', b, e1c, e2c, by omega, b0, b1⟩
      · exact ⟨b, none, rfl, s2, cs, b, e1'', e2'', hl, b0, b1⟩
    · obtain ⟨x, y, rfl, s2, hD2⟩ := hM
      have hm : ∀ z m : Int, 0 < m → 0 ≤ z % m ∧ z % m < m := fun z m h => ⟨Int.emod_nonneg _ (by omega), Int.emod_lt_of_pos _ h⟩
      have n1 : CMul 92821 ((n : Int) + 1) := .inl ⟨by decide, by decide⟩
      have n2 : CMul (92821 * ((n : Int) + 1)) ((n : Int) + 1) := .inr ⟨by omega, by omega⟩
      have n3 : CMul 69621 ((n : Int) + 1) := .inl ⟨by decide, by decide⟩
      have cz : ∀ z : Int, 0 ≤ z → z < 2147483647 → -(2 ^ 64) < z ∧ z < 2 ^ 64 := fun z h0 h1 => ⟨by omega, by omega⟩
      refine ⟨_, rfl, x, 2147483629, rfl, rfl, (show (0 : Int) < 2147483629 by decide), _, rfl, 92821, _, rfl, rfl, n1, _, rfl, _, _, rfl, rfl, n2, _, _, rfl, rfl, _, 29, rfl, rfl, _, 39373, rfl, rfl, .inr ⟨by decide, by decide⟩, _, 2147483647, rfl, rfl, (show (0 : Int) < 2147483647 by decide), ?_⟩
      obtain ⟨a0, a1⟩ := hm ((x % 2147483629 + 92821 * ((n : Int) + 1) * ((n : Int) + 1) + 29) * 39373) 2147483647 (by decide)
      refine ⟨_, rfl, _, rfl, _, _, rfl, rfl, .inl (cz _ a0 a1), _, rfl, 69621, _, rfl, rfl, n3, _, _, rfl, rfl, _, 7, rfl, rfl, _, 2147483563, rfl, rfl, (show (0 : Int) < 2147483563 by decide), ?_⟩
      refine ⟨_, rfl, _, 40692, rfl, rfl, .inr ⟨by decide, by decide⟩, _, 2147483587, rfl, rfl, (show (0 : Int) < 2147483587 by decide), _, 64, rfl, rfl, ⟨by decide, by decide⟩, _, rfl, _, ways, rfl, rfl, (by show (0 : Int) < ways; omega), ?_⟩
      exact q _ _ (hm _ _ (by omega)).1 (hm _ _ (by omega)).2 s2 hD2
end
end K91

namespace K91
open PySem PySem.Spec PyProof.Rows L2

theorem erase_perm {α : Type} : ∀ (l : List α) (j : Nat) (h : j < l.length), (l[j] :: l.eraseIdx j).Perm l
  | [], j, h => absurd h (Nat.not_lt_zero j)
  | x :: r, 0, h => List.Perm.refl _
  | x :: r, j + 1, h => by
    have hj : j < r.length := Nat.lt_of_succ_lt_succ h
    have ih := erase_perm r j hj
    show (r[j] :: x :: r.eraseIdx j).Perm (x :: r)
    exact (List.Perm.swap x r[j] _).trans (ih.cons x)
/-- a list that is no deck's, a tuple, a text, by its items -/
def SeqV (D : List Addr) (H : Hp) (v : V) (xs : List V) : Prop :=
  (∃ a, v = .ref a ∧ H a = some (.lst xs) ∧ a ∉ D) ∨ (∃ a, v = .ref a ∧ H a = some (.tup xs)) ∨ ∃ z : Str, v = .str z ∧ z.length ≤ sizeLine ∧ xs = z.cps.toList.map fun c => V.str ⟨#[c]⟩

abbrev sPick : Stmt := topS 14
theorem scPick : FnScope ["deck", "some"] ["deck", "some"] (defScope sPick) := ⟨rfl, rfl, rfl, by decide +kernel, rfl, by decide +kernel, by decide +kernel⟩
abbrev sOrder : Stmt := topS 15
theorem scOrder : FnScope ["deck", "some", "left", "one"] ["deck", "some"] (defScope sOrder) := ⟨rfl, rfl, rfl, by decide +kernel, rfl, by decide +kernel, by decide +kernel⟩
theorem SeqV.len {K : PySem.W.Frag} {D : List Addr} {H : Hp} {v : V} {xs : List V} (h : SeqV D H v xs) : LenV K v H xs.length := by
  rcases h with ⟨a, rfl, h, _⟩ | ⟨a, rfl, h⟩ | ⟨z, rfl, h1, h2⟩
  · exact .inl ⟨_, SqL.of h, rfl⟩
  · exact .inr ⟨_, SqT.of h, rfl⟩
  · refine ⟨h1, ?_⟩
    rw [h2, List.length_map]
    rfl
theorem SeqV.mono {D : List Addr} {H H' : Hp} {v : V} {xs : List V} (h : SeqV D H v xs) (s : Sm D H H') (n : NT D H) : SeqV D H' v xs := by
  rcases h with ⟨a, rfl, h, m⟩ | ⟨a, rfl, h⟩ | h
  · exact .inl ⟨a, rfl, s _ _ h m, m⟩
  · exact .inr (.inl ⟨a, rfl, s.kpD n _ _ h⟩)
  · exact .inr (.inr h)
theorem SeqV.ix {K : PySem.W.Frag} {D : List Addr} {H : Hp} {v x : V} {xs : List V} {Q : VK} {i : Nat} (h : SeqV D H v xs) (e : xs[i]? = some x) (q : Q x H) : rIx K v (.int i) H Q := by
  rcases h with ⟨a, rfl, h, _⟩ | ⟨a, rfl, h⟩ | ⟨z, rfl, h1, h2⟩
  · exact .inl ⟨a, xs, i, x, rfl, rfl, SqL.of h, atI_nat e, q⟩
  · exact .inr (.inl ⟨a, xs, i, x, rfl, rfl, SqT.of h, atI_nat e, q⟩)
  · subst h2
    rw [List.getElem?_map] at e
    cases hc : z.cps.toList[i]? with
    | none => rw [hc] at e; cases e
    | some ch =>
      rw [hc] at e
      cases e
      exact .inr (.inr ⟨z, i, ch, rfl, rfl, h1, atI_nat hc, q⟩)
section
variable {P : Program} {w : World} {K : PySem.W.Frag} {mg : Str → Option Value} {base : Heap}
def spPick : Sp := fun vs H Q _ => ∃ (d c : Addr) (n : Nat) (v : V) (xs : List V), vs = [.ref d, v] ∧ Deck H d c n ∧ n < 2 ^ 40 ∧ SeqV [d, c] H v xs ∧ 1 ≤ xs.length ∧ xs.length < 1073741824 ∧
  ∀ (i : Nat) (x : V) H', xs[i]? = some x → Sm [d, c] H H' → Deck H' d c (n + 1) → Q x H'
theorem ok_pick {f : Addr} {fd : FuncData} (F : Fun K "_law_pick" "_law_pick" sPick f fd) (B : Bn mg) (cDraw : Cal P w K mg base "_law_draw" ["deck", "ways"] 1 spDraw) : FnOk P w K mg base CX0 2 f fd ["deck", "some"] spPick := by
  refine F.ok scPick (fun vs H Q E h => ?_) (fun cdv A outer s H vs Q E hr h => ?_)
  · obtain ⟨d, c, n, v, xs, rfl, _⟩ := h
    rfl
  · obtain ⟨d, c, n, v, xs, rfl, hD, hn, hS, l1, l2, q⟩ := h
    refine ⟨_, pss_one (ps_ret (pe_ix ix_seq (pv 1) (pe_own cDraw hr (pa_cons (pv 0) (pa_cons (pe_callB call_len (by rfl) B.len boot_len (pa_cons (pv 1) pa_nil)) pa_nil))) (fun _ _ => rfl))), ?_⟩
    refine ⟨v, rfl, .ref d, rfl, v, rfl, v, xs.length, rfl, hS.len, d, c, n, xs.length, rfl, hD, hn, by omega, by omega, fun r H' r0 r1 s1 hD1 => ?_⟩
    obtain ⟨i, rfl⟩ : ∃ i : Nat, r = i := ⟨r.toNat, by omega⟩
    have hi : i < xs.length := by omega
    have e : xs[i]? = some xs[i] := List.getElem?_eq_getElem hi
    exact (hS.mono s1 hD.nt).ix e (q i _ H' e s1 hD1)
/-- list(some) in a drawn order -/
def spOrder : Sp := fun vs H Q _ => ∃ (d c a : Addr) (n : Nat) (xs : List V), vs = [.ref d, .ref a] ∧ Deck H d c n ∧ n + xs.length < 2 ^ 40 ∧ H a = some (.tup xs) ∧ xs.length ≤ 1000 ∧
  ∀ (ys : List V) (l : Addr) H', ys.Perm xs → Sm [d, c] H H' → H l = none → H' l = some (.lst ys) → Deck H' d c (n + xs.length) → Q (.ref l) H'
theorem ok_order {f : Addr} {fd : FuncData} (F : Fun K "_law_order" "_law_order" sOrder f fd) (B : Bn mg) (cDraw : Cal P w K mg base "_law_draw" ["deck", "ways"] 1 spDraw) : FnOk P w K mg base CX0 2 f fd ["deck", "some"] spOrder := by
  refine F.ok scOrder (fun vs H Q E h => ?_) (fun cdv A outer s H vs Q E hr h => ?_)
  · obtain ⟨d, c, a, n, xs, rfl, _⟩ := h
    rfl
  · obtain ⟨d, c, a, n, xs, rfl, hD, hn, hA, hl, q⟩ := h
    have nd := scOrder.nd
    refine ⟨_, pss_cons (ps_set (i := 2) nd rfl (.inr rfl) (pe_callTy call_list_of (by rfl) B.list boot_list (pa_cons (pv 1) pa_nil)))
      (pss_one (ps_ret (pe_lc (own := [("one", 3)]) (g := gName 3) (tt := tYes) (te := tBM K "list" rPopAt (tVar 2) (tCons (tCall spDraw [] E0 (tCons (tVar 0) (tCons (tCB (fun xs H Q => ∃ x n, xs = [x] ∧ LenV K x H n ∧ Q (.int n) H) (tCons (tVar 2) tNil)) tNil))) tNil)) rfl nd (pi_tup (pv 1)) (blkOk_by (N := ["deck", "some", "left", "one"]) (sc := defScope sOrder) (by decide +kernel)) (fun _ _ _ _ _ => pg_name (i := 3) nd rfl (.inl rfl)) (fun _ _ _ _ _ => pts_nil)
        (fun _ _ _ _ _ => pe_bm PySem.F.plainAttrs_list PySem.F.slot_list_pop PySem.F.type_list_pop mt_popAt (pv 2) (pa_cons (pe_own cDraw hr (pa_cons (pv 0) (pa_cons (pe_callB call_len (by rfl) B.len boot_len (pa_cons (pv 2) pa_nil)) pa_nil))) pa_nil))))), ?_⟩
    refine ⟨.ref a, rfl, a, xs, rfl, .inr (SqT.of hA), fun L hL => ?_⟩
    have s1 : Sm [d, c] H (upd H L (.lst xs)) := Sm.refl.new hL
    have a1 : (upd H L (.lst xs)) a = some (.tup xs) := s1.kpD hD.nt _ _ hA
    have l1 : (upd H L (.lst xs)) L = some (.lst xs) := upd_same
    have nLd : d ≠ L := fun e => by
      obtain ⟨cs, b, e1, _⟩ := hD.ex
      rw [e, hL] at e1; cases e1
    have nLc : c ≠ L := fun e => by
      obtain ⟨cs, b, e1, e2, _⟩ := hD.ex
      rw [e, hL] at e2; cases e2
    have d1 : Deck (upd H L (.lst xs)) d c n := hD.keep (Sm.refl.new hL)
    generalize upd H L (.lst xs) = H1 at s1 a1 l1 d1
    refine ⟨.ref a, rfl, a, rfl, ⟨xs, SqT.of a1⟩, fun D hDn => ?_⟩
    have nDL : L ≠ D := ne_of_none l1 hDn
    have hDn0 : H D = none := s1.free hDn (fun z => by
      obtain ⟨cs, b, e1, e2, _⟩ := d1.ex
      rcases List.mem_cons.mp z with rfl | z
      · rw [hDn] at e1; cases e1
      · rcases List.mem_cons.mp z with rfl | z
        · rw [hDn] at e2; cases e2
        · cases z)
    have nDd : d ≠ D := fun e => by
      obtain ⟨cs, b, e1, _⟩ := hD.ex
      rw [e, hDn0] at e1; cases e1
    have nDc : c ≠ D := fun e => by
      obtain ⟨cs, b, e1, e2, _⟩ := hD.ex
      rw [e, hDn0] at e2; cases e2
    refine lc_tup (K := K) (a := a) (xs := xs) (fun i H' => ∃ ys zs, H' D = some (.lst ys) ∧ H' L = some (.lst zs) ∧ (ys ++ zs).Perm xs ∧ zs.length + i = xs.length ∧ Sm [d, c] H H' ∧ H' a = some (.tup xs) ∧ Deck H' d c (n + i)) ?_ ?_ ?_ ?_
    · refine ⟨[], xs, upd_same, ?_, List.Perm.refl _, rfl, s1.new hDn, ?_, ?_⟩
      · rw [upd_ne nDL]; exact l1
      · rw [upd_ne (ne_of_none a1 hDn)]; exact a1
      · exact d1.keep (Sm.refl.new hDn)
    · rintro i H' _ ⟨ys, zs, h1, h2, h3, h4, h5, h6, h7⟩
      exact SqT.of h6
    · rintro i x H' hx ⟨ys, zs, h1, h2, h3, h4, h5, h6, h7⟩
      have hi : i < xs.length := (List.getElem?_eq_some_iff.mp hx).1
      refine ⟨rfl, ?_⟩
      refine ⟨.ref L, rfl, .inl ⟨rfl, _, SqL.of h2⟩, .ref d, rfl, .ref L, rfl, .ref L, zs.length, rfl, .inl ⟨zs, SqL.of h2, rfl⟩, d, c, n + i, zs.length, rfl, h7, by omega, by omega, by omega, fun r H2 r0 r1 s2 d2 => ?_⟩
      obtain ⟨j, rfl⟩ : ∃ j : Nat, r = j := ⟨r.toNat, by omega⟩
      have hj : j < zs.length := by omega
      have nn : ∀ p, p ≠ d → p ≠ c → p ∉ [d, c] := fun p a b => by simp [a, b]
      have g2 : H2 L = some (.lst zs) := s2 _ _ h2 (nn _ nLd.symm nLc.symm)
      have g1 : H2 D = some (.lst ys) := s2 _ _ h1 (nn _ nDd.symm nDc.symm)
      refine ⟨L, zs, j, j, zs[j], rfl, rfl, g2, by omega, by omega, ?_, List.getElem?_eq_getElem hj, ys, ?_, ?_, ys ++ [zs[j]], zs.eraseIdx j, upd_same, ?_, ?_, ?_, ?_, ?_, ?_⟩
      · unfold seqIndex?
        simp
        omega
      · rw [upd_ne nDL.symm]; exact g1
      · have := h3.length_eq
        rw [List.length_append] at this
        exact small1000 (by omega)
      · rw [upd_ne nDL, upd_same]
      · refine List.Perm.trans ?_ h3
        rw [List.append_assoc]
        refine List.Perm.append_left ys ?_
        exact erase_perm zs j hj
      · rw [List.length_eraseIdx, if_pos hj]
        omega
      · exact ((h5.trans s2).own hL).own hDn0
      · rw [upd_ne (fun e => by rw [e, hDn0] at hA; cases hA), upd_ne (fun e => by rw [e, hL] at hA; cases hA)]
        exact s2.kpD h7.nt _ _ h6
      · have : Deck H2 d c (n + (i + 1)) := d2
        obtain ⟨cs, b, e1, e2, r⟩ := this.ex
        refine ⟨cs, b, ?_, ?_, r⟩
        · rw [upd_ne nDd, upd_ne nLd]; exact e1
        · rw [upd_ne nDc, upd_ne nLc]; exact e2
    · rintro H' ⟨ys, zs, h1, h2, h3, h4, h5, h6, h7⟩
      have hz : zs = [] := List.length_eq_zero_iff.mp (by omega)
      subst hz
      rw [List.append_nil] at h3
      exact q ys D H' h3 h5 hDn0 h1 h7
end
end K91

namespace K91
open PySem PySem.Spec PyProof.Rows L2

abbrev sDeck : Stmt := topS 12
theorem scDeck : FnScope ["script", "salt", "cells", "blend", "cell"] ["script", "salt"] (defScope sDeck) := ⟨rfl, rfl, rfl, by decide +kernel, rfl, by decide +kernel, by decide +kernel⟩
section
variable {P : Program} {w : World} {K : PySem.W.Frag} {mg : Str → Option Value} {base : Heap}
def spDeck (K : PySem.W.Frag) : Sp := fun vs H Q _ => ∃ (a : Addr) (ns : List Int) (salt : Int), vs = [.ref a, .int salt] ∧ SqL K H a (ns.map V.int) ∧ ns.length ≤ 63 ∧ 0 ≤ salt ∧ salt < 1000000 ∧
  ∀ (d c : Addr) H', Sm [] H H' → Deck H' d c 0 → Q (.ref d) H'
theorem ok_deck {f : Addr} {fd : FuncData} (F : Fun K "_law_deck" "_law_deck" sDeck f fd) (B : Bn mg) : FnOk P w K mg base CX0 1 f fd ["script", "salt"] (spDeck K) := by
  refine F.ok scDeck (fun vs H Q E h => ?_) (fun cdv A outer s H vs Q E hr h => ?_)
  · obtain ⟨a, ns, salt, rfl, _⟩ := h
    rfl
  · obtain ⟨a, ns, salt, rfl, hS, hl, t0, t1, q⟩ := h
    have nd := scDeck.nd
    refine ⟨_, pss_cons (ps_par (i := 2) (j := 3) rfl nd rfl rfl (by decide) rfl rfl (pa_cons (pe_callTy call_list_of (by rfl) B.list boot_list (pa_cons (pe_slice sl_list (pv 0) po_none (po_some pe_int)) pa_nil)) (pa_cons (pe_op op_add pe_int (pv 1)) pa_nil)) (by rfl))
      (pss_cons (ps_for PassesOwn.never rfl (pi_list (pv 2)) (pg_name (i := 4) nd rfl (.inl rfl)) (pss_one (ps_set (i := 3) nd rfl (.inl rfl)
          (pe_op op_mod (pe_op op_add (pe_op op_add (pe_op op_mul (pv 3) pe_int) (pe_op op_mod (pv 4) pe_int)) pe_int) pe_int))))
      (pss_one (ps_ret (pe_disp (pps_cons pe_str (pe_revL (pv 2)) (pps_cons pe_str (pv 3) (pps_cons pe_str pe_int pps_nil))) (by rfl) (by rfl) (fun z => by cases z) (by decide))))), ?_⟩
    refine ⟨.ref a, rfl, 63, rfl, a, ns.map V.int, rfl, hS, fun p hp => ?_⟩
    have s1 : Sm [] H (upd H p (.lst (cutV (ns.map V.int) none (some 63)))) := Sm.refl.new hp
    have hc : cutV (ns.map V.int) none (some 63) = ns.map V.int := by
      unfold cutV
      rw [HT.sIx_none, show HT.sIx (ns.map V.int).length (ns.map V.int).length (some 63) = min 63 (ns.map V.int).length from HT.sIx_nat _ _ 63, List.drop_zero, Nat.sub_zero, List.length_map, List.take_of_length_le]
      rw [List.length_map]; omega
    rw [hc] at s1 ⊢
    have ep : (upd H p (.lst (ns.map V.int))) p = some (.lst (ns.map V.int)) := upd_same
    generalize upd H p (.lst (ns.map V.int)) = H1 at s1 ep
    refine ⟨p, _, rfl, .inl (SqL.of ep), fun l hl1 => ?_⟩
    have s2 : Sm [] H (upd H1 l (.lst (ns.map V.int))) := s1.new hl1
    have el : (upd H1 l (.lst (ns.map V.int))) l = some (.lst (ns.map V.int)) := upd_same
    generalize upd H1 l (.lst (ns.map V.int)) = H2 at s2 el
    refine ⟨.int salt, rfl, 19437000, salt, rfl, rfl, _, _, rfl, ?_⟩
    -- the loop
    refine ⟨.ref l, rfl, l, rfl, ⟨_, SqL.of el⟩, for_list (xs := ns.map V.int) (fun i σ H' => H' = H2 ∧ ∃ (b : Int) (y4 : Option V), σ = [some (.ref a), some (.int salt), some (.ref l), some (.int b), y4] ∧ 0 ≤ b ∧ b < 2147483587) ?_ ?_ ?_ ?_⟩
    · exact ⟨rfl, _, _, rfl, by omega, by omega⟩
    · rintro i σ H' _ ⟨rfl, _⟩
      exact SqL.of el
    · rintro i x σ H' hx ⟨rfl, b, y4, rfl, b0, b1⟩
      obtain ⟨z, hz, rfl⟩ : ∃ z, ns[i]? = some z ∧ V.int z = x := by
        rw [List.getElem?_map] at hx
        cases e : ns[i]? with
        | none => rw [e] at hx; cases hx
        | some z => rw [e] at hx; exact ⟨z, rfl, Option.some.inj hx⟩
      refine ⟨_, rfl, b, 48271, rfl, rfl, .inr ⟨by decide, by decide⟩, _, rfl, z, 2147483629, rfl, rfl, (show (0 : Int) < 2147483629 by decide), _, _, rfl, rfl, _, 17, rfl, rfl, _, 2147483587, rfl, rfl, (show (0 : Int) < 2147483587 by decide), ?_⟩
      exact ⟨rfl, _, _, rfl, Int.emod_nonneg _ (by decide), Int.emod_lt_of_pos _ (by decide)⟩
    · rintro σ H' ⟨rfl, b, y4, rfl, b0, b1⟩
      refine fun d hd => ?_
      have ed : (upd H' d (.dK [])) d = some (.dK []) := upd_same
      have nld : l ≠ d := ne_of_none el hd
      have el' : (upd H' d (.dK [])) l = some (.lst (ns.map V.int)) := by
        rw [upd_ne nld]; exact el
      refine ⟨.ref l, rfl, l, _, rfl, SqL.of el', fun c hc1 => ⟨_, rfl, ?_, [(Sum.inr "cells", .ref c), (Sum.inr "blend", .int b), (Sum.inr "drawn", .int 0)], rfl, (by show 3 ≤ 15; decide), ?_⟩⟩
      · rw [upd_ne (ne_of_none ed hc1)]
        exact ed
      · refine q d c _ (((s2.new hd).new hc1).own (s2.free hd (by simp))) ⟨ns.reverse, b, upd_same, ?_, by simpa using hl, b0, b1⟩
        rw [upd_ne (ne_of_none ed hc1).symm, upd_same, List.map_reverse]
end
end K91

/-! dict(zip(t, u)), t and u tuples -/
namespace ZT
open PySem
/-- a zip's two iterators stand at place k of their tuples -/
structure Mid (h : Heap) (TI i1 i2 l1 l2 : Addr) (xs ys : Array Value) (k : Nat) : Prop where
  ti : IsPair h TI (.ref i1) (.ref i2)
  a : h.IsTupleIter i1 l1 k
  b : h.IsTupleIter i2 l2 k
  xs : h.IsTuple l1 xs
  ys : h.IsTuple l2 ys
theorem Mid.to {h h' : Heap} {TI i1 i2 l1 l2 : Addr} {xs ys : Array Value} {k : Nat} (m : Mid h TI i1 i2 l1 l2 xs ys k) (keep : ∀ c ∈ [TI, i1, i2, l1, l2], ∀ o, h.get? c = some o → h'.get? c = some o) : Mid h' TI i1 i2 l1 l2 xs ys k :=
  ⟨keep TI (by simp) _ m.ti, m.a.at fun o e => keep i1 (by simp) o e, m.b.at fun o e => keep i2 (by simp) o e, m.xs.at fun o e => keep l1 (by simp) o e, m.ys.at fun o e => keep l2 (by simp) o e⟩
/-- but for these three all is as it was -/
def But3 (z i1 i2 : Addr) (h h' : Heap) : Prop := ∀ c o, c ≠ z → c ≠ i1 → c ≠ i2 → h.get? c = some o → h'.get? c = some o
section
variable {prog : Program} {w : World} {A : Around} {E : Value → Shared → Prop} {s : Shared} {z TI TO T i1 i2 l1 l2 : Addr} {xs ys : Array Value} {k : Nat}
/-- the builtin's own step while the tuple that it gave before is still there -/
theorem stepHeld {f : Bool} {oT : Obj} {R : PySem.Fin → Shared → Prop} (calm : A.handled = none) (D : ZipApart z TI TO i1 i2 l1 l2) (hz : IsZipHeld s.heap z TI TO T f) (hT : s.heap.get? T = some oT) (m : Mid s.heap TI i1 i2 l1 l2 xs ys k)
    (go : ∀ x y h', xs[k]? = some x → ys[k]? = some y → IsZipHeld h' z TI TO T true → h'.IsTupleIter i1 l1 (k + 1) → h'.IsTupleIter i2 l2 (k + 1) → IsPair h' s.heap.objs.size x y → But3 z i1 i2 s.heap h' → R (.done (.ret (.ref s.heap.objs.size))) { s with heap := h' })
    (stop : xs[k]? = none ∨ ys[k]? = none → ∀ h' e, But3 z i1 i2 s.heap h' → (∃ o, h'.get? e = some o ∧ o.cls = .type "StopIteration") → E (.ref e) { s with heap := h' }) :
    wpAny (model prog w) A (Builtin.«zip.__next__» ⟨[.ref z], []⟩) R E s := by
  have fd : ∀ {i : Nat} {v : Value} {Q : Value → Shared → Prop} (_ : (#[rawInt T, Value.bool f, .bool false, .ref TI, .ref TO] : Array Value)[i]? = some v), Q v s → wpAny (model prog w) A (field (.ref z) i) Q E s := fun e q => wpAny_field hz rfl e q
  unfold Builtin.«zip.__next__»
  refine wpAny_bind (wpAny_pure ?_)
  refine wpAny_bind (fd (i := 2) rfl (wpAny_bind (fd (i := 3) rfl (wpAny_bind (wpAny_seqItems m.ti rfl (wpAny_bind (wpAny_tupleHeld_zip hz hT fun g1 z1 b1 => ?_)))))))
  rw [if_neg Bool.false_ne_true]
  refine wpAny_bind ?_
  simp only [← Array.forIn_toList, List.forIn_cons, List.forIn_nil]
  have s1 := b1.extBut
  refine wpAny_bind (wpAny_bind (wpAny_holding (wpAny_bind (m := Builtin.SmallTypes.nextOf (.ref i1)) ?_)))
  have m1 := m.to fun c hc o e => s1 c o (by
    simp only [List.mem_cons, List.not_mem_nil, or_false] at hc
    rcases hc with rfl | rfl | rfl | rfl | rfl
    · exact D.TIz
    · exact D.i1z
    · exact D.i2z
    · exact D.l1z
    · exact D.l2z) e
  cases hx : xs[k]? with
  | none =>
    refine RZ.nextOf_tuple_end (s := { s with heap := g1 }) calm m1.a m1.xs hx fun g2 e s2 he => ?_
    exact stop (.inl hx) g2 e (fun c o nz n1 _ q => s2 c o n1 (s1 c o nz q)) he
  | some x =>
    refine RZ.nextOf_tuple_item (s := { s with heap := g1 }) m1.a m1.xs hx fun g2 a2 b2 => ?_
    have s2 := b2.extBut
    refine wpAny_pure (wpAny_pure (wpAny_bind (wpAny_bind (wpAny_holding (wpAny_bind (m := Builtin.SmallTypes.nextOf (.ref i2)) ?_)))))
    have bI : g2.IsTupleIter i2 l2 k := m1.b.at fun o e => s2 i2 o D.i12.symm e
    have yI : g2.IsTuple l2 ys := m1.ys.at fun o e => s2 l2 o D.l2i1 e
    cases hy : ys[k]? with
    | none =>
      refine RZ.nextOf_tuple_end (s := { s with heap := g2 }) calm bI yI hy fun g3 e s3 he => ?_
      exact stop (.inr hy) g3 e (fun c o nz n1 n2 q => s3 c o n2 (s2 c o n1 (s1 c o nz q))) he
    | some y =>
      refine RZ.nextOf_tuple_item (s := { s with heap := g2 }) bI yI hy fun g3 a3 b3 => ?_
      have s3 := b3.extBut
      refine wpAny_pure (wpAny_pure (wpAny_pure (wpAny_bind (m := newTuple [x, y]) (wpAny_newTuple (wpAny_pure ?_)))))
      have sz : s.heap.objs.size = g3.objs.size := b1.1.symm.trans (b2.1.symm.trans b3.1.symm)
      rw [show ({ s with heap := g3 } : Shared).heap.objs.size = g3.objs.size from rfl, ← sz]
      have up : ∀ {c o}, g3.get? c = some o → (g3.push { cls := .type "tuple", data := .seq #[x, y] }).get? c = some o := fun q => Heap.get?_push_of_some _ q
      refine go x y _ hx hy (up (s3 z _ D.i2z.symm (s2 z _ D.i1z.symm z1))) ((a2.at fun o e => s3 i1 o D.i12 e).at fun o e => up e) (a3.at fun o e => up e) ?_ fun c o nz n1 n2 q => up (s3 c o n2 (s2 c o n1 (s1 c o nz q)))
      rw [sz]
      exact Heap.get?_push_size _ rfl
/-- next(z) while the tuple that it gave before is still there -/
theorem pyNextHeld {f : Bool} {oT : Obj} {Q : Option Value → Shared → Prop} (calm : A.handled = none) (D : ZipApart z TI TO i1 i2 l1 l2) (hz : IsZipHeld s.heap z TI TO T f) (hT : s.heap.get? T = some oT) (m : Mid s.heap TI i1 i2 l1 l2 xs ys k)
    (go : ∀ x y h', xs[k]? = some x → ys[k]? = some y → IsZipHeld h' z TI TO T true → h'.IsTupleIter i1 l1 (k + 1) → h'.IsTupleIter i2 l2 (k + 1) → IsPair h' s.heap.objs.size x y → But3 z i1 i2 s.heap h' → Q (some (.ref s.heap.objs.size)) { s with heap := h' })
    (stop : xs[k]? = none ∨ ys[k]? = none → ∀ h', But3 z i1 i2 s.heap h' → Q none { s with heap := h' }) : wpAny (model prog w) A (pyNext (.ref z)) Q E s := by
  have ty : s.TypeIs (.ref z) "zip" := ⟨_, hz, rfl⟩
  unfold pyNext
  refine wpAny_bind (wpAny_attempt (wpAny_callSpecial?_slot (name := Str.ofString "__next__") ty F.slot_zip_next (wpAny_call_entry F.slot_zip_next ty F.entry_zip_next (stepHeld calm D hz hT m (fun x y h' ex ey a b c d e => ?_) fun no h' e b he => ?_) (F.args_zip_next_1 _))))
  · exact ⟨_, rfl, wpAny_pure (go x y h' ex ey a b c d e)⟩
  · obtain ⟨o, ho, hc⟩ := he
    exact wpAny_bind (wpAny_isInstance (T := "StopIteration") (b := true) ⟨o, ho, hc⟩ isSubtype_stop (wpAny_pure (stop no h' b)))
/-- the zip as it stands: it holds no tuple yet, or one that is not the dict's -/
def Out (h : Heap) (z TI TO i1 i2 d : Addr) : Prop :=
  (IsZip h z TI TO .none ∧ ∃ a b, IsPair h TO a b) ∨ ∃ T f oT, IsZipHeld h z TI TO T f ∧ h.get? T = some oT ∧ ∀ c ∈ [z, i1, i2, d], T ≠ c
theorem Out.to {h h' : Heap} {z TI TO i1 i2 d : Addr} (o : Out h z TI TO i1 i2 d) (nz : z ≠ d) (nT : TO ≠ d) (hk : ∀ c o, c ≠ d → h.get? c = some o → h'.get? c = some o) : Out h' z TI TO i1 i2 d := by
  rcases o with ⟨q, a, b, t⟩ | ⟨T, f, oT, q, t, no⟩
  · exact .inl ⟨hk z _ nz q, a, b, hk TO _ nT t⟩
  · exact .inr ⟨T, f, oT, hk z _ nz q, hk T _ (no d (by simp)) t, no⟩
/-- next(z), however the zip stands -/
theorem pyNextOut {d : Addr} {Q : Option Value → Shared → Prop} (calm : A.handled = none) (D : ZipApart z TI TO i1 i2 l1 l2) (o : Out s.heap z TI TO i1 i2 d) (low : xs[k]? = none ∨ d < s.heap.objs.size) (m : Mid s.heap TI i1 i2 l1 l2 xs ys k)
    (go : ∀ x y h', xs[k]? = some x → ys[k]? = some y → Out h' z TI TO i1 i2 d → Mid h' TI i1 i2 l1 l2 xs ys (k + 1) → IsPair h' s.heap.objs.size x y → (∀ c o, c ∉ [z, TO, i1, i2] → s.heap.get? c = some o → h'.get? c = some o) → Q (some (.ref s.heap.objs.size)) { s with heap := h' })
    (stop : xs[k]? = none ∨ ys[k]? = none → ∀ h', (∀ c o, c ∉ [z, TO, i1, i2] → s.heap.get? c = some o → h'.get? c = some o) → Q none { s with heap := h' }) : wpAny (model prog w) A (pyNext (.ref z)) Q E s := by
  have new : ∀ {c q}, s.heap.get? c = some q → s.heap.objs.size ≠ c := fun e => (Nat.ne_of_lt (Heap.lt_size e)).symm
  have f3 : ∀ {h'}, But3 z i1 i2 s.heap h' → ∀ c o, c ∉ [z, TO, i1, i2] → s.heap.get? c = some o → h'.get? c = some o := fun b c o no e => b c o (fun x => no (by simp [x])) (fun x => no (by simp [x])) (fun x => no (by simp [x])) e
  have f4 : ∀ {h' : Heap}, (∀ c o, c ≠ z → c ≠ TO → c ≠ i1 → c ≠ i2 → s.heap.get? c = some o → h'.get? c = some o) → ∀ c o, c ∉ [z, TO, i1, i2] → s.heap.get? c = some o → h'.get? c = some o := fun b c o no e => b c o (fun x => no (by simp [x])) (fun x => no (by simp [x])) (fun x => no (by simp [x])) (fun x => no (by simp [x])) e
  obtain ⟨p1, q1, r1⟩ := m.a
  obtain ⟨p2, q2, r2⟩ := m.b
  rcases o with ⟨hz, a, b, t⟩ | ⟨T, f, oT, hz, hT, no⟩
  · by_cases hx : k < xs.size ∧ k < ys.size
    · refine RZ.pyNext_zipT_item D hz m.ti t m.a m.b m.xs m.ys (Array.getElem?_eq_getElem hx.1) (Array.getElem?_eq_getElem hx.2) fun h' a1 a2 a3 a4 a5 a6 hk => ?_
      refine go _ _ h' (Array.getElem?_eq_getElem hx.1) (Array.getElem?_eq_getElem hx.2) (.inr ⟨s.heap.objs.size, false, _, a1, a5, fun c hc => ?_⟩) ⟨hk _ _ D.TIz D.TITO D.TIi1 D.TIi2 m.ti, a3, a4, m.xs.at fun o e => hk _ o D.l1z D.l1TO D.l1i1 D.l1i2 e, m.ys.at fun o e => hk _ o D.l2z D.l2TO D.l2i1 D.l2i2 e⟩ a5 (f4 hk)
      simp only [List.mem_cons, List.not_mem_nil, or_false] at hc
      rcases hc with rfl | rfl | rfl | rfl
      · exact new hz
      · exact new q1
      · exact new q2
      · exact (Nat.ne_of_lt (low.resolve_left fun e => nomatch (Array.getElem?_eq_getElem hx.1).symm.trans e)).symm
    · have no : xs[k]? = none ∨ ys[k]? = none := by
        by_cases h1 : k < xs.size
        · exact .inr (Array.getElem?_eq_none (Nat.le_of_not_lt fun h2 => hx ⟨h1, h2⟩))
        · exact .inl (Array.getElem?_eq_none (Nat.le_of_not_lt h1))
      exact RZ.pyNext_zipT_end calm D hz m.ti t m.a m.b m.xs m.ys no fun h' hk => stop no h' (f4 hk)
  · refine pyNextHeld calm D hz hT m (fun x y h' ex ey a b cc pr hk => ?_) fun no h' hk => stop no h' (f3 hk)
    exact go x y h' ex ey (.inr ⟨T, true, oT, a, hk T oT (no z (by simp)) (no i1 (by simp)) (no i2 (by simp)) hT, no⟩) ⟨hk _ _ D.TIz D.TIi1 D.TIi2 m.ti, b, cc, m.xs.at fun o e => hk _ o D.l1z D.l1i1 D.l1i2 e, m.ys.at fun o e => hk _ o D.l2z D.l2i1 D.l2i2 e⟩ pr (f3 hk)
end
section
variable {prog : Program} {w : World}
/-- a zip that has given nothing yet -/
def First (z TI TO i1 i2 l1 l2 : Addr) (xs ys : Array Value) (h : Heap) : Prop := IsZip h z TI TO .none ∧ (∃ a b, IsPair h TO a b) ∧ Mid h TI i1 i2 l1 l2 xs ys 0
theorem There_of {h : Heap} {z TI TO i1 i2 l1 l2 : Addr} {xs ys : Array Value} (g : First z TI TO i1 i2 l1 l2 xs ys h) {c : Addr} (hc : c ∈ [z, TI, TO, i1, i2, l1, l2]) : ∃ o, h.get? c = some o := by
  obtain ⟨hz, ⟨a, b, t⟩, m⟩ := g
  have q1 := m.a
  have q2 := m.b
  have q3 := m.xs
  have q4 := m.ys
  simp only [List.mem_cons, List.not_mem_nil, or_false] at hc
  rcases hc with rfl | rfl | rfl | rfl | rfl | rfl | rfl
  · exact ⟨_, hz⟩
  · exact ⟨_, m.ti⟩
  · exact ⟨_, t⟩
  · exact ⟨_, q1.choose_spec.1⟩
  · exact ⟨_, q2.choose_spec.1⟩
  · exact ⟨_, q3.choose_spec.1⟩
  · exact ⟨_, q4.choose_spec.1⟩
/-- the two tuples' zip, as dict() asks it -/
theorem asPairs (z TI TO i1 i2 l1 l2 : Addr) (D : ZipApart z TI TO i1 i2 l1 l2) (xs ys : Array Value) (n : Nat) (hn : xs.size = n) (hm : ys.size = n) :
    PairArg prog w "zip" z [z, TI, TO, i1, i2, l1, l2] [z, TO, i1, i2] n (fun i k v => xs[i]? = some k ∧ ys[i]? = some v) (First z TI TO i1 i2 l1 l2 xs ys) := by
  refine { type := fun s ok => ⟨_, ok.1, rfl⟩, notDict := by decide, keep := ?_, there := fun h ok b hb => There_of ok hb, sub := ?_, noKeys := fun A s Q E hA ok h => getAttrOr_miss_zip ok.1 rfl rfl rfl zip_no_keys (by decide +kernel) hA h, iter := ?_ }
  · rintro h h' ⟨hz, ⟨a, b, t⟩, m⟩ keep
    exact ⟨keep z _ hz, ⟨a, b, keep TO _ t⟩, m.to fun c _ o e => keep c o e⟩
  · intro b hb
    simp at hb ⊢
    rcases hb with rfl | rfl | rfl | rfl <;> simp
  · intro A s d Q E calm ok low far fin
    have ne : ∀ {c : Addr}, c ∈ [z, TI, TO, i1, i2, l1, l2] → c ≠ d := fun hc e => far (e ▸ hc)
    obtain ⟨hz, t, m0⟩ := ok
    refine wpAny_pyIter_zip hz (fin z [z, TO, i1, i2] (fun i h => Out h z TI TO i1 i2 d ∧ Mid h TI i1 i2 l1 l2 xs ys i) s.heap s.toks ?_ ⟨.inl ⟨hz, t⟩, m0⟩ (fun _ _ e => e) fun b hb => .inl hb)
    constructor
    · intro hc
      simp only [List.mem_cons, List.not_mem_nil, or_false] at hc
      rcases hc with e | e | e | e
      all_goals exact ne (by simp) e.symm
    · rintro i h1 h2 ⟨o, m⟩ keep
      exact ⟨o.to (ne (by simp)) (ne (by simp)) keep, m.to fun c hc o e => keep c o (ne (by
        simp only [List.mem_cons, List.not_mem_nil, or_false] at hc ⊢
        rcases hc with e | e | e | e | e <;> simp [e])) e⟩
    · rintro i s1 Q1 E1 hi ⟨o, m⟩ lw giv
      refine pyNextOut calm D o (.inr lw) m (fun x y h' ex ey o' m' pr keep => giv _ _ _ h' s1.toks ⟨ex, ey⟩ (.inl ⟨_, pr, rfl, _, rfl⟩) ⟨o', m'⟩ keep) fun no => ?_
      rcases no with no | no
      · rw [Array.getElem?_eq_getElem (by rw [hn]; exact hi)] at no
        cases no
      · rw [Array.getElem?_eq_getElem (by rw [hm]; exact hi)] at no
        cases no
    · rintro s1 Q1 E1 ⟨o, m⟩ fin1
      have out : xs[n]? = none := Array.getElem?_eq_none (Nat.le_of_eq hn)
      exact pyNextOut calm D o (.inl out) m (fun x y h' ex => nomatch out.symm.trans ex) fun _ h' keep => fin1 h' s1.toks keep
end
open L2 PySem.Spec PyProof.Rows
section
variable {X : Cx}
theorem at_of : ∀ {xs : List V} {us : List Value}, Vals xs us → ∀ {i : Nat} {u : Value}, us[i]? = some u → ∃ x, xs[i]? = some x ∧ RelV x u
  | _, _, .cons r _, 0, _, e => ⟨_, rfl, by cases e; exact r⟩
  | _, _, .cons _ t, i + 1, _, e => by simpa using at_of t (by simpa using e)
/-- keys written as texts or ints, beside values: what stands at place i -/
theorem zipped {P : Program} {w : World} {ks : List Key} {vs : List V} {us ws : List Value} (a : Vals (ks.map kV) us) (b : Vals vs ws) (i : Nat) (x y : Value) (hx : us[i]? = some x) (hy : ws[i]? = some y) : ∃ k, (ks.zip ws)[i]? = some (k, y) ∧ (mixKind P w).is k x = true := by
  obtain ⟨j, e, r⟩ := at_of a hx
  rw [List.getElem?_map] at e
  cases ek : ks[i]? with
  | none =>
    rw [ek] at e
    cases e
  | some k =>
    rw [ek] at e
    cases e
    exact ⟨k, by rw [List.getElem?_zip_eq_some]; exact ⟨ek, hy⟩, kV_is r⟩
theorem zipped_kv : ∀ (ks : List Key) {vs : List V} {ws : List Value}, Vals vs ws → KV (ks.zip vs) (ks.zip ws)
  | [], _, _, _ => .nil
  | _ :: _, _, _, .nil => .nil
  | _ :: ks, _, _, .cons r t => .cons ⟨rfl, r⟩ (zipped_kv ks t)
def tDictZip (K : PySem.W.Frag) (ta : TA) : TE := fun σ H Q => ta σ H fun vs H1 => ∃ (a b : Addr) (ks : List Key) (ys : List V), vs = [.ref a, .ref b] ∧ SqT K H1 a (ks.map kV) ∧ SqT K H1 b ys ∧ ks.length = ys.length ∧
  ∀ p, H1 p = none → Q (.ref p) (upd H1 p (.dK (mergeK [] (ks.zip ys))))
theorem pe_dictZip {e e2 : Expr} {ta : TA} {p p2 pos pos2 : Pos} (hc : X.calm = true) (hgd : Gl X "dict") (hmd : X.mg "dict" = none) (hg : Gl X "zip") (hm : X.mg "zip" = none) (ha : PA X [e, e2] ta)
    (hs : starEach [e, e2] X.env = (false, eval e X.env) :: starEach [e2] X.env := by rfl) (hpl : (backTo pos2 (starEach [e2] X.env)).any (·.1) = false := by rfl)
    (hs2 : starEach [Expr.Call (.Name "zip" p2) [e, e2] [] pos2] X.env = (false, eval (Expr.Call (.Name "zip" p2) [e, e2] [] pos2) X.env) :: starEach [] X.env := by rfl) (hpl2 : (backTo pos (starEach [] X.env)).any (·.1) = false := by rfl) :
    PE X (.Call (.Name "dict" p) [.Call (.Name "zip" p2) [e, e2] [] pos2] [] pos) (tDictZip X.K ta) := by
  refine ⟨fun pins s σ H Q I h => ?_⟩
  refine wpAny_Call_Name_kw (ld_blt I hgd hmd boot_dict ?_)
  refine PyProof.Rows.callWith_type1 ?_ hs2 hpl2
  rw [hs2]
  show wpAny _ _ (spliced ((false, eval (Expr.Call (.Name "zip" p2) [e, e2] [] pos2) X.env) :: backTo pos (starEach [] X.env))) _ _ s
  refine Calls.spliced_cons ?_
  refine Call_ (ld_blt I hg hm PyProof.Rows.boot_zip (PyProof.Rows.callWith_type1 (thn (ha.run pos2 pins s σ H _ I h) fun us s1 ⟨vs, H1, I1, r1, q1⟩ => ?_) hs hpl))
  obtain ⟨a, b, ks, ys, ex, hqx, hqy, hl, q⟩ := q1
  subst ex
  obtain ⟨u1, u2, eu, ra, rb⟩ := vals2 r1
  subst eu
  cases ra
  cases rb
  obtain ⟨its, rv, p1, room⟩ := I1.tuple hqx
  obtain ⟨its2, rv2, p2', _⟩ := I1.tuple hqy
  have t1 : s1.heap.IsTuple a its.toArray := p1
  have t2 : s1.heap.IsTuple b its2.toArray := p2'
  have la : a < s1.heap.objs.size := Heap.lt_size t1.choose_spec.1
  have lb : b < s1.heap.objs.size := Heap.lt_size t2.choose_spec.1
  have e1 : its.length = ks.length := by rw [← rv.length, List.length_map]
  have e2 : its2.length = ks.length := by rw [← rv2.length, hl]
  rw [List.length_map] at room
  have ez : (ks.zip its2).length = ks.length := by rw [List.length_zip, e2, Nat.min_self]
  refine RZ.call_zipT t1 t2 fun g hz hTI hTO h1 h2 hsz hk => Calls.spliced_nil ?_
  have first : First (s1.heap.objs.size + 4) (s1.heap.objs.size + 2) (s1.heap.objs.size + 3) s1.heap.objs.size (s1.heap.objs.size + 1) a b its.toArray its2.toArray g := ⟨hz, ⟨_, _, hTO⟩, hTI, h1, h2, t1.at fun o e => hk _ o e, t2.at fun o e => hk _ o e⟩
  refine PySem.call_dict_pairs (s := { s1 with heap := g }) (knd := mixKind X.prog X.w) (kvs := ks.zip its2) (asPairs _ _ _ _ _ a b (PySem.W.ktu_apart _ a b la lb) _ _ ks.length (by simpa using e1) (by simpa using e2)) (I.ok.hd hc) first ⟨ez, fun i k v r => zipped rv rv2 i k v (by simpa using r.1) (by simpa using r.2)⟩ room fun g2 tk dct hk2 => ?_
  have kept : ∀ c o, s1.heap.get? c = some o → g2.get? c = some o := fun c o e => by
    have lt : c < s1.heap.objs.size := Heap.lt_size e
    refine hk2 c o (fun bad => ?_) (hk c o e)
    simp only [List.mem_cons, List.not_mem_nil, or_false] at bad
    have far : ∀ j, c ≠ s1.heap.objs.size + j := fun j => PySem.W.ktu_ne j lt
    rcases bad with q | q | q | q
    · exact far 4 q
    · exact far 3 q
    · exact far 0 q
    · exact far 1 q
  have up : s1.heap.objs.size ≤ g.objs.size := by rw [hsz]; exact Nat.le_add_right _ _
  refine ⟨.ref g.objs.size, upd H1 g.objs.size (.dK (mergeK [] (ks.zip ys))), I1.laid (t' := tk) kept up (show ObjOk X.prog X.w _ _ _ (.dK (mergeK [] (ks.zip ys))) from ⟨?_, beq_eq_false_iff_ne.mpr (Nat.ne_of_gt (Nat.lt_of_lt_of_le I1.big up)), merged [] (ks.zip its2), KV.merge (zipped_kv ks rv2) .nil, dct⟩), rfl, q _ (I1.hok.fresh up)⟩
  refine Nat.le_trans (length_mergeK _ []) ?_
  rw [List.length_nil, Nat.zero_add, List.length_zip, ← hl, Nat.min_self]
  exact room
end
end ZT

namespace K91
open PySem PySem.Spec PyProof.Rows L2

/-! ### dict(xs) of a list of pairs whose keys are tuples -/
def mergeT (kvs more : List (List Key × V)) : List (List Key × V) := more.foldl (fun acc kv => putK acc kv.1 kv.2) kvs
theorem mergeT_len : ∀ (more kvs : List (List Key × V)), (mergeT kvs more).length ≤ kvs.length + more.length
  | [], kvs => Nat.le_refl _
  | p :: r, kvs => by
    have h1 := mergeT_len r (putK kvs p.1 p.2)
    have h2 := length_putK kvs p.1 p.2
    have h3 : mergeT kvs (p :: r) = mergeT (putK kvs p.1 p.2) r := rfl
    rw [h3, List.length_cons]
    omega
theorem KT_merge {H : Hp} : ∀ {more : List (List Key × V)} {rs : List (List Key × Addr × Value)} {kvs : List (List Key × V)} {xs : List (List Key × Addr × Value)}, KT H more rs → KT H kvs xs → KT H (mergeT kvs more) (storedAllH xs rs)
  | [], _, kvs, xs, .nil, r => r
  | p :: more, _, kvs, xs, .cons (b := q) h t, r => by
    obtain ⟨e1, e2, e3⟩ := h
    have r2 : KT H (putK kvs p.1 p.2) (storedH xs q.1 q.2.1 q.2.2) := by
      rw [← e1]
      exact r.put p.1 e2 e3
    have z := KT_merge (kvs := putK kvs p.1 p.2) (xs := storedH xs q.1 q.2.1 q.2.2) (show KT H more _ from t) r2
    exact z
/-- a pair (key, value): its own tuple, the key's tuple, the key, the value -/
structure Pr where
  t : Addr
  k : Addr
  key : List Key
  v : V
def Pr.ok (H : Hp) (q : Pr) : Prop := H q.t = some (.tup [.ref q.k, q.v]) ∧ H q.k = some (.tup (q.key.map kV))
theorem prs_raw {P : Program} {w : World} {H : Hp} {h : Heap} (hok : HOk P w H h) : ∀ (L : List Pr), (∀ q ∈ L, q.ok H) → ∃ rs : List (List Key × Addr × Value), KT H (L.map fun q => (q.key, q.v)) rs ∧ rs.length = L.length ∧
    ∀ (i : Nat) (q : Pr), L[i]? = some q → ∃ u, rs[i]? = some (q.key, q.k, u) ∧ h.IsTuple q.t #[.ref q.k, u]
  | [], _ => ⟨[], .nil, rfl, fun i q e => by simp at e⟩
  | q :: L, hq => by
    obtain ⟨rs, r, hl, hp⟩ := prs_raw hok L fun x hx => hq x (List.mem_cons_of_mem _ hx)
    obtain ⟨e1, e2⟩ := hq q List.mem_cons_self
    obtain ⟨_, its, rv, ht⟩ := (show ObjOk P w H h q.t (.tup [.ref q.k, q.v]) from hok _ _ e1)
    obtain ⟨u1, u, rfl, ru1, ru⟩ := vals2 rv
    cases ru1
    refine ⟨(q.key, q.k, u) :: rs, .cons ⟨rfl, e2, ru⟩ r, by simp [hl], fun i x hx => ?_⟩
    cases i with
    | zero =>
      cases hx
      exact ⟨u, rfl, ht⟩
    | succ i => exact hp i x (by simpa using hx)
section
variable {X : Cx}
def rDictT (K : PySem.W.Frag) : List V → Hp → VK → Prop := fun xs H Q => ∃ (a : Addr) (L : List Pr), xs = [.ref a] ∧ SqL K H a (L.map fun q => V.ref q.t) ∧ (∀ q ∈ L, q.ok H) ∧
  ∀ p, H p = none → Q (.ref p) (upd H p (.dT (mergeT [] (L.map fun q => (q.key, q.v)))))
theorem call_dictT (hc : X.calm = true) (hu : X.A.units + 8 < cLine) : CallR X (.type "dict") (rDictT X.K) := by
  intro pins s σ H xs us Q I r h
  obtain ⟨a, L, rfl, hq, hL, q⟩ := h
  obtain ⟨u, rfl, rx⟩ := vals1 r
  cases rx
  obtain ⟨its, rv, pl, hz⟩ := I.list hq
  obtain ⟨rs, rel, hl, hp⟩ := prs_raw I.hok L hL
  have hits : ∀ (i : Nat) (x : Pr), L[i]? = some x → its[i]? = some (.ref x.t) := fun i x hx => by
    obtain ⟨u, hu, ru⟩ := rv.get (i := i) (x := V.ref x.t) (by simp [hx])
    rw [hu, (show u = Value.ref x.t from ru)]
  have hlen : its.length = L.length := by
    have := rv.length
    rw [List.length_map] at this
    exact this.symm
  have atL : ∀ (i : Nat) (r : List Key × Addr × Value), rs[i]? = some r → ∃ x, L[i]? = some x ∧ r.1 = x.key ∧ r.2.1 = x.k ∧ s.heap.IsTuple x.t #[.ref x.k, r.2.2] := fun i r hr => by
    have hi : i < L.length := by
      rw [← hl]
      exact (List.getElem?_eq_some_iff.mp hr).1
    obtain ⟨u, hu, ht⟩ := hp i L[i] (List.getElem?_eq_getElem hi)
    rw [hr] at hu
    cases hu
    exact ⟨L[i], List.getElem?_eq_getElem hi, rfl, rfl, ht⟩
  refine PySem.call_dict_pairsH (knd := tupleKind (mixKind X.prog X.w)) (ps := rs) (PairArg.list a its.toArray (fun j => (L.map (·.t)).getD j 0) (rs.map fun r => (Value.ref r.2.1, r.2.2))) (I.ok.hd hc)
    (by show X.A.units + 1 + 1 < cLine; omega) ⟨pl, by simp [hlen, hl], fun j k v hj => ?_⟩ ⟨by simp, fun i k v hr => ?_⟩ (fun h' hk x hx => ?_) (by rw [List.length_map] at hz ⊢; omega) fun h' tk hd' hk => ?_
  · rw [List.getElem?_map] at hj
    cases e : rs[j]? with
    | none => rw [e] at hj; cases hj
    | some r =>
      rw [e] at hj
      cases hj
      obtain ⟨x, hx, _, e2, ht⟩ := atL j r e
      have ed : (L.map (·.t)).getD j 0 = x.t := by simp [List.getD, hx]
      show its.toArray[j]? = some (Value.ref ((L.map (·.t)).getD j 0)) ∧ PairAt s.heap ((L.map (·.t)).getD j 0) (Value.ref r.2.1) r.2.2
      rw [ed]
      refine ⟨by simpa using hits j x hx, .inl ?_⟩
      rw [e2]
      exact ht
  · have hr' : (rs.map fun r => (Value.ref r.2.1, r.2.2))[i]? = some (k, v) := hr
    rw [List.getElem?_map] at hr'
    cases e : rs[i]? with
    | none => rw [e] at hr'; cases hr'
    | some r =>
      rw [e] at hr'
      cases hr'
      exact ⟨r.1, r.2.1, rfl, rfl⟩
  · obtain ⟨i, hi⟩ := List.mem_iff_getElem?.mp hx
    obtain ⟨y, hy, e1, e2, _⟩ := atL i x hi
    obtain ⟨o, its', n, h1, h2, h3, h4⟩ := key_of (P := X.prog) (w := X.w) I.hok (hL y (List.mem_of_getElem? hy)).2
    rw [e1, e2]
    exact ⟨o, its', n, hk _ _ (Nat.ne_of_lt (Heap.lt_size h1)) (by simp) h1, h2, h3, h4⟩
  · have hm : (s.heap.objs.size == sysModules) = false := beq_eq_false_iff_ne.mpr (Nat.ne_of_gt I.big)
    have kk : ∀ b o, s.heap.get? b = some o → h'.get? b = some o := fun b o e => hk b o (by simp) e
    have hz2 : (mergeT [] (L.map fun q => (q.key, q.v))).length ≤ sizeLine := by
      have := mergeT_len (L.map fun q => (q.key, q.v)) []
      rw [List.length_map] at this hz
      simp only [List.length_nil] at this
      omega
    have hf := I.hok.fresh (Nat.le_refl s.heap.objs.size)
    obtain ⟨o, es, ep, h1, h2, h3, h4, _, h5⟩ := hd'
    refine ⟨.ref s.heap.objs.size, upd H s.heap.objs.size (.dT (mergeT [] (L.map fun q => (q.key, q.v)))), I.laid (t' := tk) kk (Nat.le_refl _) ?_, rfl, q _ hf⟩
    refine ⟨hz2, hm, storedAllH [] rs, ?_, o, es, ep, h1, h2, h3, h4, h5⟩
    exact (KT_merge rel .nil).keeps fun b ys e => by
      rw [upd_ne (ne_of_none e hf)]
      exact e

/-! ### f(k = v, ..) -/
theorem pe_ownK {k : Nat} {nm : Str} {f : Addr} {fd : FuncData} {ps ks : List Str} {sp : Sp} {g : List Value → List Value → List Value} {gV : List V → List V → List V} {p pos : Pos} {kws : List Keyword} {tk : TA} (F : FnOk X.prog X.w X.K X.mg X.base CX0 k f fd ps sp) (hr : Room k X.A) (hm : X.mg nm = some (.ref f))
    (hkp : PySem.W.keepIn X.K (.ref f) = true) (hb : KBinds X.K fd ps ks g gV) (hkw : PK X kws tk) (hg : Gl X nm := by rfl) (hall : (backToKw pos (keywordEach kws X.env)).all (·.1.isSome) = true := by rfl)
    (hks : (backToKw pos (keywordEach kws X.env)).filterMap (·.1) = ks := by rfl) (hdb : (nm == ("__debug__" : Str)) = false := by decide)
    (hpl : ((backTo pos (starEach [] X.env)).any (·.1) || (backToKw pos (keywordEach kws X.env)).any (·.1.isNone)) = false := by rfl) :
    PE X (.Call (.Name nm p) [] kws pos) (tCallK sp gV E0 tNil tk) := by
  refine ⟨fun pins s σ H Q I h => ?_⟩
  refine wpAny_Call_Name_kw (ld_glob I hg hm ?_ hdb)
  refine PySem.W.callWith_KW0 (h₀ := X.base) I.ok.mod.kin hkp hall ?_ hpl
  refine thn (hkw.run pos pins s σ H _ I h) fun ws s2 ⟨zs, H2, I2, rz, q2⟩ => ⟨I2.kIn, ?_⟩
  rw [hks]
  exact run_fnk F hr hb pass0 I2 (us := []) (vs := []) .nil rz q2

/-! ### a tuple whose object is known -/
def rTupF (K : PySem.W.Frag) : List V → Hp → VK → Prop := fun xs H Q => ∃ (p : Addr) (ys : List V), xs = [.ref p] ∧ SqL K H p ys ∧ ∀ (l : Addr) (o : Obj), H l = none → o.dict = none → Q (.ref l) (upd H l (.frz o (.tup ys)))
theorem call_tupF : CallR X (.type "tuple") (rTupF X.K) := by
  intro pins s σ H xs us Q I r h
  obtain ⟨p, ys, rfl, hq, q⟩ := h
  obtain ⟨u, rfl, rx⟩ := vals1 r
  cases rx
  obtain ⟨its, r', pl, hz⟩ := I.list hq
  have hlen := r'.length
  refine call_tuple_list pl.isList (fun h' kp => ?_) (by simp only [List.size_toArray] <;> omega)
  have I1 : Inv X pins σ H { s with heap := h' } := I.kept (t' := s.toks) kp
  have e1 : (h'.push { cls := .type "tuple", data := .seq its.toArray }).get? h'.objs.size = some { cls := .type "tuple", data := .seq its.toArray } := Heap.get?_push_size _ rfl
  exact ⟨.ref h'.objs.size, _, I1.laid (t' := s.toks) (o := .frz { cls := .type "tuple", data := .seq its.toArray } (.tup ys)) (fun b o e => Heap.get?_push_of_some _ e) (Nat.le_refl _) ⟨e1, hz, its, r', IsTup.new _ _⟩, rfl,
    q _ _ (I1.hok.fresh (Nat.le_refl _)) rfl⟩
/-- t.index(x) of such a tuple of texts -/
def rTix (K : PySem.W.Frag) : V → List V → Hp → VK → Prop := fun x xs H Q => ∃ p, ∃ ys : List Str, ∃ z j, x = .ref p ∧ xs = [.str z] ∧ SqT K H p (ys.map V.str) ∧ ys[j]? = some z ∧ (∀ m, m < j → ys[m]? ≠ some z) ∧ Q (.int (j : Nat)) H
def tTix (K : PySem.W.Frag) (to : TE) (t : TA) : TE := fun σ H Q => to σ H fun x H1 => (∃ (a : Addr) (o : Obj) (xs : List V), x = .ref a ∧ H1 a = some (.frz o (.tup xs)) ∧ o.dict = none) ∧ t σ H1 fun ys H2 => rTix K x ys H2 Q
theorem pe_tix {o e : Expr} {to : TE} {t : TA} {apos cpos : Pos} (ho : PE X o to) (ha : PA X [e] t) (hbase : attributeBase o "index" X.env (eval o X.env) = eval o X.env := by rfl)
    (hfew : ((backTo cpos (starEach [e] X.env)).all (fun x => !x.1) && (backToKw cpos (keywordEach [] X.env)).all (fun x => x.1.isSome)
      && decide (([e] : List Expr).length + ([] : List Keyword).length + (if ([] : List Keyword).isEmpty then 0 else 1) < 30)) = true := by rfl)
    (hline : (apos.endLine == cpos.line) = true := by rfl) (hs : starEach [e] X.env = (false, eval e X.env) :: starEach [] X.env := by rfl) (hplain : (backTo cpos (starEach [] X.env)).any (·.1) = false := by rfl) :
    PE X (.Call (.Attribute o "index" apos) [e] [] cpos) (tTix X.K to t) := by
  refine ⟨fun pins s σ H Q I h => ?_⟩
  refine wpAny_Call_method_late hbase hfew hline rfl (thn (ho.run pins s σ H _ I h) fun v s1 ⟨x, H1, I1, r1, ⟨a, ob, xs, ex, ea, ed⟩, q1⟩ => ?_)
  subst ex
  cases r1
  obtain ⟨e1, _, its, rv, o2, e2, c2, _⟩ := (show ObjOk X.prog X.w H1 s1.heap a (.frz ob (.tup xs)) from I1.hok _ _ ea)
  have eo : o2 = ob := by
    rw [e1] at e2
    exact (Option.some.inj e2).symm
  subst eo
  refine ⟨"tuple", "tuple.index", PySem.F.plainAttrs_tuple, PySem.F.slot_tuple_index, PySem.F.type_tuple_index, ⟨_, e1, c2⟩, fun b hb => ?_, ?_⟩
  · cases hb
    exact ⟨_, e1, ed⟩
  · have hA := ha.run cpos pins s1 σ H1 _ I1 q1
    rw [hs] at hA ⊢
    refine Calls.callWith_builtin (by show (false || (backTo cpos (starEach [] X.env)).any (·.1)) = false; rw [hplain] <;> rfl) (Calls.evalArgs_plain ?_)
    exact thn hA fun us s2 ⟨vs, H2, I2, r2, q2⟩ => mt_tup_index pins s2 σ H2 (.ref a) vs (.ref a) us Q I2 rfl r2 q2
end
section
variable {prog : Program} {w : World} {A : Around} {E : Value → Shared → Prop} {s : Shared}
theorem filterMap_some {α β : Type} (f : α → Option β) (g : α → β) : ∀ l : List α, (∀ x ∈ l, f x = some (g x)) → l.filterMap f = l.map g
  | [], _ => rfl
  | x :: l, h => by
    rw [List.filterMap_cons, h x List.mem_cons_self, List.map_cons]
    show g x :: l.filterMap f = _
    rw [filterMap_some f g l fun y hy => h y (List.mem_cons_of_mem _ hy)]
theorem rev_applied {sl : Addr} {v : Value} {n : Nat} {Q : Int × Int × Nat → Shared → Prop} (hs : s.heap.IsSliceOf sl .none .none v) (p : IsPart v (some (-1))) (h : Q ((n : Int) - 1, -1, n) s) :
    wpAny (model prog w) A (Builtin.Slice.sliceApplied (.ref sl) (pure (n : Int))) Q E s := by
  obtain ⟨os, h1, h2, h3⟩ := id hs
  have pl : Builtin.Slice.slicePlaces ((n : Int) - 1) (-1) (-1) = n := by
    unfold Builtin.Slice.slicePlaces
    rw [if_neg (by decide)]
    by_cases h : (n : Int) - 1 > -1
    · rw [if_pos h, show - (-1 : Int) = 1 from rfl, Int.ediv_one]
      omega
    · rw [if_neg h]
      omega
  unfold Builtin.Slice.sliceApplied Builtin.Slice.sliceFields
  refine wpAny_bind (wpAny_bind (wpAny_field h1 h3 (x := .none) rfl (wpAny_bind (wpAny_field h1 h3 (x := .none) rfl (wpAny_bind (wpAny_field h1 h3 (x := v) rfl (wpAny_pure ?_)))))))
  refine wpAny_bind (HT.slicePart_ p ?_)
  show wpAny _ _ (if ((-1 : Int) == 0) = true then _ else _) _ _ s
  rw [if_neg (by decide)]
  refine wpAny_bind (slicePart_none (wpAny_bind (slicePart_none (wpAny_bind (wpAny_pure ?_)))))
  have sa : Builtin.Slice.sliceAdjust none none (-1) (n : Int) = ((n : Int) - 1, -1) := rfl
  show wpAny _ _ (match Builtin.Slice.sliceAdjust none none (-1) (n : Int) with | (a, b) => pure (a, (-1 : Int), Builtin.Slice.slicePlaces a b (-1))) _ _ s
  rw [sa]
  show wpAny _ _ (pure ((n : Int) - 1, (-1 : Int), Builtin.Slice.slicePlaces ((n : Int) - 1) (-1) (-1))) _ _ s
  rw [pl]
  exact wpAny_pure h
theorem rev_pick (xs : Array Value) : ((List.range xs.size).filterMap fun (k : Nat) => xs[((xs.size : Int) - 1 + (k : Int) * -1).toNat]?).toArray = xs.toList.reverse.toArray := by
  congr 1
  apply List.ext_getElem?
  intro i
  have e : ((List.range xs.size).filterMap fun (k : Nat) => xs[((xs.size : Int) - 1 + (k : Int) * -1).toNat]?) = (List.range xs.size).map fun k => xs.toList.getD (xs.size - 1 - k) .none := by
    refine filterMap_some _ _ _ fun k hk => ?_
    have hk' : k < xs.size := List.mem_range.mp hk
    have e1 : ((xs.size : Int) - 1 + (k : Int) * -1).toNat = xs.size - 1 - k := by omega
    have h2 : xs.size - 1 - k < xs.size := by omega
    rw [e1, Array.getElem?_eq_getElem h2]
    simp [List.getD, h2]
  rw [e]
  by_cases h : i < xs.size
  · have h2 : xs.size - 1 - i < xs.size := by omega
    rw [List.getElem?_map, List.getElem?_range h, List.getElem?_reverse (by simpa using h)]
    simp [List.getD, h2]
  · rw [List.getElem?_eq_none (by simp; omega), List.getElem?_eq_none (by simp; omega)]
theorem getItem_tuple_rev {t sl : Addr} {items : Array Value} {v : Value} {Q : Value → Shared → Prop} (ht : IsTup s.heap t items) (hs : s.heap.IsSliceOf sl .none .none v) (p : IsPart v (some (-1)))
    (h : Q (.ref s.heap.objs.size) { s with heap := s.heap.push { cls := .type "tuple", data := .seq items.toList.reverse.toArray } }) (hsz : items.size ≤ sizeLine) : wpAny (model prog w) A (getItem (.ref t) (.ref sl)) Q E s := by
  have hok : sizeOk (.seq items.toList.reverse.toArray) := by
    show items.toList.reverse.toArray.size ≤ sizeLine
    simpa using hsz
  obtain ⟨os, h1, h2, h3⟩ := id hs
  unfold getItem
  try with_reducible refine wpAny_holding ?_
  first | refine wpAny_bind (wpAny_pure ?_) | skip
  refine wpAny_bind (wpAny_sequenceKey ht.typeIs (by decide) (wpAny_bind (wpAny_callSpecial?_slot (name := Str.ofString "__getitem__") ht.typeIs PyProof.Rows.slot_tuple_getitem (wpAny_call_entry PyProof.Rows.slot_tuple_getitem ht.typeIs entry_tuple_getitem ?_ (args_tuple_getitem _ _)))))
  show wpAny _ _ (Builtin.Tuple.tupleItemsOf (.ref t) >>= _) _ _ s
  refine wpAny_bind (tupleItemsOf_ ht (wpAny_bind (wpAny_typeOf (T := "slice") ⟨os, h1, h2⟩ ?_)))
  rw [if_pos (by decide)]
  refine wpAny_bind (rev_applied (n := items.size) hs p ?_)
  show wpAny _ _ (if (((items.size : Int) - 1) == 0 && (-1 : Int) == 1 && items.size == items.size) = true then _ else _) _ _ s
  rw [if_neg (by simp), rev_pick]
  first
    | exact wpAny_bind (m := Builtin.Tuple.tupleExact _) (wpAny_newObj_type (wpAny_pure ⟨_, rfl, wpAny_pure h⟩) hok)
    | exact wpAny_bind (m := Builtin.Tuple.tupleExact _) (wpAny_newObj_type (wpAny_bind (wpAny_pure (wpAny_pure ⟨_, rfl, wpAny_pure h⟩))) hok)
    | exact wpAny_bind (wpAny_bind (m := Builtin.Tuple.tupleExact _) (wpAny_newObj_type (wpAny_pure (wpAny_pure ⟨_, rfl, wpAny_pure h⟩)) hok))
    | exact wpAny_bind (wpAny_bind (m := Builtin.Tuple.tupleExact _) (wpAny_newObj_type (wpAny_pure ⟨_, rfl, wpAny_pure h⟩) hok))
end
section
variable {X : Cx}
/-- t[::-1] of a tuple -/
def tRevT (K : PySem.W.Frag) (te : TE) : TE := fun σ H Q => te σ H fun x H1 => ∃ a xs, x = .ref a ∧ SqT K H1 a xs ∧ ∀ p, H1 p = none → Q (.ref p) (upd H1 p (.tup xs.reverse))
theorem pe_revT {e : Expr} {te : TE} {k : Nat} {p1 p2 p3 pos : Pos} (he : PE X e te) : PE X (.Subscript e (.Slice none none (some (.UnaryOp .USub (.Constant (.int 1) k p1) p2)) p3) pos) (tRevT X.K te) := by
  refine ⟨fun pins s σ H Q I h => ?_⟩
  refine Subscript_ (thn (he.run pins s σ H _ I h) fun v s1 ⟨x, H1, I1, r1, a, xs, ex, hx, q⟩ => ?_)
  subst ex
  cases r1
  have hm : PO X (some (.UnaryOp .USub (.Constant (.int 1) k p1) p2)) (tPart (tUn (rU fun i => .int (-i)) (tC (.int 1)))) := po_some (pe_un un_neg pe_int)
  refine wpAny_Slice (thn (po_none.run pins s1 σ H1 (fun o H2 => o = none ∧ H2 = H1) I1 ⟨rfl, rfl⟩) fun vl s2 ⟨l, H2, I2, pl, el, e2⟩ => ?_)
  subst el e2
  refine thn (po_none.run pins s2 σ H2 (fun o H3 => o = none ∧ H3 = H2) I2 ⟨rfl, rfl⟩) fun vu s3 ⟨u, H3, I3, pu, eu, e3⟩ => ?_
  subst eu e3
  refine thn (hm.run pins s3 σ H3 (fun o H4 => o = some (-1) ∧ H4 = H3) I3 ⟨1, rfl, -1, rfl, rfl, rfl⟩) fun vs s4 ⟨o, H4, I4, ps, eo, e4⟩ => ?_
  subst eo e4
  have nl : vl = .none := by cases pl; rfl
  have nu : vu = .none := by cases pu; rfl
  subst nl nu
  have I5 : Inv X pins σ H4 { s4 with heap := s4.heap.push { cls := .type "slice", data := .fields #[.none, .none, vs] } } := I4.kept (t' := s4.toks) fun b ob q => Heap.get?_push_of_some _ q
  obtain ⟨its, r, ht, hz⟩ := I5.tuple hx
  have hlen := r.length
  show wpAny (model X.prog X.w) X.A (subscriptTail e (.Slice none none (some (.UnaryOp .USub (.Constant (.int 1) k p1) p2)) p3) (.ref a) (.ref s4.heap.objs.size)) (EP X pins σ Q) X.xe { s4 with heap := s4.heap.push { cls := .type "slice", data := .fields #[.none, .none, vs] } }
  refine tail_any (ops := [.ref a, .ref s4.heap.objs.size]) ht.typeIs (PyProof.Rows.slot_tuple_getitem.lookup) ?_ (by with_unfolding_all rfl)
  refine getItem_tuple_rev ht (Heap.IsSliceOf.new _ .none .none vs) ps ?_ (by rw [List.size_toArray]; omega)
  refine ⟨.ref _, _, I5.laid (t' := s4.toks) (o := .tup xs.reverse) (fun b ob q => Heap.get?_push_of_some _ q) (Nat.le_refl _) ?_, rfl, q _ (I5.hok.fresh (Nat.le_refl _))⟩
  exact ⟨by rw [List.length_reverse]; exact hz, _, r.reverse, ⟨_, Heap.get?_push_size _ rfl, rfl, _, rfl⟩⟩
end
end K91

namespace K91
open PySem PySem.Spec PyProof.Rows L2

/-! ### d.items() of a dict whose keys are tuples -/
/-- the pairs, each a new tuple of the key's own tuple and the value -/
def Itp (d : Addr) (o : Obj) (kvs : List (List Key × V)) : It :=
  ⟨fun i H => H d = some (.frz o (.dT kvs)) ∧ i < kvs.length,
    fun i H x H' => ∃ (T q : Addr) (k : List Key) (v : V), kvs[i]? = some (k, v) ∧ x = .ref T ∧ H T = none ∧ H q = some (.tup (k.map kV)) ∧ H' = upd H T (.tup [.ref q, v]),
    fun i H => H d = some (.frz o (.dT kvs)) ∧ kvs.length ≤ i⟩
theorem frzTV {X : Cx} {pins : List (Addr × Obj)} {σ : L2.St} {H : Hp} {s : Shared} {d : Addr} {o : Obj} {kvs : List (List Key × V)} (I : Inv X pins σ H s) (h : H d = some (.frz o (.dT kvs))) :
    (d == sysModules) = false ∧ ∃ (es : Array DictEntry) (ep : Nat), s.heap.DictRaw d es ep ∧ o.data = .dict es ep ∧ es.size = kvs.length ∧
      ∀ (i : Nat) (k : List Key) (v : V), kvs[i]? = some (k, v) → ∃ (hi : i < es.size) (q : Addr), es[i].key = .ref q ∧ H q = some (.tup (k.map kV)) ∧ RelV v es[i].val := by
  obtain ⟨hd, z, hs, xs, pr, o', es, ep, ho, hx, hdt, he, _⟩ := (show ObjOk X.prog X.w H s.heap d (.frz o (.dT kvs)) from I.hok d _ h)
  rw [hd] at ho
  cases ho
  refine ⟨hs, es, ep, ⟨o, hd, hx, hdt⟩, hdt, ?_, fun i k v e => ?_⟩
  · have l1 : es.size = xs.length := size_of_entries he
    have l2 : kvs.length = xs.length := Paired.length pr
    omega
  · obtain ⟨b, hb, e1, e2, e3⟩ := paired_get pr e
    have q := entry_at he i
    rw [hb] at q
    obtain ⟨hi, eq⟩ := Array.getElem?_eq_some_iff.mp q
    refine ⟨hi, b.2.1, ?_, e2, ?_⟩
    · rw [eq]; rfl
    · rw [eq]; exact e3
section
variable {P : Program} {w : World} {K : PySem.W.Frag} {d : Addr} {o : Obj} {es : Array DictEntry} {ep : Nat}
theorem turn_itemsT {kvs : List (List Key × V)} {elts : List Expr} {kk : Nat} {tpos : Pos} (it : Addr) (hod : o.data = .dict es ep) :
    Turn P w K (.Tuple elts kk tpos) (Itp d o kvs) [it] it (fun i h => ∃ a b, IsItemIter h it d i kvs.length ep a b) where
  mem := by simp
  obj := fun i h st b hb => by
    have e : b = it := by simpa using hb
    obtain ⟨x, y, q⟩ := st
    rw [e]
    exact ⟨_, q, fun v z => nomatch z⟩
  keep := fun i h h' st k => let ⟨x, y, q⟩ := st; ⟨x, y, k it (by simp) _ q⟩
  item := by
    intro X hP hw hK hc i pins s σ H E I hf st hg
    subst hP hw hK
    obtain ⟨hd, hi⟩ := hg
    obtain ⟨hs, es', ep', raw, hdt, hsz, ent⟩ := frzTV I hd
    obtain ⟨rfl, rfl⟩ := dict_ep hod hdt
    have hkv : kvs[i]? = some kvs[i] := List.getElem?_eq_getElem hi
    obtain ⟨hi2, q, ek, hq, rv⟩ := ent i kvs[i].1 kvs[i].2 hkv
    obtain ⟨x, y, he⟩ := st
    rw [← hsz] at he
    have hlt : it < s.heap.objs.size := Heap.lt_size he
    refine wpAny_pyNext_items_item_raw he raw hi2 fun h' ho hT hz hk => ?_
    refine ⟨_, rfl, wpAny_letOwnedTupleGo_items (s := { s with heap := h' }) ho fun h'' he' sb => ?_⟩
    have hT2 : h''.get? s.heap.objs.size = some { cls := .type "tuple", data := .seq #[es'[i].key, es'[i].val] } := (sb.2 _ (Nat.ne_of_gt hlt)).trans hT
    have new : ObjOk X.prog X.w (upd H s.heap.objs.size (.tup [.ref q, kvs[i].2])) h'' s.heap.objs.size (.tup [.ref q, kvs[i].2]) :=
      ⟨by show 2 ≤ sizeLine; decide, [es'[i].key, es'[i].val], .cons ek (.cons rv .nil), ⟨_, hT2, rfl, _, rfl⟩⟩
    have I1 := I.turnedNew (t' := s.toks) (ch := [it]) (fun b ob hb e => (sb.2 b (by simpa using hb)).trans (hk b ob (by simpa using hb) e)) hf (Nat.le_refl _) new
    refine ⟨.ref s.heap.objs.size, _, I1, rfl, ⟨_, q, kvs[i].1, kvs[i].2, hkv, rfl, I.hok.fresh (Nat.le_refl _), hq, rfl⟩, ⟨_, _, by rw [← hsz]; exact he'⟩, fun b hb => ?_⟩
    have e : b = it := by simpa using hb
    rw [e, upd_ne (Nat.ne_of_lt hlt)]
    exact (hf it (by simp)).1
  done := by
    intro X hP hw hK hc i pins s σ H E I hf st hg
    subst hP hw hK
    obtain ⟨hd, hi⟩ := hg
    obtain ⟨f0, f1, f2, f3, f4, f5⟩ := hf it (by simp)
    obtain ⟨hs, es', ep', raw, hdt, hsz, ent⟩ := frzTV I hd
    obtain ⟨rfl, rfl⟩ := dict_ep hod hdt
    obtain ⟨x, y, he⟩ := st
    rw [← hsz] at he hi
    exact wpAny_pyNext_items_end_raw (I.ok.hd hc) he raw hi fun h' eb => ⟨rfl, I.turned (t' := s.toks) (fun b ob hb e => eb b ob hb e) f0 f1 f3 f4 f5⟩
  self := fun A i s Q E st h => let ⟨_, _, e⟩ := st; PySem.W.kcp_self e h
end
def iItp (td : TE) : TI := fun σ H R => td σ H fun x H1 => ∃ d o kvs, x = .ref d ∧ H1 d = some (.frz o (.dT kvs)) ∧ R (Itp d o kvs) H1
section
variable {X : Cx} {e : Expr} {td : TE} {apos cpos : Pos}
theorem pi_itemsT {elts : List Expr} {kk : Nat} {tpos : Pos} (he : PE X e td) (hbase : attributeBase e "items" X.env (eval e X.env) = eval e X.env := by rfl) (hline : (apos.endLine == cpos.line) = true := by rfl) :
    PI X (.Tuple elts kk tpos) (.Call (.Attribute e "items" apos) [] [] cpos) (iItp td) := by
  refine ⟨fun pins s σ H R I h => ?_⟩
  refine wpAny_Call_method (T := "dict") (id := "dict.items") hbase rfl hline F.plainAttrs_dict F.slot_dict_items F.type_dict_items (thn (he.run pins s σ H _ I h) fun u s1 ⟨x, H1, I1, rx, d, o, kvs, ex, hd, q⟩ => ?_)
  subst ex
  cases (show u = Value.ref d from rx)
  obtain ⟨hs, es, ep, raw, hdt, hsz, ent⟩ := frzTV I1 hd
  obtain ⟨ob, e1, e2, e3⟩ := id raw
  refine ⟨raw.typeIs, fun b eb => by cases eb; exact ⟨ob, e1, e2.2.1⟩, ?_⟩
  have I2 : Inv X pins σ H1 { s1 with heap := s1.heap.push { cls := .type "dict_items", data := .fields #[.ref d] } } := I1.kept (t' := s1.toks) fun b ob q => Heap.get?_push_of_some _ q
  have fin : wpAny (model X.prog X.w) X.A (pyIter (.ref s1.heap.objs.size)) (PIE X pins σ (.Tuple elts kk tpos) R) X.xe { s1 with heap := s1.heap.push { cls := .type "dict_items", data := .fields #[.ref d] } } := by
    refine wpAny_pyIter_items_raw (d := d) (es := es) (ep := ep) ⟨_, Heap.get?_push_size _ rfl, rfl, rfl⟩ (raw.at fun o q => Heap.get?_push_of_some _ q) (pi_one (tk := s1.toks) I2 _ (turn_itemsT _ hdt) ⟨.none, .none, ?_⟩ q)
    rw [← hsz]
    exact Heap.get?_push_size _ rfl
  show wpAny _ _ (callWith cpos (.builtin "dict.items") [.ref d] [] []) _ X.xe s1
  exact method_meetsIn F.slot_dict_items F.entry_dict_items rfl (PySem.evalArgs_none ⟨rfl, raw.typeIs, F.args_dict_items_1 _, _, meets_dict_items_raw d hs, ⟨⟨es, ep, raw⟩, fin⟩⟩)
end
theorem walk_itemsT {d : Addr} {o : Obj} {kvs : List (List Key × V)} : Walk (Itp d o kvs) kvs.length (fun H => H d = some (.frz o (.dT kvs)))
    (fun i H x H' => ∃ (T q : Addr) (k : List Key) (v : V), kvs[i]? = some (k, v) ∧ x = .ref T ∧ H T = none ∧ H q = some (.tup (k.map kV)) ∧ H' = upd H T (.tup [.ref q, v])) :=
  ⟨fun _ _ hi q => ⟨q, hi⟩, fun _ q => ⟨q, Nat.le_refl _⟩, fun _ _ _ _ _ _ y => y⟩
end K91

namespace K91
open PySem PySem.Spec PyProof.Rows L2

/-! ### sorted(xs) of triples (text, text, int) -/
abbrev Tr := Str × Str × Int
def trD (t : Tr) : PyData := .tuple [.str t.1, .str t.2.1, .int t.2.2]
def trV (t : Tr) : List V := [.str t.1, .str t.2.1, .int t.2.2]
def leT (a b : Tr) : Bool := PySem.W.dataLe false trD a b
def sortT (l : List Tr) : List Tr := l.mergeSort leT
theorem keyToks_trD (t : Tr) : PySem.W.keyToks (trD t) = [.inl 1, .inr t.1.cps.toList, .inl 1, .inr t.2.1.cps.toList, .inl 1, .inl t.2.2, .inl 0] := by
  simp [trD, PySem.W.keyToks, PySem.W.keyToksAll]
theorem leT_eq (a b : Tr) : leT a b = !PySem.W.dataLt (trD b) (trD a) := rfl
theorem leT_trans (a b c : Tr) (h1 : leT a b = true) (h2 : leT b c = true) : leT a c = true := by
  rw [leT_eq] at h1 h2 ⊢
  simp only [Bool.not_eq_true'] at h1 h2 ⊢
  cases e : PySem.W.dataLt (trD c) (trD a) with
  | false => rfl
  | true =>
    rcases PyProof.Rows.lex_negTrans (O := itemOrd) _ (PySem.W.keyToks (trD b)) _ (show PyProof.Rows.lexLt itemOrd (PySem.W.keyToks (trD c)) (PySem.W.keyToks (trD a)) = true from e) with h | h
    · have : PySem.W.dataLt (trD c) (trD b) = true := h
      rw [h2] at this
      cases this
    · have : PySem.W.dataLt (trD b) (trD a) = true := h
      rw [h1] at this
      cases this
theorem leT_total (a b : Tr) : (leT a b || leT b a) = true := by
  rw [leT_eq, leT_eq]
  cases e : PySem.W.dataLt (trD b) (trD a) with
  | false => rfl
  | true =>
    cases e2 : PySem.W.dataLt (trD a) (trD b) with
    | false => rfl
    | true =>
      have := PyProof.Rows.lex_trans (O := itemOrd) _ _ _ (show PyProof.Rows.lexLt itemOrd (PySem.W.keyToks (trD b)) (PySem.W.keyToks (trD a)) = true from e) (show PyProof.Rows.lexLt itemOrd (PySem.W.keyToks (trD a)) (PySem.W.keyToks (trD b)) = true from e2)
      rw [PyProof.Rows.lex_irrefl] at this
      cases this
theorem str_ext {a b : Str} (h : a.cps.toList = b.cps.toList) : a = b := by
  cases a; cases b
  simp only [Str.mk.injEq]
  exact Array.toList_inj.mp h
theorem leT_anti (a b : Tr) (h1 : leT a b = true) (h2 : leT b a = true) : a = b := by
  rw [leT_eq] at h1 h2
  simp only [Bool.not_eq_true'] at h1 h2
  have e := PyProof.Rows.lex_total (O := itemOrd) _ _ (show PyProof.Rows.lexLt itemOrd (PySem.W.keyToks (trD b)) (PySem.W.keyToks (trD a)) = false from h1) (show PyProof.Rows.lexLt itemOrd (PySem.W.keyToks (trD a)) (PySem.W.keyToks (trD b)) = false from h2)
  rw [keyToks_trD, keyToks_trD] at e
  injection e with _ e
  injection e with e1 e
  injection e with _ e
  injection e with e2 e
  injection e with _ e
  injection e with e3 e
  injection e1 with e1
  injection e2 with e2
  injection e3 with e3
  obtain ⟨a1, a2, a3⟩ := a
  obtain ⟨b1, b2, b3⟩ := b
  simp only at e1 e2 e3
  rw [str_ext e1, str_ext e2, e3]
theorem sortT_perm (l : List Tr) : (sortT l).Perm l := List.mergeSort_perm l _
theorem sortT_uniq {l m : List Tr} (h : l.Perm m) : sortT l = sortT m := by
  have a := List.pairwise_mergeSort (le := leT) leT_trans leT_total l
  have b := List.pairwise_mergeSort (le := leT) leT_trans leT_total m
  exact List.Perm.eq_of_pairwise (le := fun x y => leT x y = true) (fun x y _ _ h1 h2 => leT_anti x y h1 h2) a b (((sortT_perm l).trans h).trans (sortT_perm m).symm)
theorem alike_trD (a b : Tr) : PySem.W.alike (trD a) (trD b) = true := by
  simp [trD, PySem.W.alike, PySem.W.alikeAll]
theorem depth_trD (a : Tr) : (trD a).depth = 1 := by
  simp [trD, PyData.depth, PyData.depthAll]
def rSortT (K : PySem.W.Frag) : List V → Hp → VK → Prop := fun vs H Q => ∃ (a : Addr) (xs : List V) (k : V → Tr), vs = [V.ref a] ∧ SqL K H a xs ∧ (∀ x ∈ xs, ∃ t, x = V.ref t ∧ H t = some (.tup (trV (k x)))) ∧
  ∀ ys p, ys.Perm xs → ys.map k = sortT (xs.map k) → H p = none → Q (.ref p) (upd H p (.lst ys))
section
variable {X : Cx}
theorem each_vals : ∀ {xs : List V} {its : List Value}, Vals xs its → PySem.W.EachIs (fun v b => RelV b v) its xs
  | _, _, .nil => .nil
  | _, _, .cons h t => .cons h (each_vals t)
theorem vals_each : ∀ {its : List Value} {xs : List V}, PySem.W.EachIs (fun v b => RelV b v) its xs → Vals xs its
  | _, _, .nil => .nil
  | _, _, .cons h t => .cons h (vals_each t)
theorem each_imp {α β : Type} {R R' : α → β → Prop} : ∀ {as : List α} {bs : List β}, (∀ a, ∀ b ∈ bs, R a b → R' a b) → PySem.W.EachIs R as bs → PySem.W.EachIs R' as bs
  | _, _, _, .nil => .nil
  | _, _, hm, .cons h t => .cons (hm _ _ List.mem_cons_self h) (each_imp (fun a b hb => hm a b (List.mem_cons_of_mem _ hb)) t)
theorem cr_sortT (hu : X.A.units + 8 < cLine) : CallR X (.builtin "sorted") (rSortT X.K) := by
  intro pins s σ H vs us Q I r h
  obtain ⟨a, xs, k, rfl, hs, hx, q⟩ := h
  obtain ⟨its, rv, hl, hz⟩ := I.list hs
  obtain ⟨u, rfl, ru⟩ := vals1 r
  obtain rfl : u = Value.ref a := ru
  have ev := each_vals rv
  have er : PySem.W.EachIs (fun v b => ∃ as, Reads s.heap v (trD (k b)) as) its xs := each_imp (fun v b hb hr => by
    obtain ⟨t, rfl, ht⟩ := hx b hb
    exact Dp.reads I (trD (k (V.ref t))) (V.ref t) v (.tup (SqT.of ht) (.cons (.str _) (.cons (.str _) (.cons (.int _) .nil)))) hr) ev
  refine PySem.W.sorted_data (β := V) (enc := fun x => trD (k x)) (R := fun v b => RelV b v) hl.isList ev er (PySem.W.AllAlike.of fun b b' => alike_trD _ _) (PySem.W.Sortable.tuples fun b => ⟨_, _, rfl⟩) hz (fun b _ => by show X.A.units + 2 + (trD (k b)).depth < cLine; rw [depth_trD]; omega) fun out ho eo => ?_
  have e : ∀ a b : V, PySem.W.dataLe false (fun x => trD (k x)) a b = leT (k a) (k b) := fun a b => rfl
  have hp : (xs.mergeSort (PySem.W.dataLe false fun x => trD (k x))).Perm xs := List.mergeSort_perm _ _
  obtain ⟨n, hn⟩ := sortedAll_at s.heap its out.toArray
  have hf := I.hok.fresh (Nat.le_succ s.heap.objs.size)
  have hm : (xs.mergeSort (PySem.W.dataLe false fun x => trD (k x))).map k = sortT (xs.map k) := List.map_mergeSort fun a _ b _ => e a b
  refine ⟨.ref (s.heap.objs.size + 1), upd H (s.heap.objs.size + 1) (.lst (xs.mergeSort (PySem.W.dataLe false fun x => trD (k x)))), I.laid (t' := s.toks) (fun b o e => sortedAll_old e) (Nat.le_succ _) ⟨?_, out, n, vals_each eo, hn⟩, rfl, q _ _ hp hm hf⟩
  rw [hp.length_eq]
  exact hz
end
end K91

namespace ZM
/-! the plain law of closed zones: tables, walks, closures -/
variable {α : Type} [DecidableEq α]
abbrev Tb (α : Type) := List ((α × α) × Int)
def getT (M : Tb α) (p : α × α) : Option Int := (M.find? fun e => decide (e.1 = p)).map (·.2)
def putT (M : Tb α) (p : α × α) (v : Int) : Tb α :=
  if (M.any fun e => decide (e.1 = p)) = true then M.map (fun e => if e.1 = p then (e.1, v) else e) else M ++ [(p, v)]
theorem getT_nil (p : α × α) : getT ([] : Tb α) p = none := rfl
theorem getT_cons (e : (α × α) × Int) (M : Tb α) (p : α × α) : getT (e :: M) p = if e.1 = p then some e.2 else getT M p := by
  unfold getT
  rw [List.find?_cons]
  by_cases h : e.1 = p
  · rw [if_pos h, decide_eq_true h]; rfl
  · rw [if_neg h, decide_eq_false h]
theorem getT_any (p : α × α) : ∀ M : Tb α, (M.any fun e => decide (e.1 = p)) = (getT M p).isSome
  | [] => rfl
  | e :: M => by
    rw [List.any_cons, getT_cons, getT_any p M]
    by_cases h : e.1 = p
    · rw [if_pos h, decide_eq_true h]; rfl
    · rw [if_neg h, decide_eq_false h]; rfl
theorem getT_map (p q : α × α) (v : Int) : ∀ M : Tb α, getT (M.map fun e => if e.1 = p then (e.1, v) else e) q = if q = p then (getT M q).map (fun _ => v) else getT M q
  | [] => by
    simp [getT_nil]
  | e :: M => by
    rw [List.map_cons, getT_cons, getT_cons, getT_map p q v M]
    by_cases h : e.1 = p
    · rw [if_pos h]
      by_cases h2 : q = p
      · rw [if_pos h2, if_pos h2, if_pos (by rw [h, h2]), if_pos (by rw [h, h2])]; rfl
      · rw [if_neg h2, if_neg h2, if_neg (by rw [h]; exact fun z => h2 z.symm), if_neg (by rw [h]; exact fun z => h2 z.symm)]
    · rw [if_neg h]
      by_cases h2 : q = p
      · rw [if_pos h2, if_pos h2, if_neg (by rw [h2]; exact h), if_neg (by rw [h2]; exact h)]
      · rw [if_neg h2, if_neg h2]
theorem getT_app (q p : α × α) (v : Int) : ∀ M : Tb α, getT (M ++ [(p, v)]) q = (getT M q).or (if p = q then some v else none)
  | [] => by
    show getT [(p, v)] q = _
    rw [getT_cons, getT_nil]
    rfl
  | e :: M => by
    rw [List.cons_append, getT_cons, getT_cons, getT_app q p v M]
    by_cases h : e.1 = q
    · rw [if_pos h, if_pos h]; rfl
    · rw [if_neg h, if_neg h]
theorem getT_put (M : Tb α) (p q : α × α) (v : Int) : getT (putT M p v) q = if q = p then some v else getT M q := by
  unfold putT
  rw [getT_any]
  cases e : getT M p with
  | some u =>
    rw [if_pos (show (some u).isSome = true from rfl), getT_map]
    by_cases h : q = p
    · rw [if_pos h, if_pos h, h, e]; rfl
    · rw [if_neg h, if_neg h]
  | none =>
    rw [if_neg (by simp), getT_app]
    by_cases h : q = p
    · rw [if_pos h, h, e, if_pos rfl]; rfl
    · rw [if_neg h, if_neg (fun z => h z.symm)]
      cases getT M q <;> rfl
theorem getT_none {p : α × α} : ∀ {M : Tb α}, getT M p = none ↔ p ∉ M.map (·.1)
  | [] => by simp [getT_nil]
  | e :: M => by
    rw [getT_cons]
    by_cases h : e.1 = p
    · rw [if_pos h]; simp [h]
    · rw [if_neg h, getT_none (M := M)]
      simp [List.map_cons, List.mem_cons, Ne.symm h]
theorem keys_put (M : Tb α) (p : α × α) (v : Int) : (putT M p v).map (·.1) = if p ∈ M.map (·.1) then M.map (·.1) else M.map (·.1) ++ [p] := by
  unfold putT
  rw [getT_any]
  cases e : getT M p with
  | some u =>
    have : p ∈ M.map (·.1) := by
      refine Classical.byContradiction fun z => ?_
      rw [getT_none.mpr z] at e; cases e
    rw [if_pos (show (some u).isSome = true from rfl), if_pos this, List.map_map]
    refine List.map_congr_left fun e _ => ?_
    show (if e.1 = p then (e.1, v) else e).1 = e.1
    by_cases h : e.1 = p
    · rw [if_pos h]
    · rw [if_neg h]
  | none =>
    rw [if_neg (by simp), if_neg (getT_none.mp e), List.map_append]
    rfl
theorem nodup_put {M : Tb α} (h : (M.map (·.1)).Nodup) (p : α × α) (v : Int) : ((putT M p v).map (·.1)).Nodup := by
  rw [keys_put]
  by_cases q : p ∈ M.map (·.1)
  · rw [if_pos q]; exact h
  · rw [if_neg q, List.nodup_append]
    refine ⟨h, by simp, fun a ha b hb z => ?_⟩
    rw [List.mem_singleton] at hb
    rw [z, hb] at ha
    exact q ha
theorem mem_get {M : Tb α} (h : (M.map (·.1)).Nodup) {e : (α × α) × Int} : e ∈ M ↔ getT M e.1 = some e.2 := by
  induction M with
  | nil => simp [getT_nil]
  | cons x M ih =>
    rw [List.map_cons, List.nodup_cons] at h
    rw [List.mem_cons, getT_cons, ih h.2]
    by_cases q : x.1 = e.1
    · rw [if_pos q]
      constructor
      · rintro (rfl | z)
        · rfl
        · have : getT M e.1 = none := getT_none.mpr (by rw [← q]; exact h.1)
          rw [this] at z; cases z
      · intro z
        refine .inl ?_
        obtain ⟨a, b⟩ := e
        obtain ⟨c, d⟩ := x
        simp only at q z
        cases z
        rw [q]
    · rw [if_neg q]
      constructor
      · rintro (rfl | z)
        · exact absurd rfl q
        · exact z
      · exact .inr

/-! ### lower tables -/
def Lo (M' M : Tb α) : Prop := ∀ p v, getT M p = some v → ∃ u, getT M' p = some u ∧ u ≤ v
theorem Lo.refl (M : Tb α) : Lo M M := fun p v h => ⟨v, h, Int.le_refl _⟩
theorem Lo.trans {A B C : Tb α} (h : Lo A B) (k : Lo B C) : Lo A C := fun p v e => by
  obtain ⟨u, e1, h1⟩ := k p v e
  obtain ⟨x, e2, h2⟩ := h p u e1
  exact ⟨x, e2, Int.le_trans h2 h1⟩
/-- the entry at p goes down to v, if that is less -/
def low (M : Tb α) (p : α × α) (v : Int) : Tb α := putT M p (min v ((getT M p).getD v))
theorem low_get (M : Tb α) (p q : α × α) (v : Int) : getT (low M p v) q = if q = p then some (min v ((getT M p).getD v)) else getT M q := getT_put ..
theorem low_lo (M : Tb α) (p : α × α) (v : Int) : Lo (low M p v) M := fun q u h => by
  rw [low_get]
  by_cases e : q = p
  · rw [if_pos e]
    subst e
    rw [h]
    exact ⟨_, rfl, Int.min_le_right _ _⟩
  · rw [if_neg e]
    exact ⟨u, h, Int.le_refl _⟩
theorem low_at (M : Tb α) (p : α × α) (v : Int) : ∃ u, getT (low M p v) p = some u ∧ u ≤ v := by
  rw [low_get, if_pos rfl]
  exact ⟨_, rfl, Int.min_le_left _ _⟩
theorem low_val {M : Tb α} {p q : α × α} {v u : Int} (h : getT (low M p v) q = some u) : getT M q = some u ∨ (q = p ∧ u = v) := by
  rw [low_get] at h
  by_cases e : q = p
  · rw [if_pos e] at h
    subst e
    cases g : getT M q with
    | none =>
      rw [g] at h
      simp at h
      exact .inr ⟨rfl, h.symm⟩
    | some x =>
      rw [g] at h
      simp at h
      rcases Int.le_total v x with z | z
      · rw [Int.min_eq_left z] at h
        exact .inr ⟨rfl, h.symm⟩
      · rw [Int.min_eq_right z] at h
        exact .inl (by rw [h])
  · rw [if_neg e] at h
    exact .inl h
theorem low_nodup {M : Tb α} (h : (M.map (·.1)).Nodup) (p : α × α) (v : Int) : ((low M p v).map (·.1)).Nodup := nodup_put h ..

/-! ### the two tables -/
abbrev Br (α : Type) := List (α × α × Int)
def addB (M : Tb α) (t : α × α × Int) : Tb α := low M (t.1, t.2.1) t.2.2
def stp (d : Bool) (m i j : α) (M : Tb α) : Tb α :=
  if (d || decide (i ≠ j)) = true then
    match getT M (i, m), getT M (m, j) with
    | some a, some b => low M (i, j) (a + b)
    | _, _ => M
  else M
def rowF (d : Bool) (m i : α) (ns : List α) (M : Tb α) : Tb α := ns.foldl (fun M j => stp d m i j M) M
def midF (d : Bool) (m : α) (ns : List α) (M : Tb α) : Tb α := ns.foldl (fun M i => rowF d m i ns M) M
def fwF (d : Bool) (ms ns : List α) (M : Tb α) : Tb α := ms.foldl (fun M m => midF d m ns M) M
def diag (ns : List α) : Tb α := ns.foldl (fun M x => putT M (x, x) 0) []
def negP (M : Tb α) : Bool := M.any fun e => match getT M (e.1.2, e.1.1) with | some b => decide (e.2 + b < 0) | none => false
def negD (ns : List α) (M : Tb α) : Bool := ns.any fun x => match getT M (x, x) with | some v => decide (v < 0) | none => false
def ctab (ns : List α) (B : Br α) : Tb α := fwF false ns ns (B.foldl addB [])
def ltab (ns : List α) (B : Br α) : Tb α := fwF true ns ns (B.foldl addB (diag ns))
def trs (M : Tb α) : Br α := M.map fun e => (e.1.1, e.1.2, e.2)
def Bok (ns : List α) (B : Br α) : Prop := ∀ t ∈ B, t.1 ∈ ns ∧ t.2.1 ∈ ns ∧ t.1 ≠ t.2.1

/-! ### walks -/
inductive W (B : Br α) : α → α → Int → Prop
  | one {i j : α} {k : Int} : (i, j, k) ∈ B → W B i j k
  | cat {i m j : α} {a b : Int} : W B i m a → W B m j b → W B i j (a + b)
theorem W.mono {B B' : Br α} (h : ∀ t ∈ B, W B' t.1 t.2.1 t.2.2) {i j : α} {v : Int} (w : W B i j v) : W B' i j v := by
  induction w with
  | one q => exact h _ q
  | cat _ _ a b => exact .cat a b
def Neg (B : Br α) : Prop := ∃ i v, W B i i v ∧ v < 0

/-! ### what a step keeps -/
structure Inv (d : Bool) (ns : List α) (B : Br α) (M : Tb α) : Prop where
  snd : ∀ i j v, getT M (i, j) = some v → W B i j v ∨ (d = true ∧ i = j ∧ v = 0)
  dom : ∀ i j v, getT M (i, j) = some v → i ∈ ns ∧ j ∈ ns ∧ (d = true ∨ i ≠ j)
  nod : (M.map (·.1)).Nodup
theorem Inv.low {d : Bool} {ns : List α} {B : Br α} {M : Tb α} (I : Inv d ns B M) {i j : α} {v : Int} (h1 : W B i j v ∨ (d = true ∧ i = j ∧ v = 0)) (h2 : i ∈ ns ∧ j ∈ ns ∧ (d = true ∨ i ≠ j)) : Inv d ns B (low M (i, j) v) := by
  refine ⟨fun a b u e => ?_, fun a b u e => ?_, low_nodup I.nod _ _⟩
  · rcases low_val e with q | ⟨q, rfl⟩
    · exact I.snd _ _ _ q
    · cases q
      exact h1
  · rcases low_val e with q | ⟨q, rfl⟩
    · exact I.dom _ _ _ q
    · cases q
      exact h2
theorem Inv.stp {d : Bool} {ns : List α} {B : Br α} {M : Tb α} (I : Inv d ns B M) (m i j : α) : Inv d ns B (stp d m i j M) := by
  unfold ZM.stp
  by_cases c : (d || decide (i ≠ j)) = true
  · rw [if_pos c]
    cases e1 : getT M (i, m) with
    | none => exact I
    | some a =>
      cases e2 : getT M (m, j) with
      | none => exact I
      | some b =>
        refine I.low ?_ ⟨(I.dom _ _ _ e1).1, (I.dom _ _ _ e2).2.1, ?_⟩
        · rcases I.snd _ _ _ e1 with w1 | ⟨hd, h1, rfl⟩
          · rcases I.snd _ _ _ e2 with w2 | ⟨_, h2, rfl⟩
            · exact .inl (.cat w1 w2)
            · subst h2
              rw [Int.add_zero]
              exact .inl w1
          · subst h1
            rw [Int.zero_add]
            exact I.snd _ _ _ e2
        · rw [Bool.or_eq_true, decide_eq_true_eq] at c
          exact c
  · rw [if_neg c]
    exact I
theorem stp_lo (d : Bool) (m i j : α) (M : Tb α) : Lo (stp d m i j M) M := by
  unfold stp
  by_cases c : (d || decide (i ≠ j)) = true
  · rw [if_pos c]
    cases e1 : getT M (i, m) with
    | none => exact Lo.refl _
    | some a =>
      cases e2 : getT M (m, j) with
      | none => exact Lo.refl _
      | some b => exact low_lo _ _ _
  · rw [if_neg c]
    exact Lo.refl _
theorem fold_inv {β γ : Type} (P : γ → Prop) (f : γ → β → γ) : ∀ (l : List β) (x : γ), P x → (∀ x, ∀ b ∈ l, P x → P (f x b)) → P (l.foldl f x)
  | [], _, h, _ => h
  | b :: l, x, h, s => fold_inv P f l (f x b) (s x b List.mem_cons_self h) fun y c hc hy => s y c (List.mem_cons_of_mem _ hc) hy
theorem fold_lo {β : Type} (f : Tb α → β → Tb α) (h : ∀ M b, Lo (f M b) M) : ∀ (l : List β) (M : Tb α), Lo (l.foldl f M) M
  | [], M => Lo.refl M
  | b :: l, M => (fold_lo f h l (f M b)).trans (h M b)
theorem rowF_lo (d : Bool) (m i : α) (ns : List α) (M : Tb α) : Lo (rowF d m i ns M) M := fold_lo _ (fun M b => stp_lo d m i b M) ns M
theorem midF_lo (d : Bool) (m : α) (ns : List α) (M : Tb α) : Lo (midF d m ns M) M := fold_lo _ (fun M b => rowF_lo d m b ns M) ns M
theorem fwF_lo (d : Bool) (ms ns : List α) (M : Tb α) : Lo (fwF d ms ns M) M := fold_lo _ (fun M b => midF_lo d b ns M) ms M
theorem Inv.row {d : Bool} {ns : List α} {B : Br α} {M : Tb α} (I : Inv d ns B M) (m i : α) (l : List α) : Inv d ns B (rowF d m i l M) := fold_inv _ _ l M I fun x b _ h => h.stp ..
theorem Inv.mid {d : Bool} {ns : List α} {B : Br α} {M : Tb α} (I : Inv d ns B M) (m : α) (l : List α) : Inv d ns B (midF d m l M) := fold_inv _ _ l M I fun x b _ h => h.row ..
theorem Inv.fw {d : Bool} {ns : List α} {B : Br α} {M : Tb α} (I : Inv d ns B M) (ms l : List α) : Inv d ns B (fwF d ms l M) := fold_inv _ _ ms M I fun x b _ h => h.mid ..

/-! ### one middle -/
structure Ph (m : α) (f g : Tb α) : Prop where
  col : ∀ i, getT g (i, m) = getT f (i, m)
  row : ∀ j, getT g (m, j) = getT f (m, j)
  val : ∀ i j v, getT g (i, j) = some v → getT f (i, j) = some v ∨ ∃ a b, getT f (i, m) = some a ∧ getT f (m, j) = some b ∧ v = a + b
  lo : Lo g f
theorem Ph.refl (m : α) (f : Tb α) : Ph m f f := ⟨fun _ => rfl, fun _ => rfl, fun _ _ _ h => .inl h, Lo.refl _⟩
theorem Ph.stp {d : Bool} {m : α} {f g : Tb α} (h : Ph m f g) (hm : ∀ c, getT f (m, m) = some c → 0 ≤ c) (i j : α) : Ph m f (stp d m i j g) := by
  unfold ZM.stp
  by_cases c : (d || decide (i ≠ j)) = true
  · rw [if_pos c]
    cases e1 : getT g (i, m) with
    | none => exact h
    | some a =>
      cases e2 : getT g (m, j) with
      | none => exact h
      | some b =>
        have f1 := (h.col i).symm.trans e1
        have f2 := (h.row j).symm.trans e2
        refine ⟨fun x => ?_, fun y => ?_, fun x y v e => ?_, (low_lo _ _ _).trans h.lo⟩
        · rw [low_get]
          by_cases q : (x, m) = (i, j)
          · rw [if_pos q]
            cases q
            rw [e1, f1]
            have := hm b f2
            simp only [Option.getD_some]
            rw [Int.min_eq_right (by omega)]
          · rw [if_neg q]
            exact h.col x
        · rw [low_get]
          by_cases q : (m, y) = (i, j)
          · rw [if_pos q]
            cases q
            rw [e2, f2]
            have := hm a f1
            simp only [Option.getD_some]
            rw [Int.min_eq_right (by omega)]
          · rw [if_neg q]
            exact h.row y
        · rcases low_val e with q | ⟨q, rfl⟩
          · exact h.val x y v q
          · cases q
            exact .inr ⟨a, b, f1, f2, rfl⟩
  · rw [if_neg c]
    exact h
theorem Ph.stp_ge {d : Bool} {m : α} {f g : Tb α} (h : Ph m f g) {i j : α} {a b : Int} (hd : d = true ∨ i ≠ j) (e1 : getT f (i, m) = some a) (e2 : getT f (m, j) = some b) : ∃ v, getT (ZM.stp d m i j g) (i, j) = some v ∧ v ≤ a + b := by
  unfold ZM.stp
  rw [if_pos (by rw [Bool.or_eq_true, decide_eq_true_eq]; exact hd), h.col i, h.row j, e1, e2]
  exact low_at _ _ _
def Ge (d : Bool) (m : α) (f g : Tb α) (i j : α) : Prop := ∀ a b, (d = true ∨ i ≠ j) → getT f (i, m) = some a → getT f (m, j) = some b → ∃ v, getT g (i, j) = some v ∧ v ≤ a + b
theorem Ge.lo {d : Bool} {m : α} {f g g' : Tb α} {i j : α} (h : Ge d m f g i j) (l : Lo g' g) : Ge d m f g' i j := fun a b hd e1 e2 => by
  obtain ⟨v, e, hv⟩ := h a b hd e1 e2
  obtain ⟨u, e', hu⟩ := l _ _ e
  exact ⟨u, e', Int.le_trans hu hv⟩
theorem Ph.row_all {d : Bool} {m : α} {f : Tb α} (hm : ∀ c, getT f (m, m) = some c → 0 ≤ c) (i : α) : ∀ (l : List α) {g : Tb α}, Ph m f g → Ph m f (rowF d m i l g) ∧ ∀ j ∈ l, Ge d m f (rowF d m i l g) i j
  | [], g, h => ⟨h, fun j z => absurd z (by simp)⟩
  | j :: l, g, h => by
    have h1 := h.stp (d := d) hm i j
    obtain ⟨h2, h3⟩ := Ph.row_all (d := d) hm i l h1
    refine ⟨h2, fun x hx => ?_⟩
    rcases List.mem_cons.mp hx with rfl | hx
    · have g1 : Ge d m f (ZM.stp d m i x g) i x := fun a b hd e1 e2 => h.stp_ge hd e1 e2
      exact g1.lo (rowF_lo d m i l _)
    · exact h3 x hx
theorem Ph.mid_all {d : Bool} {m : α} {f : Tb α} (hm : ∀ c, getT f (m, m) = some c → 0 ≤ c) (ns : List α) : ∀ (l : List α) {g : Tb α}, Ph m f g → Ph m f (l.foldl (fun M i => rowF d m i ns M) g) ∧ ∀ i ∈ l, ∀ j ∈ ns, Ge d m f (l.foldl (fun M i => rowF d m i ns M) g) i j
  | [], g, h => ⟨h, fun j z => absurd z (by simp)⟩
  | i :: l, g, h => by
    obtain ⟨h1, h1'⟩ := Ph.row_all (d := d) hm i ns h
    obtain ⟨h2, h3⟩ := Ph.mid_all (d := d) hm ns l h1
    refine ⟨h2, fun x hx j hj => ?_⟩
    rcases List.mem_cons.mp hx with rfl | hx
    · exact (h1' j hj).lo (fold_lo _ (fun M b => rowF_lo d m b ns M) l _)
    · exact h3 x hx j hj

/-! ### all the middles -/
/-- the table passes: no two entries there and back below 0; on the diagonal nothing below 0 -/
def Good (d : Bool) (M : Tb α) : Prop := if d = true then ∀ i v, getT M (i, i) = some v → 0 ≤ v else ∀ i j a b, getT M (i, j) = some a → getT M (j, i) = some b → 0 ≤ a + b
theorem Good.lo {d : Bool} {M M' : Tb α} (h : Good d M') (l : Lo M' M) : Good d M := by
  unfold Good at h ⊢
  cases d with
  | true =>
    rw [if_pos rfl] at h ⊢
    intro i v e
    obtain ⟨u, e', hu⟩ := l _ _ e
    exact Int.le_trans (h i u e') hu
  | false =>
    rw [if_neg (by simp)] at h ⊢
    intro i j a b e1 e2
    obtain ⟨a', e1', h1⟩ := l _ _ e1
    obtain ⟨b', e2', h2⟩ := l _ _ e2
    have := h i j a' b' e1' e2'
    omega
/-- what goes by ms is counted -/
def Via (d : Bool) (ms : List α) (M : Tb α) : Prop := ∀ m ∈ ms, ∀ i j a b, (d = true ∨ i ≠ j) → getT M (i, m) = some a → getT M (m, j) = some b → ∃ v, getT M (i, j) = some v ∧ v ≤ a + b
theorem Via.back {d : Bool} {ms : List α} {M : Tb α} (h : Via d ms M) (g : Good d M) {x m : α} {a b : Int} (hm : m ∈ ms) (e1 : getT M (x, m) = some a) (e2 : getT M (m, x) = some b) : 0 ≤ a + b := by
  unfold Good at g
  cases d with
  | true =>
    rw [if_pos rfl] at g
    obtain ⟨v, e, hv⟩ := h m hm x x a b (.inl rfl) e1 e2
    exact Int.le_trans (g x v e) hv
  | false =>
    rw [if_neg (by simp)] at g
    exact g x m a b e1 e2
theorem Via.mid {d : Bool} {ns ms : List α} {B : Br α} {M : Tb α} {m : α} (h : Via d ms M) (I : ZM.Inv d ns B M) (g : Good d M) : Via d (ms ++ [m]) (midF d m ns M) := by
  have hm : ∀ c, getT M (m, m) = some c → 0 ≤ c := fun c e => by
    unfold Good at g
    cases d with
    | true =>
      rw [if_pos rfl] at g
      exact g m c e
    | false =>
      rcases (I.dom _ _ _ e).2.2 with z | z
      · cases z
      · exact absurd rfl z
  obtain ⟨ph, ge⟩ := Ph.mid_all (d := d) hm ns ns (Ph.refl m M)
  have ph' : Ph m M (midF d m ns M) := ph
  have ge' : ∀ i ∈ ns, ∀ j ∈ ns, Ge d m M (midF d m ns M) i j := ge
  generalize midF d m ns M = G at ph' ge'
  intro x hx i j a b hd e1 e2
  -- by m itself
  have viaM : ∀ p q, getT M (i, m) = some p → getT M (m, j) = some q → ∃ v, getT G (i, j) = some v ∧ v ≤ p + q := fun p q f1 f2 => ge' i (I.dom _ _ _ f1).1 j (I.dom _ _ _ f2).2.1 p q hd f1 f2
  have low : ∀ v, getT M (i, j) = some v → ∃ u, getT G (i, j) = some u ∧ u ≤ v := fun v e => ph'.lo _ _ e
  rcases List.mem_append.mp hx with hy | hy
  · rcases ph'.val i x a e1 with f1 | ⟨a1, a2, f1, f1', rfl⟩
    · rcases ph'.val x j b e2 with f2 | ⟨b1, b2, f2, f2', rfl⟩
      · obtain ⟨v, e, hv⟩ := h x hy i j a b hd f1 f2
        obtain ⟨u, e', hu⟩ := low v e
        exact ⟨u, e', by omega⟩
      · -- i -> x -> m -> j
        by_cases q : i = m
        · subst q
          have z := h.back g hy f1 f2
          have : ∃ u, getT G (i, j) = some u ∧ u ≤ b2 := by
            rw [ph'.row j]
            exact ⟨b2, f2', Int.le_refl _⟩
          obtain ⟨u, e', hu⟩ := this
          exact ⟨u, e', by omega⟩
        · obtain ⟨v, e, hv⟩ := h x hy i m a b1 (.inr q) f1 f2
          obtain ⟨u, e', hu⟩ := viaM v b2 e f2'
          exact ⟨u, e', by omega⟩
    · rcases ph'.val x j b e2 with f2 | ⟨b1, b2, f2, f2', rfl⟩
      · -- i -> m -> x -> j
        by_cases q : m = j
        · subst q
          have z := h.back g hy f1' f2
          have : ∃ u, getT G (i, m) = some u ∧ u ≤ a1 := by
            rw [ph'.col i]
            exact ⟨a1, f1, Int.le_refl _⟩
          obtain ⟨u, e', hu⟩ := this
          exact ⟨u, e', by omega⟩
        · obtain ⟨v, e, hv⟩ := h x hy m j a2 b (.inr q) f1' f2
          obtain ⟨u, e', hu⟩ := viaM a1 v f1 e
          exact ⟨u, e', by omega⟩
      · have z := h.back g hy f1' f2
        obtain ⟨u, e', hu⟩ := viaM a1 b2 f1 f2'
        exact ⟨u, e', by omega⟩
  · rw [List.mem_singleton] at hy
    subst hy
    rw [ph'.col i] at e1
    rw [ph'.row j] at e2
    exact viaM a b e1 e2
theorem via_fw {d : Bool} {ns : List α} {B : Br α} : ∀ (ms pre : List α) {M : Tb α}, Via d pre M → ZM.Inv d ns B M → Good d (fwF d ms ns M) → Via d (pre ++ ms) (fwF d ms ns M)
  | [], pre, M, h, _, _ => by
    rw [List.append_nil]
    exact h
  | m :: ms, pre, M, h, I, g => by
    have g0 : Good d M := g.lo (fwF_lo d (m :: ms) ns M)
    have r := via_fw ms (pre ++ [m]) (h.mid I g0) (I.mid m ns) g
    rw [List.append_assoc] at r
    exact r
end ZM

namespace ZM
variable {α : Type} [DecidableEq α]
/-- closed over B -/
structure Cl (B : Br α) (f : Tb α) : Prop where
  bnd : ∀ t ∈ B, ∃ u, getT f (t.1, t.2.1) = some u ∧ u ≤ t.2.2
  tri : ∀ i m j a b, i ≠ j → getT f (i, m) = some a → getT f (m, j) = some b → ∃ v, getT f (i, j) = some v ∧ v ≤ a + b
  nc : ∀ i j a b, getT f (i, j) = some a → getT f (j, i) = some b → 0 ≤ a + b
/-- its entries are walks -/
def Snd (B : Br α) (f : Tb α) : Prop := ∀ i j v, i ≠ j → getT f (i, j) = some v → W B i j v
theorem Cl.walk {B : Br α} {f : Tb α} (c : Cl B f) (hB : ∀ t ∈ B, t.1 ≠ t.2.1) {i j : α} {v : Int} (w : W B i j v) : (i ≠ j → ∃ u, getT f (i, j) = some u ∧ u ≤ v) ∧ (i = j → 0 ≤ v) := by
  induction w with
  | one q => exact ⟨fun _ => c.bnd _ q, fun z => absurd z (hB _ q)⟩
  | @cat i m j a b _ _ h1 h2 =>
    by_cases e1 : i = m
    · subst e1
      have a0 := h1.2 rfl
      refine ⟨fun n => ?_, fun e => ?_⟩
      · obtain ⟨u, e, hu⟩ := h2.1 n
        exact ⟨u, e, by omega⟩
      · have := h2.2 e
        omega
    · obtain ⟨p, f1, hp⟩ := h1.1 e1
      by_cases e2 : m = j
      · subst e2
        have b0 := h2.2 rfl
        exact ⟨fun _ => ⟨p, f1, by omega⟩, fun z => absurd z e1⟩
      · obtain ⟨q, f2, hq⟩ := h2.1 e2
        refine ⟨fun n => ?_, fun e => ?_⟩
        · obtain ⟨u, f3, hu⟩ := c.tri i m j p q n f1 f2
          exact ⟨u, f3, by omega⟩
        · subst e
          have := c.nc i m p q f1 f2
          omega
theorem Cl.noNeg {B : Br α} {f : Tb α} (c : Cl B f) (hB : ∀ t ∈ B, t.1 ≠ t.2.1) : ¬ Neg B := fun ⟨i, v, w, hv⟩ => by
  have := (c.walk hB w).2 rfl
  omega
theorem Cl.uniq {B : Br α} {f g : Tb α} (c : Cl B f) (s : Snd B f) (c' : Cl B g) (s' : Snd B g) (hB : ∀ t ∈ B, t.1 ≠ t.2.1) {i j : α} (n : i ≠ j) : getT f (i, j) = getT g (i, j) := by
  cases e : getT f (i, j) with
  | some v =>
    obtain ⟨u, e', hu⟩ := (c'.walk hB (s i j v n e)).1 n
    obtain ⟨x, e2, hx⟩ := (c.walk hB (s' i j u n e')).1 n
    rw [e] at e2
    cases e2
    rw [e', Int.le_antisymm hx hu]
  | none =>
    cases e' : getT g (i, j) with
    | none => rfl
    | some u =>
      obtain ⟨x, e2, hx⟩ := (c.walk hB (s' i j u n e')).1 n
      rw [e] at e2
      cases e2
theorem Cl.same {B B' : Br α} {f : Tb α} (c : Cl B f) (h : ∀ t, t ∈ B' → t ∈ B) : Cl B' f := ⟨fun t ht => c.bnd t (h t ht), c.tri, c.nc⟩
theorem Snd.same {B B' : Br α} {f : Tb α} (c : Snd B f) (h : ∀ t, t ∈ B → t ∈ B') : Snd B' f := fun i j v n e => (c i j v n e).mono fun t ht => .one (h t ht)

/-! ### the tables are closed -/
theorem addB_start {d : Bool} {ns : List α} {B : Br α} (hB : Bok ns B) : ∀ (L : Br α) {M : Tb α}, (∀ t ∈ L, t ∈ B) → Inv d ns B M → Inv d ns B (L.foldl addB M) ∧ Lo (L.foldl addB M) M ∧ ∀ t ∈ L, ∃ u, getT (L.foldl addB M) (t.1, t.2.1) = some u ∧ u ≤ t.2.2
  | [], M, _, I => ⟨I, Lo.refl M, fun t h => absurd h (by simp)⟩
  | t :: L, M, h, I => by
    have ht := h t List.mem_cons_self
    obtain ⟨b1, b2, b3⟩ := hB t ht
    have I1 : Inv d ns B (addB M t) := I.low (.inl (.one ht)) ⟨b1, b2, .inr b3⟩
    obtain ⟨I2, l2, h2⟩ := addB_start hB L (fun x hx => h x (List.mem_cons_of_mem _ hx)) I1
    refine ⟨I2, l2.trans (low_lo _ _ _), fun x hx => ?_⟩
    rcases List.mem_cons.mp hx with rfl | hx
    · obtain ⟨u, e, hu⟩ := low_at M (x.1, x.2.1) x.2.2
      obtain ⟨y, e', hy⟩ := l2 _ _ e
      exact ⟨y, e', Int.le_trans hy hu⟩
    · exact h2 x hx
theorem inv_nil {d : Bool} {ns : List α} {B : Br α} : Inv d ns B ([] : Tb α) := ⟨fun i j v e => (by rw [getT_nil] at e; cases e), fun i j v e => (by rw [getT_nil] at e; cases e), List.nodup_nil⟩
theorem diag_get : ∀ (ns : List α) (M : Tb α) (x y : α), getT (ns.foldl (fun M x => putT M (x, x) 0) M) (x, y) = if x = y ∧ x ∈ ns then some 0 else getT M (x, y)
  | [], M, x, y => by simp
  | n :: ns, M, x, y => by
    rw [List.foldl_cons, diag_get ns, getT_put]
    by_cases h : x = y ∧ x ∈ ns
    · rw [if_pos h, if_pos ⟨h.1, List.mem_cons_of_mem _ h.2⟩]
    · rw [if_neg h]
      by_cases q : (x, y) = (n, n)
      · rw [if_pos q]
        cases q
        rw [if_pos ⟨rfl, List.mem_cons_self⟩]
      · rw [if_neg q, if_neg]
        rintro ⟨rfl, hx⟩
        rcases List.mem_cons.mp hx with rfl | hx
        · exact q rfl
        · exact h ⟨rfl, hx⟩
theorem diag_inv {ns : List α} {B : Br α} : Inv true ns B (diag ns) := by
  refine ⟨fun i j v e => ?_, fun i j v e => ?_, ?_⟩
  · unfold diag at e
    rw [diag_get] at e
    by_cases h : i = j ∧ i ∈ ns
    · rw [if_pos h] at e
      cases e
      exact .inr ⟨rfl, h.1, rfl⟩
    · rw [if_neg h, getT_nil] at e
      cases e
  · unfold diag at e
    rw [diag_get] at e
    by_cases h : i = j ∧ i ∈ ns
    · exact ⟨h.2, h.1 ▸ h.2, .inl rfl⟩
    · rw [if_neg h, getT_nil] at e
      cases e
  · exact fold_inv (fun M : Tb α => (M.map (·.1)).Nodup) _ ns [] List.nodup_nil fun M b _ h => nodup_put h _ _
theorem via_nil {d : Bool} {M : Tb α} : Via d [] M := fun m h => absurd h (by simp)
theorem ctab_inv {ns : List α} {B : Br α} (hB : Bok ns B) : Inv false ns B (ctab ns B) := (addB_start hB B (fun _ h => h) inv_nil).1.fw ns ns
theorem ltab_inv {ns : List α} {B : Br α} (hB : Bok ns B) : Inv true ns B (ltab ns B) := (addB_start hB B (fun _ h => h) diag_inv).1.fw ns ns
theorem ctab_snd {ns : List α} {B : Br α} (hB : Bok ns B) : Snd B (ctab ns B) := fun i j v n e => by
  rcases (ctab_inv hB).snd i j v e with w | ⟨z, _⟩
  · exact w
  · cases z
theorem ltab_snd {ns : List α} {B : Br α} (hB : Bok ns B) : Snd B (ltab ns B) := fun i j v n e => by
  rcases (ltab_inv hB).snd i j v e with w | ⟨_, z, _⟩
  · exact w
  · exact absurd z n
theorem ctab_cl {ns : List α} {B : Br α} (hB : Bok ns B) (h : negP (ctab ns B) = false) : Cl B (ctab ns B) := by
  have I := ctab_inv hB
  have g : Good false (ctab ns B) := by
    unfold Good
    rw [if_neg (by simp)]
    intro i j a b e1 e2
    unfold negP at h
    rw [List.any_eq_false] at h
    have := h ((i, j), a) ((mem_get I.nod).mpr e1)
    simp only [e2, decide_eq_true_eq] at this
    omega
  obtain ⟨I0, _, hb⟩ := addB_start (d := false) hB B (fun _ h => h) inv_nil
  have V : Via false ([] ++ ns) (ctab ns B) := via_fw ns [] via_nil I0 g
  rw [List.nil_append] at V
  refine ⟨fun t ht => ?_, fun i m j a b n e1 e2 => V m (I.dom _ _ _ e1).2.1 i j a b (.inr n) e1 e2, ?_⟩
  · obtain ⟨u, e, hu⟩ := hb t ht
    obtain ⟨y, e', hy⟩ := fwF_lo false ns ns _ _ _ e
    exact ⟨y, e', Int.le_trans hy hu⟩
  · unfold Good at g
    rw [if_neg (by simp)] at g
    exact g
theorem ltab_good {ns : List α} {B : Br α} (hB : Bok ns B) (h : negD ns (ltab ns B) = false) : Good true (ltab ns B) := by
  unfold Good
  rw [if_pos rfl]
  intro i v e
  unfold negD at h
  rw [List.any_eq_false] at h
  have := h i ((ltab_inv hB).dom _ _ _ e).1
  simp only [e, decide_eq_true_eq] at this
  omega
theorem ltab_via {ns : List α} {B : Br α} (hB : Bok ns B) (h : negD ns (ltab ns B) = false) : Via true ns (ltab ns B) := by
  obtain ⟨I0, _, hb⟩ := addB_start (d := true) hB B (fun _ h => h) diag_inv
  have V : Via true ([] ++ ns) (ltab ns B) := via_fw ns [] via_nil I0 (ltab_good hB h)
  rw [List.nil_append] at V
  exact V
theorem ltab_bnd {ns : List α} {B : Br α} (hB : Bok ns B) : ∀ t ∈ B, ∃ u, getT (ltab ns B) (t.1, t.2.1) = some u ∧ u ≤ t.2.2 := fun t ht => by
  obtain ⟨I0, _, hb⟩ := addB_start (d := true) hB B (fun _ h => h) diag_inv
  obtain ⟨u, e, hu⟩ := hb t ht
  obtain ⟨y, e', hy⟩ := fwF_lo true ns ns _ _ _ e
  exact ⟨y, e', Int.le_trans hy hu⟩
theorem ltab_cl {ns : List α} {B : Br α} (hB : Bok ns B) (h : negD ns (ltab ns B) = false) : Cl B (ltab ns B) := by
  have I := ltab_inv hB
  have V := ltab_via hB h
  have g := ltab_good hB h
  unfold Good at g
  rw [if_pos rfl] at g
  refine ⟨ltab_bnd hB, fun i m j a b n e1 e2 => V m (I.dom _ _ _ e1).2.1 i j a b (.inl rfl) e1 e2, fun i j a b e1 e2 => ?_⟩
  obtain ⟨v, e, hv⟩ := V j (I.dom _ _ _ e1).2.1 i i a b (.inl rfl) e1 e2
  exact Int.le_trans (g i v e) hv
/-- on the diagonal, at every name: some entry not above 0 -/
theorem ltab_diag {ns : List α} {B : Br α} (hB : Bok ns B) {x : α} (hx : x ∈ ns) : ∃ v, getT (ltab ns B) (x, x) = some v ∧ v ≤ 0 := by
  obtain ⟨I0, l0, hb⟩ := addB_start (d := true) hB B (fun _ h => h) (diag_inv (B := B))
  have e : getT (diag ns) (x, x) = some 0 := by
    unfold diag
    rw [diag_get, if_pos ⟨rfl, hx⟩]
  obtain ⟨u, e1, h1⟩ := l0 _ _ e
  obtain ⟨y, e2, h2⟩ := fwF_lo true ns ns _ _ _ e1
  exact ⟨y, e2, Int.le_trans h2 h1⟩
theorem ltab_diag0 {ns : List α} {B : Br α} (hB : Bok ns B) (h : negD ns (ltab ns B) = false) {x : α} (hx : x ∈ ns) : getT (ltab ns B) (x, x) = some 0 := by
  obtain ⟨v, e, hv⟩ := ltab_diag hB hx
  have g := ltab_good hB h
  unfold Good at g
  rw [if_pos rfl] at g
  rw [e, Int.le_antisymm hv (g x v e)]
theorem Bok.ne {ns : List α} {B : Br α} (hB : Bok ns B) : ∀ t ∈ B, t.1 ≠ t.2.1 := fun t h => (hB t h).2.2
theorem negP_iff {ns : List α} {B : Br α} (hB : Bok ns B) : negP (ctab ns B) = true ↔ Neg B := by
  constructor
  · intro h
    unfold negP at h
    obtain ⟨⟨⟨i, j⟩, a⟩, he, hc⟩ := List.any_eq_true.mp h
    have I := ctab_inv hB
    have e1 : getT (ctab ns B) (i, j) = some a := (mem_get I.nod).mp he
    simp only at hc
    cases e2 : getT (ctab ns B) (j, i) with
    | none => rw [e2] at hc; cases hc
    | some b =>
      rw [e2] at hc
      have hlt := of_decide_eq_true hc
      have n : i ≠ j := by
        rcases (I.dom _ _ _ e1).2.2 with z | z
        · cases z
        · exact z
      exact ⟨i, a + b, .cat (ctab_snd hB i j a n e1) (ctab_snd hB j i b (Ne.symm n) e2), hlt⟩
  · intro h
    cases e : negP (ctab ns B) with
    | true => rfl
    | false => exact absurd h ((ctab_cl hB e).noNeg hB.ne)
theorem negD_iff {ns : List α} {B : Br α} (hB : Bok ns B) : negD ns (ltab ns B) = true ↔ Neg B := by
  constructor
  · intro h
    unfold negD at h
    obtain ⟨x, hx, hc⟩ := List.any_eq_true.mp h
    cases e : getT (ltab ns B) (x, x) with
    | none => rw [e] at hc; cases hc
    | some v =>
      rw [e] at hc
      have hlt := of_decide_eq_true hc
      rcases (ltab_inv hB).snd x x v e with w | ⟨_, _, z⟩
      · exact ⟨x, v, w, hlt⟩
      · omega
  · intro h
    cases e : negD ns (ltab ns B) with
    | true => rfl
    | false => exact absurd h ((ltab_cl hB e).noNeg hB.ne)
theorem neg_false {p : Prop} {b : Bool} (h : b = true ↔ p) (n : ¬ p) : b = false := by
  cases b with
  | false => rfl
  | true => exact absurd (h.mp rfl) n

/-! ### as lists of triples -/
theorem mem_trs {M : Tb α} (h : (M.map (·.1)).Nodup) {t : α × α × Int} : t ∈ trs M ↔ getT M (t.1, t.2.1) = some t.2.2 := by
  unfold trs
  rw [List.mem_map]
  constructor
  · rintro ⟨e, he, rfl⟩
    exact (mem_get h).mp he
  · intro e
    exact ⟨((t.1, t.2.1), t.2.2), (mem_get h).mpr e, rfl⟩
theorem nodup_trs {M : Tb α} (h : (M.map (·.1)).Nodup) : (trs M).Nodup := by
  unfold trs
  unfold List.Nodup at h ⊢
  rw [List.pairwise_map] at h ⊢
  refine h.imp fun {a b} n e => n ?_
  obtain ⟨⟨a1, a2⟩, a3⟩ := a
  obtain ⟨⟨b1, b2⟩, b3⟩ := b
  simp only [Prod.mk.injEq] at e ⊢
  exact ⟨e.1, e.2.1⟩
theorem perm_of_mem {β : Type} [DecidableEq β] : ∀ {l m : List β}, l.Nodup → m.Nodup → (∀ x, x ∈ l ↔ x ∈ m) → l.Perm m
  | [], m, _, _, h => by
    cases m with
    | nil => exact List.Perm.refl _
    | cons y m => exact absurd ((h y).mpr List.mem_cons_self) (by simp)
  | x :: l, m, hl, hm, h => by
    rw [List.nodup_cons] at hl
    have hx : x ∈ m := (h x).mp List.mem_cons_self
    have p := List.perm_cons_erase hx
    have q : l.Perm (m.erase x) := perm_of_mem hl.2 (hm.erase x) fun y => by
      rw [hm.mem_erase_iff, ← h y, List.mem_cons]
      constructor
      · intro z
        exact ⟨fun e => hl.1 (by rw [← e]; exact z), .inr z⟩
      · rintro ⟨n, rfl | z⟩
        · exact absurd rfl n
        · exact z
    exact (q.cons x).trans p.symm
theorem perm_trs {f g : Tb α} (hf : (f.map (·.1)).Nodup) (hg : (g.map (·.1)).Nodup) (h : ∀ i j, getT f (i, j) = getT g (i, j)) : (trs f).Perm (trs g) :=
  perm_of_mem (nodup_trs hf) (nodup_trs hg) fun t => by rw [mem_trs hf, mem_trs hg, h]
/-- without the diagonal -/
def offD (M : Tb α) : Tb α := M.filter fun e => decide (e.1.1 ≠ e.1.2)
theorem offD_get : ∀ (M : Tb α) (i j : α), getT (offD M) (i, j) = if i = j then none else getT M (i, j)
  | [], i, j => by simp [offD, getT_nil]
  | e :: M, i, j => by
    have ih := offD_get M i j
    unfold offD at ih ⊢
    rw [List.filter_cons]
    by_cases h : e.1.1 ≠ e.1.2
    · rw [if_pos (decide_eq_true h), getT_cons, getT_cons, ih]
      by_cases q : e.1 = (i, j)
      · rw [if_pos q, if_pos q, if_neg]
        intro z
        rw [q] at h
        exact h z
      · rw [if_neg q, if_neg q]
    · rw [if_neg (by rw [decide_eq_true_eq]; exact h), getT_cons, ih]
      by_cases q : e.1 = (i, j)
      · rw [q] at h
        have : i = j := Classical.byContradiction fun z => h z
        rw [if_pos this, if_pos this]
      · rw [if_neg q]
theorem offD_nod {M : Tb α} (h : (M.map (·.1)).Nodup) : ((offD M).map (·.1)).Nodup := h.sublist ((List.filter_sublist).map _)
theorem tabs_perm {ns ns' : List α} {B B' : Br α} (hB : Bok ns B) (hB' : Bok ns' B') (hn : ¬ Neg B) (hm : ∀ t, t ∈ B' ↔ t ∈ B) : (trs (ctab ns B)).Perm (trs (offD (ltab ns' B'))) := by
  have hn' : ¬ Neg B' := fun ⟨i, v, w, hv⟩ => hn ⟨i, v, w.mono fun t ht => .one ((hm t).mp ht), hv⟩
  have c1 := ctab_cl hB (neg_false (negP_iff hB) hn)
  have c2 := (ltab_cl hB' (neg_false (negD_iff hB') hn')).same fun t => (hm t).mpr
  have s2 : Snd B (ltab ns' B') := (ltab_snd hB').same fun t => (hm t).mp
  refine perm_trs (ctab_inv hB).nod (offD_nod (ltab_inv hB').nod) fun i j => ?_
  rw [offD_get]
  by_cases e : i = j
  · rw [if_pos e]
    cases q : getT (ctab ns B) (i, j) with
    | none => rfl
    | some v =>
      rcases ((ctab_inv hB).dom _ _ _ q).2.2 with z | z
      · cases z
      · exact absurd e z
  · rw [if_neg e]
    exact c1.uniq (ctab_snd hB) c2 s2 hB.ne e
theorem ctab_perm {ns ns' : List α} {B B' : Br α} (hB : Bok ns B) (hB' : Bok ns' B') (hn : ¬ Neg B) (hm : ∀ t, t ∈ B' ↔ t ∈ B) : (trs (ctab ns B)).Perm (trs (ctab ns' B')) := by
  have hn' : ¬ Neg B' := fun ⟨i, v, w, hv⟩ => hn ⟨i, v, w.mono fun t ht => .one ((hm t).mp ht), hv⟩
  have c1 := ctab_cl hB (neg_false (negP_iff hB) hn)
  have c2 := (ctab_cl hB' (neg_false (negP_iff hB') hn')).same fun t => (hm t).mpr
  have s2 : Snd B (ctab ns' B') := (ctab_snd hB').same fun t => (hm t).mp
  refine perm_trs (ctab_inv hB).nod (ctab_inv hB').nod fun i j => ?_
  have off : ∀ {ns : List α} {B : Br α}, Bok ns B → ∀ i, getT (ctab ns B) (i, i) = none := fun {ns B} h i => by
    cases q : getT (ctab ns B) (i, i) with
    | none => rfl
    | some v =>
      rcases ((ctab_inv h).dom _ _ _ q).2.2 with z | z
      · cases z
      · exact absurd rfl z
  by_cases e : i = j
  · subst e
    rw [off hB, off hB']
  · exact c1.uniq (ctab_snd hB) c2 s2 hB.ne e
/-- the closure of a closure is itself -/
theorem trs_ok {ns : List α} {B : Br α} (hB : Bok ns B) : Bok ns (trs (ctab ns B)) := fun t ht => by
  obtain ⟨a, b, c⟩ := (ctab_inv hB).dom _ _ _ ((mem_trs (ctab_inv hB).nod).mp ht)
  refine ⟨a, b, ?_⟩
  rcases c with z | z
  · cases z
  · exact z
theorem ctab_again {ns ns' : List α} {B Z : Br α} (hB : Bok ns B) (hn : ¬ Neg B) (hZ : ∀ t, t ∈ Z ↔ t ∈ trs (ctab ns B)) (hZ' : Bok ns' Z) : ¬ Neg Z ∧ (trs (ctab ns' Z)).Perm (trs (ctab ns B)) := by
  have I := ctab_inv hB
  have c1 := ctab_cl hB (neg_false (negP_iff hB) hn)
  have cZ : Cl Z (ctab ns B) := ⟨fun t ht => ⟨_, (mem_trs I.nod).mp ((hZ t).mp ht), Int.le_refl _⟩, c1.tri, c1.nc⟩
  have sZ : Snd Z (ctab ns B) := fun i j v n e => .one ((hZ _).mpr ((mem_trs I.nod).mpr e))
  have nZ := cZ.noNeg hZ'.ne
  refine ⟨nZ, perm_trs (ctab_inv hZ').nod I.nod fun i j => ?_⟩
  have off : ∀ {ns : List α} {B : Br α}, Bok ns B → ∀ i, getT (ctab ns B) (i, i) = none := fun {ns B} h i => by
    cases q : getT (ctab ns B) (i, i) with
    | none => rfl
    | some v =>
      rcases ((ctab_inv h).dom _ _ _ q).2.2 with z | z
      · cases z
      · exact absurd rfl z
  by_cases e : i = j
  · subst e
    rw [off hB, off hZ']
  · exact (ctab_cl hZ' (neg_false (negP_iff hZ') nZ)).uniq (ctab_snd hZ') cZ sZ hZ'.ne e

/-! ### rows -/
def okR (B : Br α) (x : α → Int) : Prop := ∀ t ∈ B, x t.1 - x t.2.1 ≤ t.2.2
theorem W.row {B : Br α} {x : α → Int} (h : okR B x) {i j : α} {v : Int} (w : W B i j v) : x i - x j ≤ v := by
  induction w with
  | one q => exact h _ q
  | cat _ _ a b => omega
theorem Neg.row {B : Br α} (n : Neg B) (x : α → Int) : ¬ okR B x := fun h => by
  obtain ⟨i, v, w, hv⟩ := n
  have := w.row h
  omega
theorem okR_trs {ns : List α} {B : Br α} (hB : Bok ns B) (hn : ¬ Neg B) {Z : Br α} (hZ : ∀ t, t ∈ Z ↔ t ∈ trs (ctab ns B)) (x : α → Int) : okR Z x ↔ okR B x := by
  have I := ctab_inv hB
  have c := ctab_cl hB (neg_false (negP_iff hB) hn)
  constructor
  · intro h t ht
    obtain ⟨u, e, hu⟩ := c.bnd t ht
    have := h (t.1, t.2.1, u) ((hZ _).mpr ((mem_trs I.nod).mpr e))
    simp only at this
    omega
  · intro h t ht
    have e := (mem_trs I.nod).mp ((hZ t).mp ht)
    refine (ctab_snd hB _ _ _ ?_ e).row h
    rcases (I.dom _ _ _ e).2.2 with z | z
    · cases z
    · exact z
end ZM

namespace ZM
variable {α : Type} [DecidableEq α]
/-! ### walks edge by edge, to j -/
inductive E (B : Br α) (j : α) : α → Int → Prop
  | nil : E B j j 0
  | cons {i m : α} {k v : Int} : (i, m, k) ∈ B → E B j m v → E B j i (k + v)
/-- a walk, or nothing at all -/
def Z (B : Br α) (i j : α) (v : Int) : Prop := (i = j ∧ v = 0) ∨ W B i j v
theorem Z.cat {B : Br α} {i m j : α} {a b : Int} (h : Z B i m a) (k : Z B m j b) : Z B i j (a + b) := by
  rcases h with ⟨rfl, rfl⟩ | h
  · rw [Int.zero_add]; exact k
  · rcases k with ⟨rfl, rfl⟩ | k
    · rw [Int.add_zero]; exact .inr h
    · exact .inr (.cat h k)
theorem Z.edge {B : Br α} {i m : α} {k : Int} (h : (i, m, k) ∈ B) : Z B i m k := .inr (.one h)
theorem Z.self {B : Br α} (n : ¬ Neg B) {i : α} {v : Int} (h : Z B i i v) : 0 ≤ v := by
  rcases h with ⟨_, rfl⟩ | h
  · exact Int.le_refl _
  · exact Int.not_lt.mp fun z => n ⟨i, v, h, z⟩
theorem W.toE {B : Br α} {i j : α} {v : Int} (w : W B i j v) : ∀ {l : α} {c : Int}, E B l j c → E B l i (v + c) := by
  induction w with
  | one q => exact fun h => .cons q h
  | cat _ _ a b =>
    intro l c h
    have := a (b h)
    rw [← Int.add_assoc] at this
    exact this
theorem Z.toE {B : Br α} {i j : α} {v : Int} (h : Z B i j v) : E B j i v := by
  rcases h with ⟨rfl, rfl⟩ | h
  · exact .nil
  · have := h.toE .nil
    rw [Int.add_zero] at this
    exact this
/-- its nodes but the last -/
inductive SP (B : Br α) (j : α) : α → List α → Int → Prop
  | nil : SP B j j [] 0
  | cons {i m : α} {ns : List α} {k v : Int} : (i, m, k) ∈ B → SP B j m ns v → SP B j i (i :: ns) (k + v)
theorem SP.toZ {B : Br α} {i j : α} {ns : List α} {v : Int} (h : SP B j i ns v) : Z B i j v := by
  induction h with
  | nil => exact .inl ⟨rfl, rfl⟩
  | cons q _ ih => exact (Z.edge q).cat ih
theorem SP.cut {B : Br α} {j i m : α} {ns : List α} {w : Int} (h : SP B j m ns w) (hi : i ∈ ns ++ [j]) : ∃ ns2 w2 c, SP B j i ns2 w2 ∧ (ns2 ++ [j]).Sublist (ns ++ [j]) ∧ Z B m i c ∧ w = c + w2 := by
  induction h with
  | nil =>
    simp at hi
    subst hi
    exact ⟨[], 0, 0, .nil, List.Sublist.refl _, .inl ⟨rfl, rfl⟩, rfl⟩
  | @cons a m' ns k v q h ih =>
    by_cases e : i = a
    · subst e
      exact ⟨i :: ns, k + v, 0, .cons q h, List.Sublist.refl _, .inl ⟨rfl, rfl⟩, (Int.zero_add _).symm⟩
    · have hi' : i ∈ ns ++ [j] := by
        rcases List.mem_cons.mp (show i ∈ a :: (ns ++ [j]) from hi) with z | z
        · exact absurd z e
        · exact z
      obtain ⟨ns2, w2, c, h1, h2, h3, h4⟩ := ih hi'
      exact ⟨ns2, w2, k + c, h1, h2.trans (List.sublist_cons_self a _), (Z.edge q).cat h3, by omega⟩
theorem E.simple {B : Br α} (n : ¬ Neg B) {j i : α} {v : Int} (h : E B j i v) : ∃ ns w, SP B j i ns w ∧ (ns ++ [j]).Nodup ∧ w ≤ v := by
  induction h with
  | nil => exact ⟨[], 0, .nil, by simp, Int.le_refl _⟩
  | @cons i m k v q h ih =>
    obtain ⟨ns, w, h1, h2, h3⟩ := ih
    by_cases hi : i ∈ ns ++ [j]
    · obtain ⟨ns2, w2, c, g1, g2, g3, g4⟩ := h1.cut hi
      have := Z.self n ((Z.edge q).cat g3)
      exact ⟨ns2, w2, g1, h2.sublist g2, by omega⟩
    · exact ⟨i :: ns, k + w, .cons q h1, List.nodup_cons.mpr ⟨hi, h2⟩, by omega⟩
theorem SP.size {B : Br α} {X : Int} (hX : ∀ t ∈ B, -X ≤ t.2.2 ∧ t.2.2 ≤ X) {i j : α} {ns : List α} {v : Int} (h : SP B j i ns v) : -(ns.length * X) ≤ v ∧ v ≤ ns.length * X := by
  induction h with
  | nil => simp
  | @cons i m ns k v q h ih =>
    have := hX _ q
    simp only at this
    have e : ((i :: ns).length : Int) * X = ns.length * X + X := by
      rw [List.length_cons]
      rw [show ((ns.length + 1 : Nat) : Int) = (ns.length : Int) + 1 from rfl, Int.add_mul, Int.one_mul]
    rw [e]
    omega
theorem SP.names {B : Br α} {ns0 : List α} (hB : ∀ t ∈ B, t.1 ∈ ns0) {i j : α} {ns : List α} {v : Int} (h : SP B j i ns v) : ∀ x ∈ ns, x ∈ ns0 := by
  induction h with
  | nil => exact fun x z => absurd z (by simp)
  | cons q _ ih =>
    intro x hx
    rcases List.mem_cons.mp hx with rfl | hx
    · exact hB _ q
    · exact ih x hx
theorem len_sub {β : Type} [DecidableEq β] : ∀ {l m : List β}, l.Nodup → (∀ x ∈ l, x ∈ m) → l.length ≤ m.length
  | [], m, _, _ => Nat.zero_le _
  | x :: l, m, hl, h => by
    rw [List.nodup_cons] at hl
    have hx := h x List.mem_cons_self
    have := len_sub (l := l) (m := m.erase x) hl.2 fun y hy => (List.mem_erase_of_ne (fun e => hl.1 (by rw [← e]; exact hy))).mpr (h y (List.mem_cons_of_mem _ hy))
    have p : 0 < m.length := List.length_pos_of_mem hx
    rw [List.length_erase_of_mem hx] at this
    rw [List.length_cons]
    omega
/-- no walk is far below, some walk is not far above -/
theorem short {B : Br α} {ns0 : List α} (n : ¬ Neg B) {X : Int} (hX0 : 0 ≤ X) (hX : ∀ t ∈ B, -X ≤ t.2.2 ∧ t.2.2 ≤ X) (hB : ∀ t ∈ B, t.1 ∈ ns0) (h4 : ns0.length ≤ 4) {i j : α} {v : Int} (h : Z B i j v) : ∃ w, Z B i j w ∧ w ≤ v ∧ -(4 * X) ≤ w ∧ w ≤ 4 * X := by
  obtain ⟨ns, w, h1, h2, h3⟩ := h.toE.simple n
  have h5 := h1.size hX
  have h6 : ns.length ≤ 4 := Nat.le_trans (len_sub (h2.sublist (List.sublist_append_left _ _)) (h1.names hB)) h4
  have h7 : (ns.length : Int) * X ≤ 4 * X := Int.mul_le_mul_of_nonneg_right (by omega) hX0
  exact ⟨w, h1.toZ, h3, by omega, by omega⟩

/-! ### with an edge from every name to o, of weight F -/
theorem ext {B B' : Br α} {o : α} {F : Int} (h' : ∀ t ∈ B', t ∈ B ∨ (t.2.1 = o ∧ t.2.2 = F)) (hF : ∀ n u, Z B o n u → 0 ≤ u + F) {i j : α} {v : Int} (h : E B' j i v) :
    (∃ u, Z B i j u ∧ u ≤ v) ∨ ∃ n u w, Z B i n u ∧ Z B o j w ∧ u + F + w ≤ v := by
  induction h with
  | nil => exact .inl ⟨0, .inl ⟨rfl, rfl⟩, Int.le_refl _⟩
  | @cons i m k v q h ih =>
    rcases h' _ q with q | ⟨q1, q2⟩
    · rcases ih with ⟨u, z, hu⟩ | ⟨n, u, w, z, z', hu⟩
      · exact .inl ⟨k + u, (Z.edge q).cat z, by omega⟩
      · exact .inr ⟨n, k + u, w, (Z.edge q).cat z, z', by omega⟩
    · simp only at q1 q2
      subst q1 q2
      rcases ih with ⟨u, z, hu⟩ | ⟨n, u, w, z, z', hu⟩
      · exact .inr ⟨i, 0, u, .inl ⟨rfl, rfl⟩, z, by omega⟩
      · have := hF n u z
        exact .inr ⟨i, 0, w, .inl ⟨rfl, rfl⟩, z', by omega⟩
structure End (ns : List α) (B B' : Br α) (o : α) (X : Int) : Prop where
  ok : Bok ns B
  ok' : Bok ns B'
  four : ns.length ≤ 4
  x0 : 0 ≤ X
  x : ∀ t ∈ B, -X ≤ t.2.2 ∧ t.2.2 ≤ X
  n : ¬ Neg B
  old : ∀ t ∈ B, t ∈ B'
  new : ∀ t ∈ B', t ∈ B ∨ (t.2.1 = o ∧ t.2.2 = 10 * (1 + X))
  all : ∀ m ∈ ns, m ≠ o → (m, o, 10 * (1 + X)) ∈ B'
  o : o ∈ ns
namespace End
variable {ns : List α} {B B' : Br α} {o : α} {X : Int}
theorem lowZ (e : End ns B B' o X) {i j : α} {v : Int} (h : Z B i j v) : -(4 * X) ≤ v := by
  obtain ⟨w, _, h1, h2, _⟩ := short e.n e.x0 e.x (fun t ht => (e.ok t ht).1) e.four h
  omega
theorem far (e : End ns B B' o X) {i j : α} {v : Int} (h : Z B' i j v) : (∃ u, Z B i j u ∧ u ≤ v) ∨ ∃ n u w, Z B i n u ∧ Z B o j w ∧ u + 10 * (1 + X) + w ≤ v :=
  ext e.new (fun n u z => by have := e.lowZ z; have := e.x0; omega) h.toE
theorem n' (e : End ns B B' o X) : ¬ Neg B' := fun ⟨i, v, w, hv⟩ => by
  rcases e.far (.inr w) with ⟨u, z, hu⟩ | ⟨n, u, w, z, z', hu⟩
  · have := z.self e.n
    omega
  · have := e.lowZ z
    have := e.lowZ z'
    have := e.x0
    omega
theorem negD' (e : End ns B B' o X) : negD ns (ltab ns B') = false := neg_false (negD_iff e.ok') e.n'
/-- the entry of x to o -/
theorem entry (e : End ns B B' o X) {x : α} (hx : x ∈ ns) : ∃ v, getT (ltab ns B') (x, o) = some v := by
  by_cases q : x = o
  · rw [q]
    exact ⟨0, ltab_diag0 e.ok' e.negD' e.o⟩
  · obtain ⟨u, h, _⟩ := ltab_bnd e.ok' _ (e.all x hx q)
    exact ⟨u, h⟩
theorem row (e : End ns B B' o X) {y : α → Int} (hy : ∀ x ∈ ns, getT (ltab ns B') (x, o) = some (y x)) : okR B y := fun t ht => by
  obtain ⟨b1, b2, _⟩ := e.ok t ht
  obtain ⟨u, h, hu⟩ := ltab_bnd e.ok' t (e.old t ht)
  obtain ⟨v, h2, hv⟩ := ltab_via e.ok' e.negD' t.2.1 b2 t.1 o u (y t.2.1) (.inl rfl) h (hy _ b2)
  rw [hy _ b1] at h2
  cases h2
  omega
/-- at an entry of B's closure to o it is that entry -/
theorem tight (e : End ns B B' o X) {i : α} {k v : Int} (n : i ≠ o) (hk : getT (ctab ns B) (i, o) = some k) (hv : getT (ltab ns B') (i, o) = some v) : v = k := by
  have w := ctab_snd e.ok i o k n hk
  have c := ctab_cl e.ok (neg_false (negP_iff e.ok) e.n)
  have min : ∀ u, Z B i o u → k ≤ u := fun u z => by
    rcases z with ⟨z, _⟩ | z
    · exact absurd z n
    · obtain ⟨x, h, hx⟩ := (c.walk e.ok.ne z).1 n
      rw [hk] at h
      cases h
      exact hx
  obtain ⟨s, s1, s2, s3, s4⟩ := short e.n e.x0 e.x (fun t ht => (e.ok t ht).1) e.four (.inr w : Z B i o k)
  have hks := min s s1
  refine Int.le_antisymm ?_ ?_
  · obtain ⟨x, h, hx⟩ := ((ltab_cl e.ok' e.negD').walk e.ok'.ne (w.mono fun t ht => .one (e.old t ht))).1 n
    rw [hv] at h
    cases h
    exact hx
  · rcases e.far (.inr (ltab_snd e.ok' i o v n hv)) with ⟨u, z, hu⟩ | ⟨m, u, w, z, z', hu⟩
    · exact Int.le_trans (min u z) hu
    · have h1 := e.lowZ z
      have h2 := z'.self e.n
      have := e.x0
      omega
end End
end ZM

namespace K91
open PySem PySem.Spec PyProof.Rows L2
open ZM (getT putT)

/-! ### tables as dicts -/
abbrev Pk := Str × Str
abbrev Tb := List (Pk × Int)
def encP (p : Pk) : List Key := [Sum.inr p.1, Sum.inr p.2]
def dTb (M : Tb) : List (List Key × V) := M.map fun e => (encP e.1, V.int e.2)
theorem encP_inj {p q : Pk} (h : encP p = encP q) : p = q := by
  obtain ⟨a, b⟩ := p
  obtain ⟨c, d⟩ := q
  simp only [encP, List.cons.injEq, Sum.inr.injEq, and_true] at h
  rw [h.1, h.2]
theorem encP_iff {p q : Pk} : encP p = encP q ↔ p = q := ⟨encP_inj, fun e => by rw [e]⟩
theorem dTb_val (p : Pk) : ∀ M : Tb, valV (dTb M) (encP p) = (getT M p).map V.int
  | [] => rfl
  | e :: M => by
    have ih := dTb_val p M
    unfold dTb at ih ⊢
    rw [List.map_cons, ZM.getT_cons]
    by_cases h : e.1 = p
    · rw [if_pos h, valV_pos (by show encP e.1 = encP p; rw [h])]; rfl
    · rw [if_neg h, valV_neg (fun z => h (encP_inj z)), ih]
theorem dTb_any (p : Pk) (M : Tb) : ((dTb M).any fun kv => decide (kv.1 = encP p)) = (M.any fun e => decide (e.1 = p)) := by
  unfold dTb
  rw [List.any_map]
  congr 1
  funext e
  show decide (encP e.1 = encP p) = decide (e.1 = p)
  rw [decide_eq_decide]
  exact encP_iff
theorem dTb_put (M : Tb) (p : Pk) (v : Int) : putK (dTb M) (encP p) (.int v) = dTb (putT M p v) := by
  unfold putK putT
  rw [dTb_any]
  by_cases h : (M.any fun e => decide (e.1 = p)) = true
  · rw [if_pos h, if_pos h]
    unfold dTb
    rw [List.map_map, List.map_map]
    refine List.map_congr_left fun e _ => ?_
    show (if encP e.1 = encP p then (encP e.1, V.int v) else (encP e.1, V.int e.2)) = (encP (if e.1 = p then (e.1, v) else e).1, V.int (if e.1 = p then (e.1, v) else e).2)
    by_cases q : e.1 = p
    · rw [if_pos q, if_pos (encP_iff.mpr q)]
    · rw [if_neg q, if_neg (fun z => q (encP_inj z))]
  · rw [if_neg h, if_neg h]
    unfold dTb
    rw [List.map_append]
    rfl
theorem dTb_len (M : Tb) : (dTb M).length = M.length := by
  unfold dTb
  rw [List.length_map]
theorem small16 {n : Nat} (h : n ≤ 16) : n < sizeLine := by
  have : (16 : Nat) < sizeLine := by decide
  omega
/-- at most four names: at most sixteen entries -/
theorem inv_len {d : Bool} {ns : List Str} {B : ZM.Br Str} {M : Tb} (I : ZM.Inv d ns B M) (h : ns.length ≤ 4) : M.length ≤ 16 := by
  have e : ∀ p ∈ M.map (·.1), p ∈ ns.flatMap fun i => ns.map fun j => (i, j) := fun p hp => by
    obtain ⟨x, hx, rfl⟩ := List.mem_map.mp hp
    obtain ⟨a, b, _⟩ := I.dom x.1.1 x.1.2 x.2 ((ZM.mem_get I.nod).mp hx)
    exact List.mem_flatMap.mpr ⟨x.1.1, a, List.mem_map.mpr ⟨x.1.2, b, rfl⟩⟩
  have l := ZM.len_sub I.nod e
  rw [List.length_map, List.length_flatMap] at l
  have e2 : (List.map (fun a => (List.map (fun j => (a, j)) ns).length) ns).sum = ns.length * ns.length := by
    have : (fun a : Str => (List.map (fun j => (a, j)) ns).length) = fun _ => ns.length := funext fun a => List.length_map _
    rw [this, List.map_const', List.sum_replicate_nat]
  rw [e2] at l
  have : ns.length * ns.length ≤ 4 * 4 := Nat.mul_le_mul h h
  omega
/-- the table stands at d -/
abbrev TabAt (H : Hp) (d : Addr) (M : Tb) : Prop := H d = some (.dT (dTb M))
theorem get_tab {H : Hp} {d b : Addr} {M : Tb} {p : Pk} (h : TabAt H d M) (hb : H b = some (.tup [.str p.1, .str p.2])) : DGet H d (.ref b) ((getT M p).map V.int) := by
  have := DGet.t (k := encP p) h hb
  rw [dTb_val] at this
  exact this
theorem get_tabF {H : Hp} {d b : Addr} {o : Obj} {M : Tb} {p : Pk} (h : H d = some (.frz o (.dT (dTb M)))) (hb : H b = some (.tup [.str p.1, .str p.2])) : DGet H d (.ref b) ((getT M p).map V.int) := by
  refine .inr ⟨dTb M, encP p, b, .inr ⟨o, h⟩, rfl, hb, ?_⟩
  rw [dTb_val]
theorem put_tab {H : Hp} {d b : Addr} {M : Tb} {p : Pk} {v : Int} (h : TabAt H d M) (hb : H b = some (.tup [.str p.1, .str p.2])) (hl : M.length ≤ 16) : DPut H d (.ref b) (.int v) (upd H d (.dT (dTb (putT M p v)))) := by
  have := DPut.t (k := encP p) (v := .int v) h hb (by rw [dTb_len]; exact small16 hl)
  rw [dTb_put] at this
  exact this

/-! ### bounds -/
def TrAt (H : Hp) (v : V) (t : Tr) : Prop := ∃ p, v = .ref p ∧ H p = some (.tup (trV t))
inductive TrAll (H : Hp) : List V → List Tr → Prop
  | nil : TrAll H [] []
  | cons {v : V} {vs : List V} {t : Tr} {ts : List Tr} : TrAt H v t → TrAll H vs ts → TrAll H (v :: vs) (t :: ts)
theorem TrAll.kp {H H' : Hp} (k : Kp H H') : ∀ {vs : List V} {ts : List Tr}, TrAll H vs ts → TrAll H' vs ts
  | _, _, .nil => .nil
  | _, _, .cons ⟨p, e, h⟩ r => .cons ⟨p, e, k _ _ h⟩ (r.kp k)
theorem TrAll.len {H : Hp} : ∀ {vs : List V} {ts : List Tr}, TrAll H vs ts → vs.length = ts.length
  | _, _, .nil => rfl
  | _, _, .cons _ r => by rw [List.length_cons, List.length_cons, r.len]
theorem TrAll.get {H : Hp} : ∀ {vs : List V} {ts : List Tr} {i : Nat} {v : V}, TrAll H vs ts → vs[i]? = some v → ∃ t, ts[i]? = some t ∧ TrAt H v t
  | _, _, i, v, .nil, e => by simp at e
  | _, _, 0, v, .cons h r, e => by
    simp at e
    subst e
    exact ⟨_, rfl, h⟩
  | _, _, i + 1, v, .cons h r, e => by
    have := r.get (i := i) (v := v) (by simpa using e)
    simpa using this
theorem TrAll.app {H : Hp} : ∀ {vs ws : List V} {ts us : List Tr}, TrAll H vs ts → TrAll H ws us → TrAll H (vs ++ ws) (ts ++ us)
  | _, _, _, _, .nil, h => h
  | _, _, _, _, .cons a r, h => .cons a (r.app h)
theorem TrAll.rev {H : Hp} : ∀ {vs : List V} {ts : List Tr}, TrAll H vs ts → TrAll H vs.reverse ts.reverse
  | _, _, .nil => .nil
  | _, _, .cons a r => by
    rw [List.reverse_cons, List.reverse_cons]
    exact r.rev.app (.cons a .nil)
theorem TrAll.drop {H : Hp} : ∀ {vs : List V} {ts : List Tr} (n : Nat), TrAll H vs ts → TrAll H (vs.drop n) (ts.drop n)
  | _, _, 0, h => h
  | _, _, n + 1, .nil => .nil
  | _, _, n + 1, .cons a r => r.drop n
theorem TrAll.take {H : Hp} : ∀ {vs : List V} {ts : List Tr} (n : Nat), TrAll H vs ts → TrAll H (vs.take n) (ts.take n)
  | _, _, 0, h => .nil
  | _, _, n + 1, .nil => .nil
  | _, _, n + 1, .cons a r => .cons a (r.take n)
/-- the tuple of triples at a -/
def Bds (H : Hp) (a : Addr) (B : List Tr) : Prop := ∃ xs, H a = some (.tup xs) ∧ TrAll H xs B
theorem Bds.kp {H H' : Hp} {a : Addr} {B : List Tr} (h : Bds H a B) (k : Kp H H') : Bds H' a B := by
  obtain ⟨xs, e, r⟩ := h
  exact ⟨xs, k _ _ e, r.kp k⟩
/-- the tuple of names at a (its object is known: for .index) -/
def Cols (H : Hp) (a : Addr) (cs : List Str) : Prop := ∃ o : Obj, H a = some (.frz o (.tup (cs.map V.str))) ∧ o.dict = none
theorem Cols.sq {K : PySem.W.Frag} {H : Hp} {a : Addr} {cs : List Str} (h : Cols H a cs) : SqT K H a (cs.map V.str) := by
  obtain ⟨o, h, _⟩ := h
  exact .inl (.inr ⟨o, h⟩)
theorem Cols.sm {D : List Addr} {H H' : Hp} {a : Addr} {cs : List Str} (h : Cols H a cs) (s : Sm D H H') (n : a ∉ D) : Cols H' a cs := by
  obtain ⟨o, h, e⟩ := h
  exact ⟨o, s _ _ h n, e⟩
end K91

namespace K91
open PySem PySem.Spec PyProof.Rows L2
open ZM (getT putT)

structure Gn (mg : Str → Option Value) : Prop where
  nothing : ∃ t, mg "NOTHING" = some (.str ("" : Str) t)
  parts : ∃ t, mg "BOUND_PARTS" = some (.int 3 t)

theorem fold_take {α β : Type} {f : β → α → β} {b : β} {l : List α} {i : Nat} {x : α} (h : l[i]? = some x) : (l.take (i + 1)).foldl f b = f ((l.take i).foldl f b) x := by
  rw [List.take_add_one, h, Option.toList_some, List.foldl_append]
  rfl
theorem str_at {cs : List Str} {i : Nat} {x : V} (h : (cs.map V.str)[i]? = some x) : ∃ z, cs[i]? = some z ∧ x = .str z := by
  rw [List.getElem?_map] at h
  cases e : cs[i]? with
  | none => rw [e] at h; cases h
  | some z =>
    rw [e] at h
    exact ⟨z, rfl, (Option.some.inj h).symm⟩
theorem min_if (k v : Int) : (if v < k then v else k) = min k v := by
  by_cases h : v < k
  · rw [if_pos h]; omega
  · rw [if_neg h]; omega
theorem getD_int (o : Option Int) (k : Int) : ((o.map V.int).getD (.int k)) = .int (o.getD k) := by cases o <;> rfl
/-- while the table is made: what stays, where it stands -/
structure Fr (H : Hp) (nA d : Addr) (ns : List Str) (M : Tb) (H' : Hp) : Prop where
  sm : Sm [] H H'
  nA : H' nA = some (.tup (ns.map V.str))
  tab : TabAt H' d M
  new : H d = none
theorem Fr.add {H H' : Hp} {nA d : Addr} {ns : List Str} {M : Tb} (f : Fr H nA d ns M H') {p : Addr} {o : HO} (hp : H' p = none) : Fr H nA d ns M (upd H' p o) :=
  ⟨f.sm.new hp, by rw [upd_ne (ne_of_none f.nA hp)]; exact f.nA, by show upd H' p o d = _; rw [upd_ne (ne_of_none f.tab hp)]; exact f.tab, f.new⟩
theorem Fr.put {H H' : Hp} {nA d : Addr} {ns : List Str} {M M' : Tb} (f : Fr H nA d ns M H') : Fr H nA d ns M' (upd H' d (.dT (dTb M'))) :=
  ⟨f.sm.own f.new, by rw [upd_ne (ne_of f.nA f.tab (by intro z; cases z))]; exact f.nA, upd_same, f.new⟩
theorem Sm.trans' {H H' : Hp} {d : Addr} (s : Sm [d] H H') (h : H d = none) : Sm [] H H' := fun b o e _ => s b o e fun z => by
  have : b = d := by simpa using z
  rw [this, h] at e
  cases e
abbrev sCt : Stmt := topS 7
theorem scCt : FnScope ["columns", "bounds", "names", "table", "one", "other", "k", "middle"] ["columns", "bounds"] (defScope sCt) := ⟨rfl, rfl, rfl, by decide +kernel, rfl, by decide +kernel, by decide +kernel⟩
section
variable {P : Program} {w : World} {K : PySem.W.Frag} {mg : Str → Option Value} {base : Heap}
def spCt (K : PySem.W.Frag) : Sp := fun vs H Q _ => ∃ (a b : Addr) (cs : List Str) (B : List Tr), vs = [.ref a, .ref b] ∧ SqT K H a (cs.map V.str) ∧ Bds H b B ∧ ZM.Bok (("" : Str) :: cs) B ∧ cs.length ≤ 3 ∧
  (ZM.negP (ZM.ctab (("" : Str) :: cs) B) = true → ∀ H', Sm [] H H' → Q .non H') ∧
  (ZM.negP (ZM.ctab (("" : Str) :: cs) B) = false → ∀ d H', Sm [] H H' → H d = none → TabAt H' d (ZM.ctab (("" : Str) :: cs) B) → Q (.ref d) H')
abbrev Lp (a b nA d : Addr) (y4 y5 y6 y7 : Option V) : L2.St := [some (.ref a), some (.ref b), some (.ref nA), some (.ref d), y4, y5, y6, y7]
theorem min_put {D : Ends} {H H' : Hp} {a b nA d : Addr} {ns : List Str} {M : Tb} {i j : Str} {k : Int} {y7 : Option V} (f : Fr H nA d ns M H') (hl : M.length ≤ 16)
    (q : ∀ H2, Fr H nA d ns (ZM.low M (i, j) k) H2 → D.nx (Lp a b nA d (some (.str i)) (some (.str j)) (some (.int k)) y7) H2) :
    sDPut (tVar 3) (tTup (tCons (tVar 4) (tCons (tVar 5) tNil))) (tCB (fun xs H Q => ∃ i j, xs = [.int i, .int j] ∧ Q (.int (if j < i then j else i)) H) (tCons (tVar 6) (tCons (tDGet2 (tVar 3) (tTup (tCons (tVar 4) (tCons (tVar 5) tNil))) (tVar 6)) tNil))) D
      (Lp a b nA d (some (.str i)) (some (.str j)) (some (.int k)) y7) H' := by
  refine ⟨.int k, rfl, .ref d, rfl, d, rfl, .inr ⟨_, .inl f.tab⟩, .str i, rfl, .str j, rfl, by show 2 ≤ sizeLine; decide, fun p hp => ?_⟩
  have f1 : Fr H nA d ns M (upd H' p (.tup [.str i, .str j])) := f.add hp
  have e1 : (upd H' p (.tup [.str i, .str j])) p = some (.tup [.str i, .str j]) := upd_same
  generalize upd H' p (.tup [.str i, .str j]) = H1 at f1 e1
  refine ⟨.int k, rfl, _, get_tab (p := (i, j)) f1.tab e1, ?_⟩
  rw [getD_int]
  refine ⟨k, _, rfl, ?_⟩
  rw [min_if]
  refine ⟨.ref d, rfl, .str i, rfl, .str j, rfl, by show 2 ≤ sizeLine; decide, fun p2 hp2 => ?_⟩
  have f2 : Fr H nA d ns M (upd H1 p2 (.tup [.str i, .str j])) := f1.add hp2
  have e2 : (upd H1 p2 (.tup [.str i, .str j])) p2 = some (.tup [.str i, .str j]) := upd_same
  generalize upd H1 p2 (.tup [.str i, .str j]) = H2 at f2 e2
  exact ⟨d, _, rfl, put_tab (p := (i, j)) f2.tab e2 hl, q _ f2.put⟩
theorem ok_ct {f : Addr} {fd : FuncData} (F : Fun K "closed_table" "closed_table" sCt f fd) (B : Bn mg) (G : Gn mg) : FnOk P w K mg base CX0 1 f fd ["columns", "bounds"] (spCt K) := by
  refine F.ok scCt (fun vs H Q E h => ?_) (fun cdv A outer s H vs Q E hr h => ?_)
  · obtain ⟨a, b, cs, L, rfl, _⟩ := h
    rfl
  · obtain ⟨a, b, cs, L, rfl, hA, hB, hO, hl, qN, qT⟩ := h
    have nd := scCt.nd
    have hu := hu_of hr
    obtain ⟨tN, eN⟩ := G.nothing
    refine ⟨_, pss_cons (ps_par (i := 2) (j := 3) rfl nd rfl rfl (by decide) rfl rfl (pa_cons (pe_tup (pa_cons (pe_glob (v := .str ("" : Str)) (by rfl) eN ⟨tN, rfl⟩) (StX.pa_star (pv 0) pa_nil))) (pa_cons pe_dnewT pa_nil)) (by rfl))
      (pss_cons (ps_for PassesOwn.never rfl (pi_tup (pv 1)) (pg_tup rfl (pgs_cons (pg_name (i := 4) nd rfl (.inl rfl)) (pgs_cons (pg_name (i := 5) nd rfl (.inl rfl)) (pgs_cons (pg_name (i := 6) nd rfl (.inl rfl)) pgs_nil))))
        (pss_one (ps_dput hu (pv 3) (pe_tup (pa_cons (pv 4) (pa_cons (pv 5) pa_nil))) (pe_callB (call_min2 rfl) (by rfl) B.min boot_min (pa_cons (pv 6) (pa_cons (pe_dget2 hu (pv 3) (pe_tup (pa_cons (pv 4) (pa_cons (pv 5) pa_nil))) (pv 6) ⟨by rfl, by rfl, by rfl, by rfl⟩) pa_nil))) (by rfl))))
      (pss_cons (ps_for PassesOwn.never rfl (pi_tup (pv 2)) (pg_name (i := 7) nd rfl (.inl rfl))
        (pss_one (ps_for PassesOwn.never rfl (pi_tup (pv 2)) (pg_name (i := 4) nd rfl (.inl rfl))
          (pss_one (ps_for PassesOwn.never rfl (pi_tup (pv 2)) (pg_name (i := 5) nd rfl (.inl rfl))
            (pss_one (ps_if (PW.pt (pw_and (pt_cmpR op_ne (pv 4) (pv 5) (nomark _)) (pw_and (pt_cmp (pc_din hu (pe_tup (pa_cons (pv 4) (pa_cons (pv 7) pa_nil))) (pv 3))) (pw_and1 (pt_cmp (pc_din hu (pe_tup (pa_cons (pv 7) (pa_cons (pv 5) pa_nil))) (pv 3)))))))
              (pss_cons (ps_set (i := 6) nd rfl (.inl rfl) (pe_op op_add (pe_dget hu (pv 3) (pe_tup (pa_cons (pv 4) (pa_cons (pv 7) pa_nil))) (fun _ _ => rfl)) (pe_dget hu (pv 3) (pe_tup (pa_cons (pv 7) (pa_cons (pv 5) pa_nil))) (fun _ _ => rfl))))
              (pss_one (ps_dput hu (pv 3) (pe_tup (pa_cons (pv 4) (pa_cons (pv 5) pa_nil))) (pe_callB (call_min2 rfl) (by rfl) B.min boot_min (pa_cons (pv 6) (pa_cons (pe_dget2 hu (pv 3) (pe_tup (pa_cons (pv 4) (pa_cons (pv 5) pa_nil))) (pv 6) ⟨by rfl, by rfl, by rfl, by rfl⟩) pa_nil))) (by rfl)))) pss_nil)))))))
      (pss_cons (ps_lock (ps_for PassesOwn.never rfl (pi_itemsT (pv 3)) (pg_tup rfl (pgs_cons (pg_tup rfl (pgs_cons (pg_name (i := 4) nd rfl (.inl rfl)) (pgs_cons (pg_name (i := 5) nd rfl (.inl rfl)) pgs_nil))) (pgs_cons (pg_name (i := 6) nd rfl (.inl rfl)) pgs_nil)))
        (pss_one (ps_if (PW.pt (pw_and (pt_cmp (pc_din hu (pe_tup (pa_cons (pv 5) (pa_cons (pv 4) pa_nil))) (pv 3))) (pw_and1 (pt_cmpR op_lt (pe_op op_add (pv 6) (pe_dget hu (pv 3) (pe_tup (pa_cons (pv 5) (pa_cons (pv 4) pa_nil))) (fun _ _ => rfl))) pe_int (nomark _)))))
          (pss_one (ps_ret pe_non)) pss_nil))))
      (pss_one (ps_ret (pv 3)))))), ?_⟩
    -- names, table
    refine ⟨.ref a, rfl, a, cs.map V.str, rfl, .inl hA, ?_, fun nA hnA => fun d hd => ⟨_, _, rfl, ?_⟩⟩
    · show (V.str ("" : Str) :: (cs.map V.str ++ [])).length ≤ sizeLine
      rw [List.append_nil, List.length_cons, List.length_map]
      have := small16 (n := cs.length + 1) (by omega)
      omega
    have hns : (V.str ("" : Str) :: (cs.map V.str ++ [])) = ((("" : Str) :: cs).map V.str) := by simp
    rw [hns] at hd ⊢
    have h4 : ((("" : Str) :: cs)).length ≤ 4 := by
      rw [List.length_cons]; omega
    generalize (("" : Str) :: cs) = ns at *
    have s1 : Sm [] H (upd H nA (.tup (ns.map V.str))) := Sm.refl.new hnA
    have n1 : (upd H nA (.tup (ns.map V.str))) nA = some (.tup (ns.map V.str)) := upd_same
    generalize upd H nA (.tup (ns.map V.str)) = H1 at s1 n1 hd
    have f0 : Fr H nA d ns [] (upd H1 d (.dT [])) := ⟨s1.new hd, by rw [upd_ne (ne_of_none n1 hd)]; exact n1, upd_same, s1.free hd (by simp)⟩
    generalize upd H1 d (.dT []) = H2 at f0
    obtain ⟨xs, hb, hxs⟩ := hB
    have hlx := hxs.len
    -- the bounds
    refine ⟨.ref b, rfl, b, rfl, ⟨xs, SqT.of (f0.sm.keep hb)⟩, for_tup (xs := xs) (fun i σ H' => ∃ M y4 y5 y6 y7, σ = Lp a b nA d y4 y5 y6 y7 ∧ Fr H nA d ns M H' ∧ M = (L.take i).foldl ZM.addB [] ∧ ZM.Inv false ns L M) ?_ ?_ ?_ ?_⟩
    · exact ⟨[], none, none, none, none, rfl, f0, rfl, ZM.inv_nil⟩
    · rintro i σ H' _ ⟨M, y4, y5, y6, y7, rfl, f, _⟩
      exact SqT.of (f.sm.keep hb)
    · rintro i x σ H' hx ⟨M, y4, y5, y6, y7, rfl, f, rfl, I⟩
      obtain ⟨t, ht, p, rfl, hp⟩ := hxs.get hx
      refine ⟨p, _, rfl, SqT.of (f.sm.keep hp), rfl, _, _, rfl, _, _, rfl, _, _, rfl, rfl, ?_⟩
      have hm : t ∈ L := List.mem_of_getElem? ht
      obtain ⟨o1, o2, o3⟩ := hO t hm
      refine min_put (i := t.1) (j := t.2.1) (k := t.2.2) f (inv_len I h4) fun H3 f3 => ?_
      refine ⟨_, _, _, _, _, rfl, f3, ?_, I.low (.inl (.one hm)) ⟨o1, o2, .inr o3⟩⟩
      rw [fold_take ht]
      rfl
    rintro σ H' ⟨M, y4, y5, y6, y7, rfl, f, rfl, I⟩
    have hxl : L.take xs.length = L := by rw [hlx, List.take_length]
    rw [hxl] at f I
    generalize hM0 : L.foldl ZM.addB [] = M0 at f I
    -- the middles
    have sq : ∀ {M H'}, Fr H nA d ns M H' → SqT K H' nA (ns.map V.str) := fun f => SqT.of f.nA
    have tl : ns.take (ns.map V.str).length = ns := by rw [List.length_map, List.take_length]
    refine ⟨.ref nA, rfl, nA, rfl, ⟨_, sq f⟩, for_tup (xs := ns.map V.str) (fun i σ H' => ∃ M y4 y5 y6 y7, σ = Lp a b nA d y4 y5 y6 y7 ∧ Fr H nA d ns M H' ∧ M = ZM.fwF false (ns.take i) ns M0 ∧ ZM.Inv false ns L M) ?_ ?_ ?_ ?_⟩
    · exact ⟨M0, y4, y5, y6, y7, rfl, f, rfl, I⟩
    · rintro i σ H' _ ⟨M, y4, y5, y6, y7, rfl, f, _⟩
      exact sq f
    · rintro im x σ H' hx ⟨M1, y4, y5, y6, y7, rfl, f, hM1, I⟩
      obtain ⟨m, hm, rfl⟩ := str_at hx
      refine ⟨.ref nA, rfl, nA, rfl, ⟨_, sq f⟩, for_tup (xs := ns.map V.str) (fun i σ H' => ∃ M y4 y5 y6, σ = Lp a b nA d y4 y5 y6 (some (.str m)) ∧ Fr H nA d ns M H' ∧ M = (ns.take i).foldl (fun M i => ZM.rowF false m i ns M) M1 ∧ ZM.Inv false ns L M) ?_ ?_ ?_ ?_⟩
      · exact ⟨M1, y4, y5, y6, rfl, f, rfl, I⟩
      · rintro i σ H' _ ⟨M, y4, y5, y6, rfl, f, _⟩
        exact sq f
      · rintro ii x σ H' hx ⟨M2, y4, y5, y6, rfl, f, hM2, I⟩
        obtain ⟨i, hi, rfl⟩ := str_at hx
        refine ⟨.ref nA, rfl, nA, rfl, ⟨_, sq f⟩, for_tup (xs := ns.map V.str) (fun n σ H' => ∃ M y5 y6, σ = Lp a b nA d (some (.str i)) y5 y6 (some (.str m)) ∧ Fr H nA d ns M H' ∧ M = (ns.take n).foldl (fun M j => ZM.stp false m i j M) M2 ∧ ZM.Inv false ns L M) ?_ ?_ ?_ ?_⟩
        · exact ⟨M2, y5, y6, rfl, f, rfl, I⟩
        · rintro n σ H' _ ⟨M, y5, y6, rfl, f, _⟩
          exact sq f
        · rintro ij x σ H' hx ⟨M3, y5, y6, rfl, f, hM3, I⟩
          obtain ⟨j, hj, rfl⟩ := str_at hx
          have stepE : (ns.take (ij + 1)).foldl (fun M j => ZM.stp false m i j M) M2 = ZM.stp false m i j M3 := by
            rw [fold_take hj, ← hM3]
          have I2 := I.stp m i j
          have stay : ∀ {σ' H'} (y6 : Option V), σ' = Lp a b nA d (some (.str i)) (some (.str j)) y6 (some (.str m)) → Fr H nA d ns M3 H' → ZM.stp false m i j M3 = M3 → ∃ M y5 y6, σ' = Lp a b nA d (some (.str i)) y5 y6 (some (.str m)) ∧ Fr H nA d ns M H' ∧ M = (ns.take (ij + 1)).foldl (fun M j => ZM.stp false m i j M) M2 ∧ ZM.Inv false ns L M := fun y6 e f es =>
            ⟨M3, _, _, e, f, by rw [stepE, es], I⟩
          -- one != other
          refine ⟨.str i, rfl, .str j, rfl, rfl, _, rfl, ite2 (fun c1 => ?_) (fun c1 => ite2 (fun z => by cases z) fun _ => ?_)⟩
          rotate_left
          · refine stay y6 rfl f ?_
            have : i = j := by simpa using c1
            subst this
            unfold ZM.stp
            rw [if_neg (by simp)]
          have nij : i ≠ j := by simpa using c1
          have stp_eq : ZM.stp false m i j M3 = match getT M3 (i, m), getT M3 (m, j) with | some a, some b => ZM.low M3 (i, j) (a + b) | _, _ => M3 := by
            unfold ZM.stp
            rw [if_pos (by simp [nij])]
            all_goals rfl
          refine ⟨.str i, rfl, .str m, rfl, (by show 2 ≤ sizeLine; decide), fun p1 hp1 => ?_⟩
          have f1 : Fr H nA d ns M3 (upd H' p1 (.tup [.str i, .str m])) := f.add hp1
          have e1 : (upd H' p1 (.tup [.str i, .str m])) p1 = some (.tup [.str i, .str m]) := upd_same
          generalize upd H' p1 (.tup [.str i, .str m]) = H1 at f1 e1
          refine ⟨.ref d, rfl, d, _, rfl, get_tab (p := (i, m)) f1.tab e1, _, rfl, ?_⟩
          cases g1 : getT M3 (i, m) with
          | none =>
            refine ite2 (fun z => by cases z) fun _ => ite2 (fun z => by cases z) fun _ => ?_
            exact stay y6 rfl f1 (by rw [stp_eq, g1])
          | some va =>
            refine ite2 (fun _ => ?_) (fun z => absurd rfl z)
            refine ⟨.str m, rfl, .str j, rfl, (by show 2 ≤ sizeLine; decide), fun p2 hp2 => ?_⟩
            have f2 : Fr H nA d ns M3 (upd H1 p2 (.tup [.str m, .str j])) := f1.add hp2
            have e2 : (upd H1 p2 (.tup [.str m, .str j])) p2 = some (.tup [.str m, .str j]) := upd_same
            generalize upd H1 p2 (.tup [.str m, .str j]) = H2 at f2 e2
            refine ⟨.ref d, rfl, d, _, rfl, get_tab (p := (m, j)) f2.tab e2, _, rfl, ?_⟩
            cases g2 : getT M3 (m, j) with
            | none =>
              refine ite2 (fun z => by cases z) fun _ => ?_
              exact stay y6 rfl f2 (by rw [stp_eq, g1, g2])
            | some vb =>
              refine ite2 (fun _ => ?_) (fun z => absurd rfl z)
              refine ⟨.ref d, rfl, .str i, rfl, .str m, rfl, (by show 2 ≤ sizeLine; decide), fun p3 hp3 => ?_⟩
              have f3 : Fr H nA d ns M3 (upd H2 p3 (.tup [.str i, .str m])) := f2.add hp3
              have e3 : (upd H2 p3 (.tup [.str i, .str m])) p3 = some (.tup [.str i, .str m]) := upd_same
              generalize upd H2 p3 (.tup [.str i, .str m]) = H3 at f3 e3
              have d3 := get_tab (p := (i, m)) f3.tab e3
              rw [g1] at d3
              refine ⟨d, _, rfl, d3, .ref d, rfl, .str m, rfl, .str j, rfl, (by show 2 ≤ sizeLine; decide), fun p4 hp4 => ?_⟩
              have f4 : Fr H nA d ns M3 (upd H3 p4 (.tup [.str m, .str j])) := f3.add hp4
              have e4 : (upd H3 p4 (.tup [.str m, .str j])) p4 = some (.tup [.str m, .str j]) := upd_same
              generalize upd H3 p4 (.tup [.str m, .str j]) = H4 at f4 e4
              have d4 := get_tab (p := (m, j)) f4.tab e4
              rw [g2] at d4
              refine ⟨d, _, rfl, d4, va, vb, rfl, rfl, ?_⟩
              refine min_put (i := i) (j := j) (k := va + vb) f4 (inv_len I h4) fun H5 f5 => ?_
              refine ⟨_, _, _, rfl, f5, ?_, ?_⟩
              · rw [stepE, stp_eq, g1, g2]
              · rw [stp_eq, g1, g2] at I2
                exact I2
        · rintro σ H' ⟨M, y5, y6, rfl, f, hM, I⟩
          rw [tl] at hM
          refine ⟨M, _, _, _, rfl, f, ?_, I⟩
          rw [fold_take hi, ← hM2]
          exact hM
      · rintro σ H' ⟨M, y4, y5, y6, rfl, f, hM, I⟩
        rw [tl] at hM
        refine ⟨M, _, _, _, _, rfl, f, ?_, I⟩
        unfold ZM.fwF at hM1 ⊢
        rw [fold_take hm, ← hM1]
        exact hM
    rintro σ H' ⟨M, y4, y5, y6, y7, rfl, f, hM, I⟩
    rw [tl] at hM
    have hT : M = ZM.ctab ns L := by
      rw [hM]
      unfold ZM.ctab
      rw [hM0]
    subst hT
    -- the answer
    have ndT := I.nod
    refine ⟨d, .dT (dTb (ZM.ctab ns L)), f.tab, trivial, fun od => ⟨.ref d, rfl, d, od, _, rfl, upd_same, for_it walk_itemsT (fun i σ H' => ∃ y4 y5 y6 y7, σ = Lp a b nA d y4 y5 y6 y7 ∧ Sm [d] H H' ∧ H' d = some (.frz od (.dT (dTb (ZM.ctab ns L)))) ∧ ∀ e ∈ (ZM.ctab ns L).take i, ∀ v, getT (ZM.ctab ns L) (e.1.2, e.1.1) = some v → ¬ e.2 + v < 0) ?_ ?_ ?_ ?_⟩⟩
    · exact ⟨_, _, _, _, rfl, f.sm.nil.put (by simp), upd_same, fun e he => absurd he (by simp)⟩
    · rintro i σ H' _ ⟨y4, y5, y6, y7, rfl, s2, e, _⟩
      exact e
    · rintro i x σ H3 H4 hi ⟨y4, y5, y6, y7, rfl, s2, e, hno⟩ ⟨T, q, k, v, hkv, rfl, hT, hq, rfl⟩
      obtain ⟨x, hx, hk, hv⟩ : ∃ x, (ZM.ctab ns L)[i]? = some x ∧ k = encP x.1 ∧ v = .int x.2 := by
        unfold dTb at hkv
        rw [List.getElem?_map] at hkv
        cases z : (ZM.ctab ns L)[i]? with
        | none => rw [z] at hkv; cases hkv
        | some x =>
          rw [z] at hkv
          cases hkv
          exact ⟨x, rfl, rfl, rfl⟩
      subst hk hv
      have s3 : Sm [d] H (upd H3 T (.tup [.ref q, .int x.2])) := s2.new hT
      have e3 : (upd H3 T (.tup [.ref q, .int x.2])) d = some (.frz od (.dT (dTb (ZM.ctab ns L)))) := by
        rw [upd_ne (ne_of_none e hT)]; exact e
      have q3 : (upd H3 T (.tup [.ref q, .int x.2])) q = some (.tup [.str x.1.1, .str x.1.2]) := by
        rw [upd_ne (ne_of_none hq hT)]; exact hq
      have t3 : (upd H3 T (.tup [.ref q, .int x.2])) T = some (.tup [.ref q, .int x.2]) := upd_same
      generalize upd H3 T (.tup [.ref q, .int x.2]) = H5 at s3 e3 q3 t3
      refine ⟨T, _, rfl, SqT.of t3, rfl, _, _, rfl, ⟨q, _, rfl, SqT.of q3, rfl, _, _, rfl, _, _, rfl, rfl, _, _, rfl, rfl, ?_⟩⟩
      -- next turn
      have nxt : ∀ {H'}, Sm [d] H H' → H' d = some (.frz od (.dT (dTb (ZM.ctab ns L)))) → (∀ v, getT (ZM.ctab ns L) (x.1.2, x.1.1) = some v → ¬ x.2 + v < 0) → ∃ y4' y5' y6' y7', (Lp a b nA d (some (.str x.1.1)) (some (.str x.1.2)) (some (.int x.2)) y7) = Lp a b nA d y4' y5' y6' y7' ∧ Sm [d] H H' ∧ H' d = some (.frz od (.dT (dTb (ZM.ctab ns L)))) ∧ ∀ e ∈ (ZM.ctab ns L).take (i + 1), ∀ v, getT (ZM.ctab ns L) (e.1.2, e.1.1) = some v → ¬ e.2 + v < 0 := fun s e h => by
        refine ⟨_, _, _, _, rfl, s, e, fun y hy => ?_⟩
        rw [List.take_add_one, hx] at hy
        rcases List.mem_append.mp hy with hy | hy
        · exact hno y hy
        · have : y = x := by simpa using hy
          rw [this]
          exact h
      refine ⟨.str x.1.2, rfl, .str x.1.1, rfl, (by show 2 ≤ sizeLine; decide), fun p1 hp1 => ?_⟩
      have s4 : Sm [d] H (upd H5 p1 (.tup [.str x.1.2, .str x.1.1])) := s3.new hp1
      have d4 : (upd H5 p1 (.tup [.str x.1.2, .str x.1.1])) d = some (.frz od (.dT (dTb (ZM.ctab ns L)))) := by
        rw [upd_ne (ne_of_none e3 hp1)]; exact e3
      have e4 : (upd H5 p1 (.tup [.str x.1.2, .str x.1.1])) p1 = some (.tup [.str x.1.2, .str x.1.1]) := upd_same
      generalize upd H5 p1 (.tup [.str x.1.2, .str x.1.1]) = H6 at s4 d4 e4
      refine ⟨.ref d, rfl, d, _, rfl, get_tabF (p := (x.1.2, x.1.1)) d4 e4, _, rfl, ?_⟩
      cases g : getT (ZM.ctab ns L) (x.1.2, x.1.1) with
      | none =>
        refine ite2 (fun z => by cases z) fun _ => ite2 (fun z => by cases z) fun _ => ?_
        exact nxt s4 d4 fun v hv => by rw [g] at hv; cases hv
      | some vb =>
        refine ite2 (fun _ => ?_) (fun z => absurd rfl z)
        refine ⟨.int x.2, rfl, .ref d, rfl, .str x.1.2, rfl, .str x.1.1, rfl, (by show 2 ≤ sizeLine; decide), fun p2 hp2 => ?_⟩
        have s5 : Sm [d] H (upd H6 p2 (.tup [.str x.1.2, .str x.1.1])) := s4.new hp2
        have d5 : (upd H6 p2 (.tup [.str x.1.2, .str x.1.1])) d = some (.frz od (.dT (dTb (ZM.ctab ns L)))) := by
          rw [upd_ne (ne_of_none d4 hp2)]; exact d4
        have e5 : (upd H6 p2 (.tup [.str x.1.2, .str x.1.1])) p2 = some (.tup [.str x.1.2, .str x.1.1]) := upd_same
        generalize upd H6 p2 (.tup [.str x.1.2, .str x.1.1]) = H7 at s5 d5 e5
        have g5 := get_tabF (p := (x.1.2, x.1.1)) d5 e5
        rw [g] at g5
        refine ⟨d, _, rfl, g5, x.2, vb, rfl, rfl, _, _, rfl, rfl, _, rfl, ite2 (fun hc => ?_) (fun hc => ?_)⟩
        · have hlt : x.2 + vb < 0 := by simpa using hc
          refine ⟨d5, qN ?_ _ ((s5.own f.new).trans' f.new)⟩
          unfold ZM.negP
          rw [List.any_eq_true]
          refine ⟨x, List.mem_of_getElem? hx, ?_⟩
          rw [g]
          exact decide_eq_true hlt
        · refine nxt s5 d5 fun v hv => ?_
          rw [g] at hv
          cases hv
          simpa using hc
    · rintro σ H' ⟨y4, y5, y6, y7, rfl, s2, e, hno⟩
      refine ⟨e, ?_⟩
      refine ⟨.ref d, rfl, ?_⟩
      rw [dTb_len, List.take_length] at hno
      refine qT ?_ d _ ((s2.own f.new).trans' f.new) f.new upd_same
      unfold ZM.negP
      rw [List.any_eq_false]
      intro x hx
      cases g : getT (ZM.ctab ns L) (x.1.2, x.1.1) with
      | none => simp
      | some v =>
        have := hno x hx v g
        simpa using this
end
end K91

namespace K91
open PySem PySem.Spec PyProof.Rows L2
open ZM (getT putT)

/-! ### tuple(sorted(list of triples)) -/
def trOf (H : Hp) (x : V) : Tr := match x with
  | .ref p => match H p with
    | some (.tup [.str a, .str b, .int c]) => (a, b, c)
    | _ => ("", "", 0)
  | _ => ("", "", 0)
theorem trOf_at {H : Hp} {x : V} {t : Tr} (h : TrAt H x t) : trOf H x = t := by
  obtain ⟨p, rfl, e⟩ := h
  unfold trOf
  simp only [e, trV]
theorem TrAll.map {H : Hp} : ∀ {vs : List V} {ts : List Tr}, TrAll H vs ts → vs.map (trOf H) = ts ∧ ∀ x ∈ vs, TrAt H x (trOf H x)
  | _, _, .nil => ⟨rfl, fun x h => absurd h (by simp)⟩
  | _, _, .cons a r => by
    obtain ⟨e, h⟩ := r.map
    refine ⟨by rw [List.map_cons, trOf_at a, e], fun x hx => ?_⟩
    rcases List.mem_cons.mp hx with rfl | hx
    · rw [trOf_at a]; exact a
    · exact h x hx
theorem TrAll.of {H : Hp} : ∀ {vs : List V}, (∀ x ∈ vs, TrAt H x (trOf H x)) → TrAll H vs (vs.map (trOf H))
  | [], _ => .nil
  | v :: vs, h => .cons (h v List.mem_cons_self) (TrAll.of fun x hx => h x (List.mem_cons_of_mem _ hx))
abbrev rTupOf (K : PySem.W.Frag) : List V → Hp → VK → Prop := fun xs H Q => ∃ p ys, xs = [.ref p] ∧ ((SqL K H p ys ∧ ∀ l, H l = none → Q (.ref l) (upd H l (.tup ys))) ∨ (SqT K H p ys ∧ Q (.ref p) H))
theorem un8_of {k : Nat} {A : Around} (r : Room k A) : A.units + 8 < cLine := by have := r.units; omega
theorem Sm.back {H H' : Hp} {d : Addr} {o : HO} (s : Sm [d] H H') (h : H d = some o) (h2 : H' d = some o) : Sm [] H H' := fun b u e _ => by
  by_cases z : b = d
  · subst z
    rw [h] at e
    cases e
    exact h2
  · exact s b u e (by simpa using z)
theorem sortTail {K : PySem.W.Frag} {H : Hp} {D : Addr} {acc : List V} {ts : List Tr} {Q : VK} (hD : H D = some (.lst acc)) (h : TrAll H acc ts) (q : ∀ t H', Sm [] H H' → Bds H' t (sortT ts) → Q (.ref t) H') :
    rSortT K [.ref D] H fun x H' => rTupOf K [x] H' Q := by
  obtain ⟨e, ha⟩ := h.map
  refine ⟨D, acc, trOf H, rfl, SqL.of hD, fun x hx => ?_, fun ys p hp hm hn => ⟨p, ys, rfl, .inl ⟨SqL.of upd_same, fun l hl => ?_⟩⟩⟩
  · obtain ⟨t, e1, e2⟩ := ha x hx
    exact ⟨t, e1, e2⟩
  · have s2 : Sm [] H (upd (upd H p (.lst ys)) l (.tup ys)) := (Sm.refl.new hn).new hl
    have hy : TrAll H ys (ys.map (trOf H)) := TrAll.of fun x hx => ha x (hp.mem_iff.mp hx)
    rw [hm, e] at hy
    exact q l _ s2 ⟨ys, upd_same, hy.kp s2.kp⟩

abbrev sCl : Stmt := topS 8
theorem scCl : FnScope ["columns", "bounds", "table", "one", "other", "k"] ["columns", "bounds"] (defScope sCl) := ⟨rfl, rfl, rfl, by decide +kernel, rfl, by decide +kernel, by decide +kernel⟩
section
variable {P : Program} {w : World} {K : PySem.W.Frag} {mg : Str → Option Value} {base : Heap}
/-- what it gives -/
def closedO (cs : List Str) (B : List Tr) : Option (List Tr) := if ZM.negP (ZM.ctab (("" : Str) :: cs) B) = true then none else some (sortT (ZM.trs (ZM.ctab (("" : Str) :: cs) B)))
/-- None, or the tuple of triples -/
def BdsO (H : Hp) (v : V) (o : Option (List Tr)) : Prop := (o = none ∧ v = .non) ∨ ∃ Z a, o = some Z ∧ v = .ref a ∧ Bds H a Z
theorem BdsO.kp {H H' : Hp} {v : V} {o : Option (List Tr)} (h : BdsO H v o) (k : Kp H H') : BdsO H' v o := by
  rcases h with h | ⟨Z, a, e, e2, h⟩
  · exact .inl h
  · exact .inr ⟨Z, a, e, e2, h.kp k⟩
def spCl (K : PySem.W.Frag) : Sp := fun vs H Q _ => ∃ (a b : Addr) (cs : List Str) (B : List Tr), vs = [.ref a, .ref b] ∧ SqT K H a (cs.map V.str) ∧ Bds H b B ∧ ZM.Bok (("" : Str) :: cs) B ∧ cs.length ≤ 3 ∧
  ∀ v H', Sm [] H H' → BdsO H' v (closedO cs B) → Q v H'
theorem trs_take (M : Tb) (i : Nat) : ZM.trs (M.take i) = (ZM.trs M).take i := by
  unfold ZM.trs
  rw [List.map_take]
theorem dTb_at {M : Tb} {i : Nat} {k : List Key} {v : V} (h : (dTb M)[i]? = some (k, v)) : ∃ x, M[i]? = some x ∧ k = encP x.1 ∧ v = .int x.2 := by
  unfold dTb at h
  rw [List.getElem?_map] at h
  cases z : M[i]? with
  | none => rw [z] at h; cases h
  | some x =>
    rw [z] at h
    cases h
    exact ⟨x, rfl, rfl, rfl⟩
theorem ok_cl {f : Addr} {fd : FuncData} (F : Fun K "closed" "closed" sCl f fd) (B : Bn mg) (cCt : Cal P w K mg base "closed_table" ["columns", "bounds"] 1 (spCt K)) : FnOk P w K mg base CX0 2 f fd ["columns", "bounds"] (spCl K) := by
  refine F.ok scCl (fun vs H Q E h => ?_) (fun cdv A outer s H vs Q E hr h => ?_)
  · obtain ⟨a, b, cs, L, rfl, _⟩ := h
    rfl
  · obtain ⟨a, b, cs, L, rfl, hA, hB, hO, hl, q⟩ := h
    have nd := scCl.nd
    have hu := hu_of hr
    refine ⟨_, pss_cons (ps_set (i := 2) nd rfl (.inl rfl) (pe_own cCt hr (pa_cons (pv 0) (pa_cons (pv 1) pa_nil))))
      (pss_cons (ps_if (pt_cmpR op_isN (pv 2) pe_non (nomark _)) (pss_one (ps_ret pe_non)) pss_nil)
      (pss_one (ps_ret (pe_lock (pe_callTy call_tuple_of (by rfl) B.tuple boot_tuple (pa_cons (pe_callB (cr_sortT (un8_of hr)) (by rfl) B.sorted boot_sorted (pa_cons
        (pe_lc (own := [("one", 3), ("other", 4), ("k", 5)]) (g := gTup K 2 (gCons (gTup K 2 (gCons (gName 3) (gCons (gName 4) gNil))) (gCons (gName 5) gNil))) (tt := tYes) (te := tTup (tCons (tVar 3) (tCons (tVar 4) (tCons (tVar 5) tNil)))) rfl nd (pi_itemsT (pv 2)) (blkOk_by (N := ["columns", "bounds", "table", "one", "other", "k"]) (sc := defScope sCl) (by decide +kernel))
          (fun _ _ _ _ _ => pg_tup rfl (pgs_cons (pg_tup rfl (pgs_cons (pg_name (i := 3) nd rfl (.inl rfl)) (pgs_cons (pg_name (i := 4) nd rfl (.inl rfl)) pgs_nil))) (pgs_cons (pg_name (i := 5) nd rfl (.inl rfl)) pgs_nil)))
          (fun _ _ _ _ _ => pts_nil) (fun _ _ _ _ _ => pe_tup (pa_cons (pv 3) (pa_cons (pv 4) (pa_cons (pv 5) pa_nil))))) pa_nil)) pa_nil)))))), ?_⟩
    refine ⟨.ref a, rfl, .ref b, rfl, a, b, cs, L, rfl, hA, hB, hO, hl, fun hn H' s1 => ?_, fun hn d H1 s1 hd0 hT => ?_⟩
    · refine ⟨.non, rfl, rfl, _, rfl, ite2 (fun _ => ?_) (fun z => absurd rfl z)⟩
      refine q .non H' s1 (.inl ⟨?_, rfl⟩)
      unfold closedO
      rw [if_pos hn]
    · refine ⟨.ref d, rfl, rfl, _, rfl, ite2 (fun z => by simp at z) fun _ => ?_⟩
      have ec : closedO cs L = some (sortT (ZM.trs (ZM.ctab (("" : Str) :: cs) L))) := by
        unfold closedO
        rw [if_neg (by rw [hn]; simp)]
      have I : ZM.Inv false (("" : Str) :: cs) L (ZM.ctab (("" : Str) :: cs) L) := ZM.ctab_inv hO
      have hM16 : (ZM.ctab (("" : Str) :: cs) L).length ≤ 16 := inv_len I (by rw [List.length_cons]; omega)
      generalize ZM.ctab (("" : Str) :: cs) L = M at *
      refine ⟨d, .dT (dTb M), hT, trivial, fun od => ?_⟩
      refine ⟨.ref d, rfl, d, od, _, rfl, upd_same, fun D hD => ?_⟩
      have hDd : d ≠ D := fun e => by rw [← e, upd_same] at hD; cases hD
      have hD1 : H1 D = none := by rw [upd_ne hDd.symm] at hD; exact hD
      refine lc_it walk_itemsT (fun i H' => ∃ acc, H' D = some (.lst acc) ∧ H' d = some (.frz od (.dT (dTb M))) ∧ Sm [d] H1 H' ∧ TrAll H' acc ((ZM.trs M).take i)) ?_ ?_ ?_ ?_
      · refine ⟨[], upd_same, ?_, ?_, .nil⟩
        · rw [upd_ne hDd, upd_same]
        · exact (Sm.refl.put (by simp)).own hD1
      · rintro i H' _ ⟨acc, h1, h2, h3, h4⟩
        exact h2
      · rintro i x H3 H4 hi ⟨acc, h1, h2, h3, h4⟩ ⟨T, q', k, v, hkv, rfl, hTn, hq, rfl⟩
        obtain ⟨x, hx, rfl, rfl⟩ := dTb_at hkv
        have kp : Kp H3 (upd H3 T (.tup [.ref q', .int x.2])) := Kp.refl.new hTn
        have s4 : Sm [d] H1 (upd H3 T (.tup [.ref q', .int x.2])) := h3.new hTn
        have d4 : (upd H3 T (.tup [.ref q', .int x.2])) d = some (.frz od (.dT (dTb M))) := by
          rw [upd_ne (ne_of_none h2 hTn)]; exact h2
        have D4 : (upd H3 T (.tup [.ref q', .int x.2])) D = some (.lst acc) := by
          rw [upd_ne (ne_of_none h1 hTn)]; exact h1
        have t4 : (upd H3 T (.tup [.ref q', .int x.2])) T = some (.tup [.ref q', .int x.2]) := upd_same
        have q4 : (upd H3 T (.tup [.ref q', .int x.2])) q' = some (.tup [.str x.1.1, .str x.1.2]) := kp _ _ hq
        generalize upd H3 T (.tup [.ref q', .int x.2]) = H5 at kp s4 d4 D4 t4 q4
        refine ⟨T, _, rfl, SqT.of t4, rfl, _, _, rfl, q', _, rfl, SqT.of q4, rfl, _, _, rfl, _, _, rfl, rfl, _, _, rfl, rfl, ?_⟩
        refine ⟨rfl, ?_⟩
        refine ⟨_, rfl, _, rfl, _, rfl, (by show 3 ≤ sizeLine; decide), fun p hp => ?_⟩
        have D6 : (upd H5 p (.tup [.str x.1.1, .str x.1.2, .int x.2])) D = some (.lst acc) := by
          rw [upd_ne (ne_of_none D4 hp)]; exact D4
        have hlen : acc.length ≤ 16 := by
          rw [h4.len, List.length_take]
          have : (ZM.trs M).length = M.length := by unfold ZM.trs; rw [List.length_map]
          omega
        refine ⟨acc, D6, small16 hlen, acc ++ [.ref p], upd_same, ?_, ?_, ?_⟩
        · rw [upd_ne hDd, upd_ne (ne_of_none d4 hp)]; exact d4
        · exact (s4.new hp).own hD1
        · have kp2 : Kp H5 (upd H5 p (.tup [.str x.1.1, .str x.1.2, .int x.2])) := Kp.refl.new hp
          have e6 : (upd H5 p (.tup [.str x.1.1, .str x.1.2, .int x.2])) p = some (.tup (trV (x.1.1, x.1.2, x.2))) := upd_same
          generalize upd H5 p (.tup [.str x.1.1, .str x.1.2, .int x.2]) = H6 at D6 kp2 e6
          have kp3 : Kp H6 (upd H6 D (.lst (acc ++ [.ref p]))) := fun b xs e => by
            rw [upd_ne (ne_of e D6 (by intro z; cases z))]
            exact e
          have ht : (ZM.trs M)[i]? = some (x.1.1, x.1.2, x.2) := by
            unfold ZM.trs
            rw [List.getElem?_map, hx]
            rfl
          rw [List.take_add_one, ht]
          exact (h4.kp ((kp.trans kp2).trans kp3)).app (.cons ⟨p, rfl, kp3 _ _ e6⟩ .nil)
      · rintro H' ⟨acc, h1, h2, h3, h4⟩
        have tl : (ZM.trs M).take (dTb M).length = ZM.trs M := by
          rw [dTb_len, List.take_of_length_le]
          unfold ZM.trs
          rw [List.length_map]
          exact Nat.le_refl _
        rw [tl] at h4
        refine sortTail (Q := fun v H' => H' d = some (.frz od (.dT (dTb M))) ∧ Q v (upd H' d (.dT (dTb M)))) h1 h4 fun t H6 s6 hb => ?_
        refine ⟨s6.keep h2, ?_⟩
        have kpd : Kp H6 (upd H6 d (.dT (dTb M))) := fun b xs e => by
          rw [upd_ne (ne_of e (s6.keep h2) (by intro z; cases z))]
          exact e
        refine q (.ref t) _ ?_ (.inr ⟨_, t, ec, rfl, hb.kp kpd⟩)
        exact s1.trans (((h3.trans s6.nil).put (by simp)).back hT upd_same)
end
end K91

namespace K91
open PySem PySem.Spec PyProof.Rows L2
open ZM (getT putT)

/-! ### a row's worths -/
def valF : List Str → List Int → Str → Int
  | c :: cs, v :: r, x => if c = x then v else valF cs r x
  | _, _, _ => 0
def val (cs : List Str) (r : List Int) (x : Str) : Int := if x = "" then 0 else valF cs r x
theorem valF_cons (c : Str) (cs : List Str) (v : Int) (r : List Int) (x : Str) : valF (c :: cs) (v :: r) x = if c = x then v else valF cs r x := by rw [valF]
theorem valF_at : ∀ (cs : List Str) (r : List Int) (x : Str), x ∈ cs → cs.length = r.length → ∃ j : Nat, cs[j]? = some x ∧ (∀ m : Nat, m < j → cs[m]? ≠ some x) ∧ r[j]? = some (valF cs r x)
  | [], r, x, h, _ => absurd h (by simp)
  | c :: cs, [], x, h, e => by simp at e
  | c :: cs, v :: r, x, h, e => by
    by_cases q : c = x
    · refine ⟨0, by rw [q]; rfl, fun m hm => by omega, ?_⟩
      rw [valF_cons, if_pos q]
      rfl
    · have hx : x ∈ cs := by
        rcases List.mem_cons.mp h with z | z
        · exact absurd z.symm q
        · exact z
      obtain ⟨j, h1, h2, h3⟩ := valF_at cs r x hx (by simpa using e)
      refine ⟨j + 1, h1, fun m hm => ?_, ?_⟩
      · cases m with
        | zero => simpa using q
        | succ m => simpa using h2 m (by omega)
      · rw [valF_cons, if_neg q]
        exact h3
theorem merge_no {k : Key} : ∀ (more kvs : List (Key × V)), (∀ p ∈ more, p.1 ≠ k) → valV (mergeK kvs more) k = valV kvs k
  | [], kvs, _ => rfl
  | p :: more, kvs, h => by
    have ih := merge_no more (putK kvs p.1 p.2) fun q hq => h q (List.mem_cons_of_mem _ hq)
    have e : mergeK kvs (p :: more) = mergeK (putK kvs p.1 p.2) more := rfl
    rw [e, ih, valV_put, if_neg (Ne.symm (h p List.mem_cons_self))]
def rowKV (cs : List Str) (r : List Int) : List (Key × V) := (cs.map Sum.inr).zip (r.map V.int)
theorem valF_dict : ∀ (cs : List Str) (r : List Int) (x : Str) (kvs : List (Key × V)), cs.Nodup → x ∈ cs → cs.length = r.length → valV (mergeK kvs (rowKV cs r)) (Sum.inr x) = some (.int (valF cs r x))
  | [], r, x, _, _, h, _ => absurd h (by simp)
  | c :: cs, [], x, _, _, h, e => by simp at e
  | c :: cs, v :: r, x, kvs, hn, h, e => by
    rw [List.nodup_cons] at hn
    have em : mergeK kvs (rowKV (c :: cs) (v :: r)) = mergeK (putK kvs (Sum.inr c) (.int v)) (rowKV cs r) := rfl
    rw [em]
    by_cases q : c = x
    · subst q
      rw [merge_no _ _ fun p hp => ?_, valV_put, if_pos rfl]
      · rw [valF_cons, if_pos rfl]
      · intro z
        obtain ⟨a, b⟩ := p
        have := (List.of_mem_zip hp).1
        obtain ⟨y, hy, e2⟩ := List.mem_map.mp this
        simp only at z
        rw [z] at e2
        cases e2
        exact hn.1 hy
    · have hx : x ∈ cs := by
        rcases List.mem_cons.mp h with z | z
        · exact absurd z.symm q
        · exact z
      rw [valF_dict cs r x _ hn.2 hx (by simpa using e)]
      rw [valF_cons, if_neg q]
/-- the row keeps all these bounds -/
def inB (cs : List Str) (r : List Int) (L : List Tr) : Bool := L.all fun t => decide (val cs r t.1 - val cs r t.2.1 ≤ t.2.2)
theorem inB_iff {cs : List Str} {r : List Int} {L : List Tr} : inB cs r L = true ↔ ZM.okR L (val cs r) := by
  unfold inB ZM.okR
  rw [List.all_eq_true]
  exact ⟨fun h t ht => of_decide_eq_true (h t ht), fun h t ht => decide_eq_true (h t ht)⟩

abbrev sVi : Stmt := topS 9
theorem scVi : FnScope ["worths", "name"] ["worths", "name"] (defScope sVi) := ⟨rfl, rfl, rfl, by decide +kernel, rfl, by decide +kernel, by decide +kernel⟩
abbrev sZn : Stmt := topS 10
theorem scZn : FnScope ["columns", "zone", "values", "worths", "one", "other", "k"] ["columns", "zone", "values"] (defScope sZn) := ⟨rfl, rfl, rfl, by decide +kernel, rfl, by decide +kernel, by decide +kernel⟩
abbrev sVl : Stmt := topS 20
theorem scVl : FnScope ["columns", "values", "one"] ["columns", "values", "one"] (defScope sVl) := ⟨rfl, rfl, rfl, by decide +kernel, rfl, by decide +kernel, by decide +kernel⟩
abbrev sIs : Stmt := topS 21
theorem scIs : FnScope ["columns", "bounds", "values", "one", "other", "k"] ["columns", "bounds", "values"] (defScope sIs) := ⟨rfl, rfl, rfl, by decide +kernel, rfl, by decide +kernel, by decide +kernel⟩
section
variable {P : Program} {w : World} {K : PySem.W.Frag} {mg : Str → Option Value} {base : Heap}
def spVi : Sp := fun vs H Q _ => ∃ (d : Addr) (z : Str) (kvs : List (Key × V)) (v : Int), vs = [.ref d, .str z] ∧ H d = some (.dK kvs) ∧ ((z = "" ∧ v = 0) ∨ (z ≠ "" ∧ valV kvs (Sum.inr z) = some (.int v))) ∧ Q (.int v) H
theorem ok_vi {f : Addr} {fd : FuncData} (F : Fun K "value_in" "value_in" sVi f fd) (G : Gn mg) : FnOk P w K mg base CX0 1 f fd ["worths", "name"] spVi := by
  refine F.ok scVi (fun vs H Q E h => ?_) (fun cdv A outer s H vs Q E hr h => ?_)
  · obtain ⟨d, z, kvs, v, rfl, _⟩ := h
    rfl
  · obtain ⟨d, z, kvs, v, rfl, hd, hv, q⟩ := h
    have hu := hu_of hr
    obtain ⟨tN, eN⟩ := G.nothing
    refine ⟨_, pss_one (ps_ret (pe_ifExp (pt_cmpR op_eq (pv 1) (pe_glob (v := .str ("" : Str)) (by rfl) eN ⟨tN, rfl⟩) (nomark _)) pe_int (pe_dget hu (pv 0) (pv 1) (fun _ _ => rfl)))), ?_⟩
    refine ⟨.str z, rfl, rfl, _, rfl, ?_⟩
    rcases hv with ⟨rfl, rfl⟩ | ⟨n, e⟩
    · exact ite2 (fun _ => q) fun h => absurd rfl h
    · refine ite2 (fun h => absurd (by simpa using h) n) fun _ => ?_
      exact ⟨.ref d, rfl, .str z, rfl, d, .int v, rfl, .inl ⟨kvs, Sum.inr z, .inl hd, rfl, e.symm⟩, q⟩
/-- the row at v: a tuple of ints -/
def RowAt (K : PySem.W.Frag) (H : Hp) (a : Addr) (r : List Int) : Prop := H a = some (.tup (r.map V.int))
def spVl (K : PySem.W.Frag) : Sp := fun vs H Q _ => ∃ (a v : Addr) (cs : List Str) (r : List Int) (z : Str), vs = [.ref a, .ref v, .str z] ∧ Cols H a cs ∧ SqT K H v (r.map V.int) ∧ cs.length = r.length ∧ (z = "" ∨ z ∈ cs) ∧ Q (.int (val cs r z)) H
theorem ok_vl {f : Addr} {fd : FuncData} (F : Fun K "_law_value" "_law_value" sVl f fd) : FnOk P w K mg base CX0 1 f fd ["columns", "values", "one"] (spVl K) := by
  refine F.ok scVl (fun vs H Q E h => ?_) (fun cdv A outer s H vs Q E hr h => ?_)
  · obtain ⟨a, v, cs, r, z, rfl, _⟩ := h
    rfl
  · obtain ⟨a, v, cs, r, z, rfl, hA, hV, hl, hz, q⟩ := h
    refine ⟨_, pss_one (ps_ret (pe_ifExp (pt_cmpR op_eq (pv 2) pe_str (nomark _)) pe_int (pe_ix ix_seq (pv 1) (pe_tix (pv 0) (pa_cons (pv 2) pa_nil)) (fun _ _ => rfl)))), ?_⟩
    refine ⟨.str z, rfl, rfl, _, rfl, ?_⟩
    by_cases e : z = ""
    · subst e
      exact ite2 (fun _ => q) fun h => absurd rfl h
    · have hm : z ∈ cs := by
        rcases hz with h | h
        · exact absurd h e
        · exact h
      refine ite2 (fun h => absurd (by simpa using h) e) fun _ => ?_
      obtain ⟨j, h1, h2, h3⟩ := valF_at cs r z hm hl
      have hA2 := hA
      obtain ⟨o, ea, eo⟩ := hA2
      unfold val at q
      rw [if_neg e] at q
      refine ⟨.ref v, rfl, .ref a, rfl, ⟨a, o, _, rfl, ea, eo⟩, .str z, rfl, a, cs, z, j, rfl, rfl, hA.sq, h1, h2, ?_⟩
      exact .inr (.inl ⟨v, _, j, .int (valF cs r z), rfl, rfl, hV, atI_nat (by rw [List.getElem?_map, h3]; rfl), q⟩)
def spIs (K : PySem.W.Frag) : Sp := fun vs H Q _ => ∃ (a b v : Addr) (cs : List Str) (r : List Int) (L : List Tr), vs = [.ref a, .ref b, .ref v] ∧ Cols H a cs ∧ Bds H b L ∧ H v = some (.tup (r.map V.int)) ∧ cs.length = r.length ∧ ZM.Bok (("" : Str) :: cs) L ∧ Q (.bl (inB cs r L)) H
theorem name_or {cs : List Str} {z : Str} (h : z ∈ (("" : Str) :: cs)) : z = "" ∨ z ∈ cs := List.mem_cons.mp h
theorem ok_is {f : Addr} {fd : FuncData} (F : Fun K "_law_is_in" "_law_is_in" sIs f fd) (cVl : Cal P w K mg base "_law_value" ["columns", "values", "one"] 1 (spVl K)) : FnOk P w K mg base CX0 2 f fd ["columns", "bounds", "values"] (spIs K) := by
  refine F.ok scIs (fun vs H Q E h => ?_) (fun cdv A outer s H vs Q E hr h => ?_)
  · obtain ⟨a, b, v, cs, r, L, rfl, _⟩ := h
    rfl
  · obtain ⟨a, b, v, cs, r, L, rfl, hA, hB, hV, hl, hO, q⟩ := h
    have nd := scIs.nd
    refine ⟨_, pss_cons (ps_if (pt_cmpR op_isN (pv 1) pe_non (nomark _)) (pss_one (ps_ret pe_bl)) pss_nil)
      (pss_cons (ps_for PassesOwn.never rfl (pi_tup (pv 1)) (pg_tup rfl (pgs_cons (pg_name (i := 3) nd rfl (.inl rfl)) (pgs_cons (pg_name (i := 4) nd rfl (.inl rfl)) (pgs_cons (pg_name (i := 5) nd rfl (.inl rfl)) pgs_nil))))
        (pss_one (ps_if (pt_cmpR op_gt (pe_op op_sub (pe_own cVl hr (pa_cons (pv 0) (pa_cons (pv 2) (pa_cons (pv 3) pa_nil)))) (pe_own cVl hr (pa_cons (pv 0) (pa_cons (pv 2) (pa_cons (pv 4) pa_nil))))) (pv 5) (nomark _)) (pss_one (ps_ret pe_bl)) pss_nil)))
      (pss_one (ps_ret pe_bl))), ?_⟩
    refine ⟨.ref b, rfl, rfl, _, rfl, ite2 (fun z => by simp at z) fun _ => ?_⟩
    obtain ⟨xs, hb, hxs⟩ := hB
    refine ⟨.ref b, rfl, b, rfl, ⟨xs, SqT.of hb⟩, for_tup (xs := xs) (fun i σ H' => H' = H ∧ (∃ y3 y4 y5, σ = [some (.ref a), some (.ref b), some (.ref v), y3, y4, y5]) ∧ inB cs r (L.take i) = true) ?_ ?_ ?_ ?_⟩
    · exact ⟨rfl, ⟨_, _, _, rfl⟩, rfl⟩
    · rintro i σ H' _ ⟨rfl, _⟩
      exact SqT.of hb
    · rintro i x σ H' hx ⟨rfl, ⟨y3, y4, y5, rfl⟩, hall⟩
      obtain ⟨t, ht, p, rfl, hp⟩ := hxs.get hx
      obtain ⟨o1, o2, o3⟩ := hO t (List.mem_of_getElem? ht)
      refine ⟨p, _, rfl, SqT.of hp, rfl, _, _, rfl, _, _, rfl, _, _, rfl, rfl, ?_⟩
      refine ⟨.ref a, rfl, .ref v, rfl, _, rfl, a, v, cs, r, t.1, rfl, hA, SqT.of hV, hl, name_or o1, ?_⟩
      refine ⟨.ref a, rfl, .ref v, rfl, _, rfl, a, v, cs, r, t.2.1, rfl, hA, SqT.of hV, hl, name_or o2, ?_⟩
      refine ⟨_, _, rfl, rfl, _, rfl, _, _, rfl, rfl, _, rfl, ite2 (fun hc => ?_) (fun hc => ?_)⟩
      · have : inB cs r L = false := by
          unfold inB
          rw [List.all_eq_false]
          refine ⟨t, List.mem_of_getElem? ht, ?_⟩
          have := of_decide_eq_true hc
          simp only [decide_eq_true_eq]
          omega
        rw [this] at q
        exact q
      · refine ⟨rfl, ⟨_, _, _, rfl⟩, ?_⟩
        unfold inB at hall ⊢
        rw [List.take_add_one, ht, Option.toList_some, List.all_append, hall]
        simp only [decide_eq_true_eq] at hc
        simp
        omega
    · rintro σ H' ⟨rfl, _, hall⟩
      rw [hxs.len, List.take_length] at hall
      rw [hall] at q
      exact q
end
end K91

namespace K91
open PySem PySem.Spec PyProof.Rows L2
open ZM (getT putT)
section
variable {P : Program} {w : World} {K : PySem.W.Frag} {mg : Str → Option Value} {base : Heap}
def zoneB (cs : List Str) (r : List Int) : Option (List Tr) → Bool
  | none => false
  | some L => inB cs r L
def zoneOk (cs : List Str) : Option (List Tr) → Prop
  | none => True
  | some L => ZM.Bok (("" : Str) :: cs) L ∧ L.length ≤ 1000
def spZn (K : PySem.W.Frag) : Sp := fun vs H Q _ => ∃ (a : Addr) (z : V) (v : Addr) (cs : List Str) (r : List Int) (o : Option (List Tr)), vs = [.ref a, z, .ref v] ∧ SqT K H a (cs.map V.str) ∧ cs.Nodup ∧ BdsO H z o ∧ H v = some (.tup (r.map V.int)) ∧ cs.length = r.length ∧ zoneOk cs o ∧
  ∀ H', Sm [] H H' → Q (.bl (zoneB cs r o)) H'
theorem ok_zn {f : Addr} {fd : FuncData} (F : Fun K "is_in_zone" "is_in_zone" sZn f fd) (B : Bn mg) (cVi : Cal P w K mg base "value_in" ["worths", "name"] 1 spVi) : FnOk P w K mg base CX0 2 f fd ["columns", "zone", "values"] (spZn K) := by
  refine F.ok scZn (fun vs H Q E h => ?_) (fun cdv A outer s H vs Q E hr h => ?_)
  · obtain ⟨a, z, v, cs, r, o, rfl, _⟩ := h
    rfl
  · obtain ⟨a, z, v, cs, r, o, rfl, hA, hN, hZ, hV, hl, hO, q⟩ := h
    have nd := scZn.nd
    refine ⟨_, pss_cons (ps_if (pt_cmpR op_isN (pv 1) pe_non (nomark _)) (pss_one (ps_ret pe_bl)) pss_nil)
      (pss_cons (ps_set (i := 3) nd rfl (.inr rfl) (ZT.pe_dictZip rfl (by rfl) B.dict (by rfl) B.zip (pa_cons (pv 0) (pa_cons (pv 2) pa_nil))))
      (pss_one (ps_ret (pe_callB (cr_all rfl) (by rfl) B.all boot_all (pa_cons
        (pe_lc (own := [("one", 4), ("other", 5), ("k", 6)]) (g := gTup K 3 (gCons (gName 4) (gCons (gName 5) (gCons (gName 6) gNil)))) (tt := tYes)
          (te := tOp (rI0 fun i j => .bl (decide (i ≤ j))) (tCall spVi [] E0 (tCons (tVar 3) (tCons (tVar 4) tNil))) (tOp (rI0 fun i j => .int (i + j)) (tCall spVi [] E0 (tCons (tVar 3) (tCons (tVar 5) tNil))) (tVar 6))) rfl nd (pi_tup (pv 1)) (blkOk_by (N := ["columns", "zone", "values", "worths", "one", "other", "k"]) (sc := defScope sZn) (by decide +kernel))
          (fun _ _ _ _ _ => pg_tup rfl (pgs_cons (pg_name (i := 4) nd rfl (.inl rfl)) (pgs_cons (pg_name (i := 5) nd rfl (.inl rfl)) (pgs_cons (pg_name (i := 6) nd rfl (.inl rfl)) pgs_nil))))
          (fun _ _ _ _ _ => pts_nil) (fun _ _ _ _ _ => pe_cmpR op_le (pe_own cVi hr (pa_cons (pv 3) (pa_cons (pv 4) pa_nil))) (pe_op op_add (pe_own cVi hr (pa_cons (pv 3) (pa_cons (pv 5) pa_nil))) (pv 6)) (by first | exact nomark _ | rfl))) pa_nil))))), ?_⟩
    rcases hZ with ⟨rfl, rfl⟩ | ⟨L, zb, rfl, rfl, hB⟩
    · exact ⟨.non, rfl, rfl, _, rfl, ite2 (fun _ => q H Sm.refl) (fun z => absurd rfl z)⟩
    · refine ⟨.ref zb, rfl, rfl, _, rfl, ite2 (fun z => by simp at z) fun _ => ?_⟩
      obtain ⟨hO, hL⟩ := hO
      have hAk : SqT K H a ((cs.map Sum.inr).map kV) := by
        rw [List.map_map]
        exact hA
      refine ⟨.ref a, rfl, .ref v, rfl, a, v, cs.map Sum.inr, r.map V.int, rfl, hAk, SqT.of hV, by rw [List.length_map, List.length_map]; exact hl, fun d hd => ?_⟩
      have s1 : Sm [] H (upd H d (.dK (mergeK [] (rowKV cs r)))) := Sm.refl.new hd
      have e1 : (upd H d (.dK (mergeK [] (rowKV cs r)))) d = some (.dK (mergeK [] (rowKV cs r))) := upd_same
      show _
      have hB1 := hB.kp s1.kp
      generalize hH1 : upd H d (.dK (mergeK [] (rowKV cs r))) = H1 at s1 e1 hB1
      have hH1' : upd H d (.dK (mergeK [] ((cs.map Sum.inr).zip (r.map V.int)))) = H1 := hH1
      rw [hH1']
      obtain ⟨xs, hb, hxs⟩ := hB1
      refine ⟨.ref zb, rfl, zb, rfl, ⟨xs, SqT.of hb⟩, fun D hD => ?_⟩
      have kpD : ∀ {H' l l'}, H' D = some (.lst l) → Kp H' (upd H' D (.lst l')) := fun {H' l l'} hl b xs e => by
        rw [upd_ne (ne_of e hl (by intro z; cases z))]
        exact e
      refine lc_tup (K := K) (a := zb) (xs := xs) (fun i H' => ∃ bs : List Bool, H' D = some (.lst (bs.map V.bl)) ∧ Sm [] H1 H' ∧ bs.length = i ∧ bs.all id = inB cs r (L.take i)) ?_ ?_ ?_ ?_
      · exact ⟨[], upd_same, Sm.refl.new hD, rfl, rfl⟩
      · rintro i H' _ ⟨bs, h1, h2, h3, h4⟩
        exact SqT.of (h2.keep hb)
      · rintro i x H' hx ⟨bs, h1, h2, h3, h4⟩
        obtain ⟨t, ht, p, rfl, hp⟩ := hxs.get hx
        obtain ⟨o1, o2, o3⟩ := hO t (List.mem_of_getElem? ht)
        refine ⟨p, _, rfl, SqT.of (h2.keep hp), rfl, _, _, rfl, _, _, rfl, _, _, rfl, rfl, rfl, ?_⟩
        have look : ∀ {x : Str}, x ∈ (("" : Str) :: cs) → ((x = "" ∧ val cs r x = 0) ∨ (x ≠ "" ∧ valV (mergeK [] (rowKV cs r)) (Sum.inr x) = some (.int (val cs r x)))) := fun {x} hx => by
          unfold val
          by_cases e : x = ""
          · rw [if_pos e]
            exact .inl ⟨e, rfl⟩
          · rw [if_neg e]
            have : x ∈ cs := by
              rcases name_or hx with z | z
              · exact absurd z e
              · exact z
            exact .inr ⟨e, valF_dict cs r x [] hN this hl⟩
        refine ⟨.ref d, rfl, .str t.1, rfl, d, t.1, _, val cs r t.1, rfl, h2.keep e1, look o1, ?_⟩
        refine ⟨.ref d, rfl, .str t.2.1, rfl, d, t.2.1, _, val cs r t.2.1, rfl, h2.keep e1, look o2, ?_⟩
        refine ⟨_, rfl, _, _, rfl, rfl, _, _, rfl, rfl, ?_⟩
        have il : i < L.length := (List.getElem?_eq_some_iff.mp ht).1
        refine ⟨_, h1, ?_, bs ++ [decide (val cs r t.1 ≤ val cs r t.2.1 + t.2.2)], ?_, ?_, ?_, ?_⟩
        · rw [List.length_map]
          exact small1000 (by omega)
        · rw [upd_same, List.map_append]
          rfl
        · exact h2.own hD
        · rw [List.length_append, h3]
          rfl
        · unfold inB at h4 ⊢
          rw [List.take_add_one, ht, Option.toList_some, List.all_append, List.all_append, h4]
          congr 1
          simp only [List.all_cons, List.all_nil, Bool.and_true, id]
          rw [decide_eq_decide]
          omega
      · rintro H' ⟨bs, h1, h2, h3, h4⟩
        refine ⟨D, bs, rfl, SqL.of h1, ?_⟩
        rw [hxs.len, List.take_length] at h4
        rw [h4]
        exact q H' (s1.trans h2)
end
end K91

namespace K91
open PySem PySem.Spec PyProof.Rows L2
open ZM (getT putT)

/-- the law's own names -/
def nmL (cs : List Str) : List Str := cs ++ [("" : Str)]
theorem nmL_len (cs : List Str) : (nmL cs).length = cs.length + 1 := by
  unfold nmL
  rw [List.length_append]
  rfl
theorem nmL_mem {cs : List Str} {x : Str} : x ∈ nmL cs ↔ x ∈ (("" : Str) :: cs) := by
  unfold nmL
  simp only [List.mem_append, List.mem_cons, List.not_mem_nil, or_false]
  exact Or.comm
theorem sqt_sm {K : PySem.W.Frag} {H H' : Hp} {a : Addr} {xs : List V} (h : SqT K H a xs) (s : Sm [] H H') : SqT K H' a xs := by
  rcases h with (h | ⟨o, h⟩) | h
  · exact .inl (.inl (s.keep h))
  · exact .inl (.inr ⟨o, s.keep h⟩)
  · exact .inr h
/-- the names and the empty name after them, as a term -/
theorem names_rd {K : PySem.W.Frag} {σ : L2.St} {H : Hp} {R : VK} {a : Addr} {cs : List Str} {i : Nat} (h0 : σ[i]? = some (some (.ref a))) (hA : SqT K H a (cs.map V.str)) (hc : cs ≠ []) (hl : cs.length ≤ 3)
    (q : ∀ nA H2, Sm [] H H2 → H nA = none → H2 nA = some (.tup ((nmL cs).map V.str)) → R (.ref nA) H2) : tOp (rCatA K) (tVar i) (tTup (tCons (tC (.str ("" : Str))) tNil)) σ H R := by
  refine ⟨.ref a, h0, (by show 1 ≤ sizeLine; decide), fun p hp => ?_⟩
  have s1 : Sm [] H (upd H p (.tup [.str ("" : Str)])) := Sm.refl.new hp
  have e1 : (upd H p (.tup [.str ("" : Str)])) p = some (.tup [.str ("" : Str)]) := upd_same
  have a1 : SqT K (upd H p (.tup [.str ("" : Str)])) a (cs.map V.str) := sqt_sm hA s1
  generalize upd H p (.tup [.str ("" : Str)]) = H1 at s1 e1 a1
  refine ⟨a, p, _, _, rfl, rfl, a1, SqT.of e1, ?_, fun z => ?_, fun _ z => ?_, fun _ _ nA hn => ?_⟩
  · rw [List.length_map]
    have := small16 (n := cs.length + 1) (by omega)
    show cs.length + 1 ≤ sizeLine
    omega
  · exact absurd (List.map_eq_nil_iff.mp z) hc
  · cases z
  · refine q nA _ (s1.new hn) (s1.free hn (by simp)) ?_
    rw [upd_same]
    unfold nmL
    rw [List.map_append]
    rfl
/-- while the law's table is made -/
structure Fk (H : Hp) (d : Addr) (M : Tb) (H' : Hp) : Prop where
  sm : Sm [] H H'
  tab : TabAt H' d M
  new : H d = none
theorem Fk.more {H H' H2 : Hp} {d : Addr} {M : Tb} (f : Fk H d M H') (s : Sm [] H' H2) : Fk H d M H2 := ⟨f.sm.trans s, s.keep f.tab, f.new⟩
theorem Fk.add {H H' : Hp} {d : Addr} {M : Tb} (f : Fk H d M H') {p : Addr} {o : HO} (hp : H' p = none) : Fk H d M (upd H' p o) := f.more (Sm.refl.new hp)
theorem Fk.put {H H' : Hp} {d : Addr} {M M' : Tb} (f : Fk H d M H') : Fk H d M' (upd H' d (.dT (dTb M'))) := ⟨f.sm.own f.new, upd_same, f.new⟩
abbrev rMin2 : List V → Hp → VK → Prop := fun xs H Q => ∃ i j, xs = [.int i, .int j] ∧ Q (.int (if j < i then j else i)) H
/-- an entry goes down to k, if that is less -/
theorem min_putL {D : Ends} {σ : L2.St} {H H' : Hp} {d : Addr} {M : Tb} {i j : Str} {k : Int} {n1 n2 n3 n4 : Nat} (f : Fk H d M H') (hl : M.length ≤ 16) (h1 : σ[n1]? = some (some (.ref d))) (h2 : σ[n2]? = some (some (.str i))) (h3 : σ[n3]? = some (some (.str j)))
    (h4 : σ[n4]? = some (some (.int k))) (q : ∀ H2, Fk H d (ZM.low M (i, j) k) H2 → (∀ b xs, H' b = some (.tup xs) → H2 b = some (.tup xs)) → D.nx σ H2) :
    sDPut (tVar n1) (tTup (tCons (tVar n2) (tCons (tVar n3) tNil))) (tCB rMin2 (tCons (tVar n4) (tCons (tDGet2 (tVar n1) (tTup (tCons (tVar n2) (tCons (tVar n3) tNil))) (tVar n4)) tNil))) D σ H' := by
  refine ⟨.int k, h4, .ref d, h1, d, rfl, .inr ⟨_, .inl f.tab⟩, .str i, h2, .str j, h3, (by show 2 ≤ sizeLine; decide), fun p hp => ?_⟩
  have f1 : Fk H d M (upd H' p (.tup [.str i, .str j])) := f.add hp
  have e1 : (upd H' p (.tup [.str i, .str j])) p = some (.tup [.str i, .str j]) := upd_same
  have k1 : Kp H' (upd H' p (.tup [.str i, .str j])) := Kp.refl.new hp
  generalize upd H' p (.tup [.str i, .str j]) = H1 at f1 e1 k1
  refine ⟨.int k, h4, _, get_tab (p := (i, j)) f1.tab e1, ?_⟩
  rw [getD_int]
  refine ⟨k, _, rfl, ?_⟩
  rw [min_if]
  refine ⟨.ref d, h1, .str i, h2, .str j, h3, (by show 2 ≤ sizeLine; decide), fun p2 hp2 => ?_⟩
  have f2 : Fk H d M (upd H1 p2 (.tup [.str i, .str j])) := f1.add hp2
  have e2 : (upd H1 p2 (.tup [.str i, .str j])) p2 = some (.tup [.str i, .str j]) := upd_same
  have k2 : Kp H1 (upd H1 p2 (.tup [.str i, .str j])) := Kp.refl.new hp2
  generalize upd H1 p2 (.tup [.str i, .str j]) = H2 at f2 e2 k2
  refine ⟨d, _, rfl, put_tab (p := (i, j)) f2.tab e2 hl, q _ f2.put fun b xs e => ?_⟩
  rw [upd_ne (ne_of (k2 _ _ (k1 _ _ e)) f2.tab (by intro z; cases z))]
  exact k2 _ _ (k1 _ _ e)
/-- known[x, y], there -/
theorem get_rd {σ : L2.St} {H : Hp} {d : Addr} {M : Tb} {i j : Str} {v : Int} {n1 n2 n3 : Nat} {R : VK} (h : TabAt H d M) (h1 : σ[n1]? = some (some (.ref d))) (h2 : σ[n2]? = some (some (.str i))) (h3 : σ[n3]? = some (some (.str j)))
    (g : getT M (i, j) = some v) (q : ∀ p H2, H p = none → H2 = upd H p (.tup [.str i, .str j]) → R (.int v) H2) : tDGet (tVar n1) (tTup (tCons (tVar n2) (tCons (tVar n3) tNil))) σ H R := by
  refine ⟨.ref d, h1, .str i, h2, .str j, h3, (by show 2 ≤ sizeLine; decide), fun p hp => ?_⟩
  have e1 : (upd H p (.tup [.str i, .str j])) p = some (.tup [.str i, .str j]) := upd_same
  have t1 : TabAt (upd H p (.tup [.str i, .str j])) d M := by
    show upd H p (.tup [.str i, .str j]) d = _
    rw [upd_ne (ne_of_none h hp)]
    exact h
  have g2 := get_tab (p := (i, j)) t1 e1
  rw [g] at g2
  exact ⟨d, _, rfl, g2, q p _ hp rfl⟩
/-- (x, y) in known -/
theorem in_rd {σ : L2.St} {H : Hp} {d : Addr} {M : Tb} {i j : Str} {n1 n2 n3 : Nat} {R : VK} (h : TabAt H d M) (h1 : σ[n1]? = some (some (.ref d))) (h2 : σ[n2]? = some (some (.str i))) (h3 : σ[n3]? = some (some (.str j)))
    (q : ∀ p H2, H p = none → H2 = upd H p (.tup [.str i, .str j]) → R (.bl (getT M (i, j)).isSome) H2) : tDIn (tTup (tCons (tVar n2) (tCons (tVar n3) tNil))) (tVar n1) σ H R := by
  refine ⟨.str i, h2, .str j, h3, (by show 2 ≤ sizeLine; decide), fun p hp => ?_⟩
  have e1 : (upd H p (.tup [.str i, .str j])) p = some (.tup [.str i, .str j]) := upd_same
  have t1 : TabAt (upd H p (.tup [.str i, .str j])) d M := by
    show upd H p (.tup [.str i, .str j]) d = _
    rw [upd_ne (ne_of_none h hp)]
    exact h
  have g2 := get_tab (p := (i, j)) t1 e1
  refine ⟨.ref d, h1, d, _, rfl, g2, ?_⟩
  have := q p _ hp rfl
  cases g : getT M (i, j) with
  | none => rw [g] at this; exact this
  | some v => rw [g] at this; exact this
theorem diag_merge : ∀ (ns : List Str) (M : Tb), mergeT (dTb M) (ns.map fun x => (encP (x, x), V.int 0)) = dTb (ns.foldl (fun M x => putT M (x, x) 0) M)
  | [], M => rfl
  | x :: ns, M => by
    have ih := diag_merge ns (putT M (x, x) 0)
    have e : mergeT (dTb M) ((x :: ns).map fun x => (encP (x, x), V.int 0)) = mergeT (putK (dTb M) (encP (x, x)) (.int 0)) (ns.map fun x => (encP (x, x), V.int 0)) := rfl
    rw [e, dTb_put, ih]
    rfl
end K91

namespace K91
open PySem PySem.Spec PyProof.Rows L2
open ZM (getT putT)
abbrev sTo : Stmt := topS 18
abbrev nTo : List Str := ["columns", "bounds", "one", "known", "other", "k", "mid", "way"]
theorem scTo : FnScope ["columns", "bounds", "one", "known", "other", "k", "mid", "way"] ["columns", "bounds"] (defScope sTo) := ⟨rfl, rfl, rfl, by decide +kernel, rfl, by decide +kernel, by decide +kernel⟩
abbrev tNames (K : PySem.W.Frag) (i : Nat) : TE := tOp (rCatA K) (tVar i) (tTup (tCons (tC (.str ("" : Str))) tNil))
theorem if_in {t : TT} {a b : TS} {D : Ends} {σ : L2.St} {H : Hp} (h : t σ H fun c H1 => if c = true then a D σ H1 else b D σ H1) : tIfS t a b D σ H := h
theorem and_in {t u : TT} {σ : L2.St} {H : Hp} {Q : Bool → Hp → Prop} (h : t σ H fun c H1 => if c = true then u σ H1 Q else Q false H1) : tAnd t u σ H Q := h
theorem b_in {t : TE} {σ : L2.St} {H : Hp} {Q : Bool → Hp → Prop} (h : t σ H fun x H1 => ∃ d, x = .bl d ∧ Q d H1) : tB t σ H Q := h
theorem op_in {rd : R2} {t u : TE} {σ : L2.St} {H : Hp} {Q : VK} (h : t σ H fun x H1 => u σ H1 fun y H2 => rd x y H2 Q) : tOp rd t u σ H Q := h
theorem test_in {t : TE} {σ : L2.St} {H : Hp} {Q : Bool → Hp → Prop} (h : t σ H fun x H1 => ∃ k, x = .bl k ∧ Q k H1) : tTest t σ H Q := h
theorem seq_in {t u : TS} {D : Ends} {σ : L2.St} {H : Hp} (h : t { D with nx := fun σ' H' => u D σ' H' } σ H) : tSeq t u D σ H := h
theorem asg_in {te : TE} {g : TG} {D : Ends} {σ : L2.St} {H : Hp} (h : te σ H fun v H1 => g v σ H1 D.nx) : tAsg te g D σ H := h
section
variable {P : Program} {w : World} {K : PySem.W.Frag} {mg : Str → Option Value} {base : Heap}
def spTo (K : PySem.W.Frag) : Sp := fun vs H Q _ => ∃ (a b : Addr) (cs : List Str) (B : List Tr), vs = [.ref a, .ref b] ∧ SqT K H a (cs.map V.str) ∧ Bds H b B ∧ ZM.Bok (nmL cs) B ∧ cs ≠ [] ∧ cs.length ≤ 3 ∧
  (ZM.negD (nmL cs) (ZM.ltab (nmL cs) B) = true → ∀ H', Sm [] H H' → Q .non H') ∧
  (ZM.negD (nmL cs) (ZM.ltab (nmL cs) B) = false → ∀ d H', Sm [] H H' → H d = none → TabAt H' d (ZM.ltab (nmL cs) B) → Q (.ref d) H')
abbrev Lk (a b d : Addr) (y2 y4 y5 y6 y7 : Option V) : L2.St := [some (.ref a), some (.ref b), y2, some (.ref d), y4, y5, y6, y7]
theorem ok_to {f : Addr} {fd : FuncData} (F : Fun K "_law_table_of" "_law_table_of" sTo f fd) (B : Bn mg) : FnOk P w K mg base CX0 1 f fd ["columns", "bounds"] (spTo K) := by
  refine F.ok scTo (fun vs H Q E h => ?_) (fun cdv A outer s H vs Q E hr h => ?_)
  · obtain ⟨a, b, cs, L, rfl, _⟩ := h
    rfl
  · obtain ⟨a, b, cs, L, rfl, hA, hB, hO, hc, hl, qN, qT⟩ := h
    have nd := scTo.nd
    have hu := hu_of hr
    refine ⟨_, pss_cons (ps_if (pt_cmpR op_isN (pv 1) pe_non (nomark _)) (pss_one (ps_ret pe_non)) pss_nil)
      (pss_cons (ps_set (i := 3) nd rfl (.inr rfl) (pe_callTy (call_dictT rfl (un8_of hr)) (by rfl) B.dict boot_dict (pa_cons
        (pe_lc (own := [("one", 2)]) (g := gName 2) (tt := tYes) (te := tTup (tCons (tTup (tCons (tVar 2) (tCons (tVar 2) tNil))) (tCons (tC (.int 0)) tNil))) rfl nd (pi_tup (pe_op op_catA (pv 0) (pe_tup (pa_cons pe_str pa_nil)))) (blkOk_by (N := nTo) (sc := defScope sTo) (by decide +kernel))
          (fun _ _ _ _ _ => pg_name (i := 2) nd rfl (.inl rfl)) (fun _ _ _ _ _ => pts_nil) (fun _ _ _ _ _ => pe_tup (pa_cons (pe_tup (pa_cons (pv 2) (pa_cons (pv 2) pa_nil))) (pa_cons pe_int pa_nil)))) pa_nil)))
      (pss_cons (ps_for PassesOwn.never rfl (pi_tup (pv 1)) (pg_tup rfl (pgs_cons (pg_name (i := 2) nd rfl (.inl rfl)) (pgs_cons (pg_name (i := 4) nd rfl (.inl rfl)) (pgs_cons (pg_name (i := 5) nd rfl (.inl rfl)) pgs_nil))))
        (pss_one (ps_dput hu (pv 3) (pe_tup (pa_cons (pv 2) (pa_cons (pv 4) pa_nil))) (pe_callB (call_min2 rfl) (by rfl) B.min boot_min (pa_cons (pv 5) (pa_cons (pe_dget2 hu (pv 3) (pe_tup (pa_cons (pv 2) (pa_cons (pv 4) pa_nil))) (pv 5) ⟨by rfl, by rfl, by rfl, by rfl⟩) pa_nil))) (by rfl))))
      (pss_cons (ps_for PassesOwn.never rfl (pi_tup (pe_op op_catA (pv 0) (pe_tup (pa_cons pe_str pa_nil)))) (pg_name (i := 6) nd rfl (.inl rfl))
        (pss_one (ps_for PassesOwn.never rfl (pi_tup (pe_op op_catA (pv 0) (pe_tup (pa_cons pe_str pa_nil)))) (pg_name (i := 2) nd rfl (.inl rfl))
          (pss_one (ps_for PassesOwn.never rfl (pi_tup (pe_op op_catA (pv 0) (pe_tup (pa_cons pe_str pa_nil)))) (pg_name (i := 4) nd rfl (.inl rfl))
            (pss_one (ps_if (PW.pt (pw_and (pt_cmp (pc_din hu (pe_tup (pa_cons (pv 2) (pa_cons (pv 6) pa_nil))) (pv 3))) (pw_and1 (pt_cmp (pc_din hu (pe_tup (pa_cons (pv 6) (pa_cons (pv 4) pa_nil))) (pv 3))))))
              (pss_cons (ps_set (i := 7) nd rfl (.inl rfl) (pe_op op_add (pe_dget hu (pv 3) (pe_tup (pa_cons (pv 2) (pa_cons (pv 6) pa_nil))) (fun _ _ => rfl)) (pe_dget hu (pv 3) (pe_tup (pa_cons (pv 6) (pa_cons (pv 4) pa_nil))) (fun _ _ => rfl))))
              (pss_one (ps_dput hu (pv 3) (pe_tup (pa_cons (pv 2) (pa_cons (pv 4) pa_nil))) (pe_callB (call_min2 rfl) (by rfl) B.min boot_min (pa_cons (pv 7) (pa_cons (pe_dget2 hu (pv 3) (pe_tup (pa_cons (pv 2) (pa_cons (pv 4) pa_nil))) (pv 7) ⟨by rfl, by rfl, by rfl, by rfl⟩) pa_nil))) (by rfl)))) pss_nil)))))))
      (pss_one (ps_ret (pe_ifExp (pt_cmpR (op_neD hr.units) (pe_lc (own := [("one", 2)]) (g := gName 2) (tt := tTest (tOp (rI0 fun i j => .bl (decide (i < j))) (tDGet (tVar 3) (tTup (tCons (tVar 2) (tCons (tVar 2) tNil)))) (tC (.int 0)))) (te := tC (.int 1)) rfl nd
            (pi_tup (pe_op op_catA (pv 0) (pe_tup (pa_cons pe_str pa_nil)))) (blkOk_by (N := nTo) (sc := defScope sTo) (by decide +kernel))
          (fun _ _ _ _ _ => pg_name (i := 2) nd rfl (.inl rfl)) (fun _ _ _ _ _ => pts_one (pt_cmpR op_lt (pe_dget hu (pv 3) (pe_tup (pa_cons (pv 2) (pa_cons (pv 2) pa_nil))) (fun _ _ => rfl)) pe_int (nomark _))) (fun _ _ _ _ _ => pe_int)) (pe_lst pa_nil) (nomark _)) pe_non (pv 3))))))), ?_⟩
    refine ⟨.ref b, rfl, rfl, _, rfl, ite2 (fun z => by simp at z) fun _ => ?_⟩
    have h4 : (nmL cs).length ≤ 4 := by rw [nmL_len]; omega
    refine names_rd rfl hA hc hl fun nA H1 s1 hn0 n1 => ⟨nA, rfl, ⟨_, SqT.of n1⟩, fun D hD => ?_⟩
    refine lc_tup (K := K) (a := nA) (xs := (nmL cs).map V.str) (fun i H' => ∃ L' : List Pr, H' D = some (.lst (L'.map fun q => V.ref q.t)) ∧ Sm [] H1 H' ∧ (∀ q ∈ L', q.ok H') ∧ L'.map (fun q => (q.key, q.v)) = ((nmL cs).take i).map (fun x => (encP (x, x), V.int 0))) ?_ ?_ ?_ ?_
    · exact ⟨[], upd_same, Sm.refl.new hD, fun q h => absurd h (by simp), rfl⟩
    · rintro i H' _ ⟨L', h1, h2, h3, h4⟩
      exact SqT.of (h2.keep n1)
    · rintro i x H' hx ⟨L', h1, h2, h3, h5⟩
      obtain ⟨z, hz, rfl⟩ := str_at hx
      refine ⟨rfl, ?_⟩
      refine ⟨.str z, rfl, .str z, rfl, (by show 2 ≤ sizeLine; decide), fun p1 hp1 => ?_⟩
      refine ⟨(by show 2 ≤ sizeLine; decide), fun p2 hp2 => ?_⟩
      have s2 : Sm [] H' (upd (upd H' p1 (.tup [.str z, .str z])) p2 (.tup [.ref p1, .int 0])) := (Sm.refl.new hp1).new hp2
      have e1 : (upd (upd H' p1 (.tup [.str z, .str z])) p2 (.tup [.ref p1, .int 0])) p1 = some (.tup [.str z, .str z]) := by
        rw [upd_ne (ne_of_none upd_same hp2)]
        exact upd_same
      have e2 : (upd (upd H' p1 (.tup [.str z, .str z])) p2 (.tup [.ref p1, .int 0])) p2 = some (.tup [.ref p1, .int 0]) := upd_same
      show ∃ acc, (upd (upd H' p1 (.tup [.str z, .str z])) p2 (.tup [.ref p1, .int 0])) D = some (.lst acc) ∧ _
      generalize upd (upd H' p1 (.tup [.str z, .str z])) p2 (.tup [.ref p1, .int 0]) = H2 at s2 e1 e2
      have kp : Kp H2 (upd H2 D (.lst (L'.map (fun q => V.ref q.t) ++ [.ref p2]))) := fun b xs e => by
        rw [upd_ne (ne_of e (s2.keep h1) (by intro z; cases z))]
        exact e
      have il : i < (nmL cs).length := (List.getElem?_eq_some_iff.mp hz).1
      have hlen : L'.length = i := by
        have := congrArg List.length h5
        rw [List.length_map, List.length_map, List.length_take] at this
        omega
      refine ⟨_, s2.keep h1, by rw [List.length_map]; exact small16 (by omega), L' ++ [⟨p2, p1, encP (z, z), .int 0⟩], ?_, ?_, ?_, ?_⟩
      · rw [upd_same, List.map_append]
        rfl
      · exact (h2.trans s2).own hD
      · intro q hq
        rcases List.mem_append.mp hq with hq | hq
        · obtain ⟨a1, a2⟩ := h3 q hq
          exact ⟨kp _ _ (s2.keep a1), kp _ _ (s2.keep a2)⟩
        · rw [List.mem_singleton] at hq
          subst hq
          exact ⟨kp _ _ e2, kp _ _ e1⟩
      · rw [List.take_add_one, hz, List.map_append, h5, List.map_append]
        rfl
    rintro H2 ⟨L', h1, h2, h3, h5⟩
    refine ⟨D, L', rfl, SqL.of h1, h3, fun d hd => ?_⟩
    rw [List.length_map, List.take_length] at h5
    rw [h5, show ([] : List (List Key × V)) = dTb [] from rfl, diag_merge]
    have f0 : Fk H d (ZM.diag (nmL cs)) (upd H2 d (.dT (dTb (ZM.diag (nmL cs))))) := ⟨(s1.trans h2).new hd, upd_same, (s1.trans h2).free hd (by simp)⟩
    show tSeq _ _ _ _ (upd H2 d (.dT (dTb (ZM.diag (nmL cs)))))
    generalize upd H2 d (.dT (dTb (ZM.diag (nmL cs)))) = H3 at f0
    clear h1 h2 h3 h5 s1 n1 hD hd
    obtain ⟨xs, hb, hxs⟩ := hB
    have hlx := hxs.len
    generalize hns : nmL cs = ns at *
    -- the bounds
    refine ⟨.ref b, rfl, b, rfl, ⟨xs, SqT.of (f0.sm.keep hb)⟩, for_tup (xs := xs) (fun i σ H' => ∃ M y2 y4 y5 y6 y7, σ = Lk a b d y2 y4 y5 y6 y7 ∧ Fk H d M H' ∧ M = (L.take i).foldl ZM.addB (ZM.diag ns) ∧ ZM.Inv true ns L M) ?_ ?_ ?_ ?_⟩
    · exact ⟨_, none, none, none, none, none, rfl, f0, rfl, ZM.diag_inv⟩
    · rintro i σ H' _ ⟨M, y2, y4, y5, y6, y7, rfl, f, _⟩
      exact SqT.of (f.sm.keep hb)
    · rintro i x σ H' hx ⟨M, y2, y4, y5, y6, y7, rfl, f, rfl, I⟩
      obtain ⟨t, ht, p, rfl, hp⟩ := hxs.get hx
      refine ⟨p, _, rfl, SqT.of (f.sm.keep hp), rfl, _, _, rfl, _, _, rfl, _, _, rfl, rfl, ?_⟩
      have hm : t ∈ L := List.mem_of_getElem? ht
      obtain ⟨o1, o2, o3⟩ := hO t hm
      refine min_putL (i := t.1) (j := t.2.1) (k := t.2.2) f (inv_len I h4) rfl rfl rfl rfl fun H3 f3 _ => ?_
      refine ⟨_, _, _, _, _, _, rfl, f3, ?_, I.low (.inl (.one hm)) ⟨o1, o2, .inr o3⟩⟩
      rw [fold_take ht]
      rfl
    rintro σ H4 ⟨M, y2, y4, y5, y6, y7, rfl, f, rfl, I⟩
    have hxl : L.take xs.length = L := by rw [hlx, List.take_length]
    rw [hxl] at f I
    generalize hM0 : L.foldl ZM.addB (ZM.diag ns) = M0 at f I
    have tl : ns.take (ns.map V.str).length = ns := by rw [List.length_map, List.take_length]
    have hAs : ∀ {M H'}, Fk H d M H' → SqT K H' a (cs.map V.str) := fun f => sqt_sm hA f.sm
    -- the middles
    refine names_rd rfl (hAs f) hc hl fun nA H5 s5 _ n5 => ⟨nA, rfl, ⟨_, SqT.of n5⟩, ?_⟩
    rw [hns] at n5
    refine for_tup (xs := ns.map V.str) (fun i σ H' => ∃ M y2 y4 y5 y6 y7, σ = Lk a b d y2 y4 y5 y6 y7 ∧ Fk H d M H' ∧ Kp H5 H' ∧ M = ZM.fwF true (ns.take i) ns M0 ∧ ZM.Inv true ns L M) ?_ ?_ ?_ ?_
    · exact ⟨M0, y2, y4, y5, y6, y7, rfl, f.more s5, Kp.refl, rfl, I⟩
    · rintro i σ H' _ ⟨M, y2, y4, y5, y6, y7, rfl, f, kp, _⟩
      exact SqT.of (kp _ _ n5)
    · rintro im x σ H6 hx ⟨M1, y2, y4, y5, y6, y7, rfl, f, kp, hM1, I⟩
      obtain ⟨m, hm, rfl⟩ := str_at hx
      refine names_rd rfl (hAs f) hc hl fun nB H7 s7 _ n7 => ⟨nB, rfl, ⟨_, SqT.of n7⟩, ?_⟩
      rw [hns] at n7
      refine for_tup (xs := ns.map V.str) (fun i σ H' => ∃ M y2 y4 y7, σ = Lk a b d y2 y4 y5 (some (.str m)) y7 ∧ Fk H d M H' ∧ Kp H7 H' ∧ M = (ns.take i).foldl (fun M i => ZM.rowF true m i ns M) M1 ∧ ZM.Inv true ns L M) ?_ ?_ ?_ ?_
      · exact ⟨M1, y2, y4, y7, rfl, f.more s7, Kp.refl, rfl, I⟩
      · rintro i σ H' _ ⟨M, y2, y4, y7, rfl, f, kp, _⟩
        exact SqT.of (kp _ _ n7)
      · rintro ii x σ H8 hx ⟨M2, y2, y4, y7, rfl, f, kp2, hM2, I⟩
        obtain ⟨i, hi, rfl⟩ := str_at hx
        refine names_rd rfl (hAs f) hc hl fun nC H9 s9 _ n9 => ⟨nC, rfl, ⟨_, SqT.of n9⟩, ?_⟩
        rw [hns] at n9
        refine for_tup (xs := ns.map V.str) (fun n σ H' => ∃ M y4 y7, σ = Lk a b d (some (.str i)) y4 y5 (some (.str m)) y7 ∧ Fk H d M H' ∧ Kp H9 H' ∧ M = (ns.take n).foldl (fun M j => ZM.stp true m i j M) M2 ∧ ZM.Inv true ns L M) ?_ ?_ ?_ ?_
        · exact ⟨M2, y4, y7, rfl, f.more s9, Kp.refl, rfl, I⟩
        · rintro n σ H' _ ⟨M, y4, y7, rfl, f, kp, _⟩
          exact SqT.of (kp _ _ n9)
        · rintro ij x σ H' hx ⟨M3, y4, y7, rfl, f, kp3, hM3, I⟩
          obtain ⟨j, hj, rfl⟩ := str_at hx
          have stepE : (ns.take (ij + 1)).foldl (fun M j => ZM.stp true m i j M) M2 = ZM.stp true m i j M3 := by
            rw [fold_take hj, ← hM3]
          have I2 := I.stp m i j
          have stay : ∀ {σ' H'}, σ' = Lk a b d (some (.str i)) (some (.str j)) y5 (some (.str m)) y7 → Fk H d M3 H' → Kp H9 H' → ZM.stp true m i j M3 = M3 → ∃ M y4 y7, σ' = Lk a b d (some (.str i)) y4 y5 (some (.str m)) y7 ∧ Fk H d M H' ∧ Kp H9 H' ∧ M = (ns.take (ij + 1)).foldl (fun M j => ZM.stp true m i j M) M2 ∧ ZM.Inv true ns L M := fun e f kp es =>
            ⟨M3, _, _, e, f, kp, by rw [stepE, es], I⟩
          have stp_eq : ZM.stp true m i j M3 = match getT M3 (i, m), getT M3 (m, j) with | some a, some b => ZM.low M3 (i, j) (a + b) | _, _ => M3 := by
            unfold ZM.stp
            rw [if_pos (by simp)]
            all_goals rfl
          show tIfS _ _ _ _ (Lk a b d (some (.str i)) (some (.str j)) y5 (some (.str m)) y7) H'
          refine if_in (and_in (b_in ?_))
          refine in_rd (M := M3) (i := i) (j := m) f.tab rfl rfl rfl fun p1 Ha hp1 ea => ⟨_, rfl, ?_⟩
          have f1 : Fk H d M3 Ha := by rw [ea]; exact f.add hp1
          have k1 : Kp H9 Ha := by rw [ea]; exact kp3.new hp1
          cases g1 : getT M3 (i, m) with
          | none =>
            refine ite2 (fun z => by cases z) fun _ => ite2 (fun z => by cases z) fun _ => ?_
            exact stay rfl f1 k1 (by rw [stp_eq, g1])
          | some va =>
            refine ite2 (fun _ => ?_) (fun z => absurd rfl z)
            refine b_in ?_
            refine in_rd (M := M3) (i := m) (j := j) f1.tab rfl rfl rfl fun p2 Hb hp2 eb => ⟨_, rfl, ?_⟩
            have f2 : Fk H d M3 Hb := by rw [eb]; exact f1.add hp2
            have k2 : Kp H9 Hb := by rw [eb]; exact k1.new hp2
            cases g2 : getT M3 (m, j) with
            | none =>
              refine ite2 (fun z => by cases z) fun _ => ?_
              exact stay rfl f2 k2 (by rw [stp_eq, g1, g2])
            | some vb =>
              refine ite2 (fun _ => ?_) (fun z => absurd rfl z)
              refine seq_in (asg_in (op_in ?_))
              refine get_rd (M := M3) (i := i) (j := m) f2.tab rfl rfl rfl g1 fun p3 Hc hp3 ec => ?_
              have f3 : Fk H d M3 Hc := by rw [ec]; exact f2.add hp3
              have k3 : Kp H9 Hc := by rw [ec]; exact k2.new hp3
              refine get_rd (M := M3) (i := m) (j := j) f3.tab rfl rfl rfl g2 fun p4 Hd hp4 ed => ?_
              have f4 : Fk H d M3 Hd := by rw [ed]; exact f3.add hp4
              have k4 : Kp H9 Hd := by rw [ed]; exact k3.new hp4
              refine ⟨va, vb, rfl, rfl, ?_⟩
              show sDPut (tVar 3) (tTup (tCons (tVar 2) (tCons (tVar 4) tNil))) (tCB rMin2 (tCons (tVar 7) (tCons (tDGet2 (tVar 3) (tTup (tCons (tVar 2) (tCons (tVar 4) tNil))) (tVar 7)) tNil))) _ (Lk a b d (some (.str i)) (some (.str j)) y5 (some (.str m)) (some (.int (va + vb)))) Hd
              refine min_putL (i := i) (j := j) (k := va + vb) f4 (inv_len I h4) rfl rfl rfl rfl fun He f5 k5 => ?_
              refine ⟨_, _, _, rfl, f5, fun b xs e => k5 _ _ (k4 _ _ e), ?_, ?_⟩
              · rw [stepE, stp_eq, g1, g2]
              · rw [stp_eq, g1, g2] at I2
                exact I2
        · rintro σ H' ⟨M, y4, y7, rfl, f, k9, hM, I⟩
          rw [tl] at hM
          refine ⟨M, _, _, _, rfl, f, (kp2.trans s9.kp).trans k9, ?_, I⟩
          rw [fold_take hi, ← hM2]
          exact hM
      · rintro σ H' ⟨M, y2, y4, y7, rfl, f, k7, hM, I⟩
        rw [tl] at hM
        refine ⟨M, _, _, _, _, _, rfl, f, (kp.trans s7.kp).trans k7, ?_, I⟩
        unfold ZM.fwF at hM1 ⊢
        rw [fold_take hm, ← hM1]
        exact hM
    rintro σ H6 ⟨M, y2, y4, y5, y6, y7, rfl, f, kp, hM, I⟩
    rw [tl] at hM
    have hT : M = ZM.ltab ns L := by
      rw [hM]
      unfold ZM.ltab
      rw [hM0]
    subst hT
    -- the answer
    refine names_rd rfl (hAs f) hc hl fun nA2 H7 s7 _ n7 => ⟨nA2, rfl, ⟨_, SqT.of n7⟩, fun D hD => ?_⟩
    rw [hns] at n7
    have fT := f.more s7
    refine lc_tup (K := K) (a := nA2) (xs := ns.map V.str) (fun i H' => ∃ ones : List Int, H' D = some (.lst (ones.map V.int)) ∧ Sm [] H7 H' ∧ ones.length ≤ i ∧ (ones = [] ↔ ∀ x ∈ ns.take i, ∀ v, getT (ZM.ltab ns L) (x, x) = some v → ¬ v < 0)) ?_ ?_ ?_ ?_
    · exact ⟨[], upd_same, Sm.refl.new hD, Nat.le_refl _, ⟨fun _ x h => absurd h (by simp), fun _ => rfl⟩⟩
    · rintro i H' _ ⟨ones, h1, h2, h3, h5⟩
      exact SqT.of (h2.keep n7)
    · rintro i x H' hx ⟨ones, h1, h2, h3, h5⟩
      obtain ⟨z, hz, rfl⟩ := str_at hx
      refine ⟨rfl, ?_⟩
      obtain ⟨v, g, _⟩ := ZM.ltab_diag hO (List.mem_of_getElem? hz)
      have il : i < ns.length := (List.getElem?_eq_some_iff.mp hz).1
      have mem1 : ∀ y, y ∈ ns.take (i + 1) ↔ y ∈ ns.take i ∨ y = z := fun y => by
        rw [List.take_add_one, hz]
        simp
      refine test_in (op_in ?_)
      refine get_rd (M := ZM.ltab ns L) (i := z) (j := z) (h2.keep fT.tab) rfl rfl rfl g fun p H8 hp e8 => ?_
      have s8 : Sm [] H' H8 := by rw [e8]; exact Sm.refl.new hp
      refine ⟨v, 0, rfl, rfl, _, rfl, ite2 (fun hlt => ?_) (fun hlt => ?_)⟩
      · have hlt' : v < 0 := of_decide_eq_true hlt
        refine ⟨_, s8.keep h1, by rw [List.length_map]; exact small16 (by omega), ones ++ [1], ?_, ?_, ?_, ?_⟩
        · rw [upd_same, List.map_append]
          rfl
        · exact (h2.trans s8).own hD
        · rw [List.length_append]
          show ones.length + 1 ≤ i + 1
          omega
        · refine ⟨fun h => absurd h (by simp), fun h => ?_⟩
          exact absurd hlt' (h z ((mem1 z).mpr (.inr rfl)) v g)
      · refine ⟨ones, s8.keep h1, h2.trans s8, by omega, ?_⟩
        rw [h5]
        refine ⟨fun h x hx => ?_, fun h x hx => h x ((mem1 x).mpr (.inl hx))⟩
        rcases (mem1 x).mp hx with hx | rfl
        · exact h x hx
        · intro v' e
          rw [g] at e
          cases e
          simpa using hlt
    rintro H8 ⟨ones, h1, h2, h3, h5⟩
    rw [tl] at h5
    refine ⟨Nat.zero_le _, fun p hp => ?_⟩
    have s9 : Sm [] H8 (upd H8 p (.lst [])) := Sm.refl.new hp
    have e9 : (upd H8 p (.lst [])) p = some (.lst []) := upd_same
    show rNeD _ _ _ (upd H8 p (.lst [])) _
    generalize upd H8 p (.lst []) = H9 at s9 e9
    have f9 := (fT.more h2).more s9
    refine ⟨_, _, Dp.lst (SqL.of (s9.keep h1)) (ints_dp ones), Dp.lst (SqL.of e9) .nil, ints_shaped ones, by decide, _, rfl, ?_⟩
    rw [ints_eqv_nil]
    have hneg : ZM.negD ns (ZM.ltab ns L) = !decide (ones = []) := by
      cases e : ZM.negD ns (ZM.ltab ns L) with
      | false =>
        have : ones = [] := h5.mpr fun x hx v g hv => by
          unfold ZM.negD at e
          rw [List.any_eq_false] at e
          have := e x hx
          rw [g] at this
          simp at this
          omega
        rw [this]
        rfl
      | true =>
        have : ones ≠ [] := fun z => by
          unfold ZM.negD at e
          obtain ⟨x, hx, h⟩ := List.any_eq_true.mp e
          cases g : getT (ZM.ltab ns L) (x, x) with
          | none => rw [g] at h; cases h
          | some v =>
            rw [g] at h
            exact h5.mp z x hx v g (of_decide_eq_true h)
        rw [decide_eq_false this]
        rfl
    refine ite2 (fun hb2 => ?_) (fun hb2 => ?_)
    · exact qN (hneg.trans hb2) _ f9.sm
    · refine ⟨.ref d, rfl, ?_⟩
      exact qT (hneg.trans (by simpa using hb2)) d _ f9.sm f9.new f9.tab
end
end K91

namespace K91
open PySem PySem.Spec PyProof.Rows L2
open ZM (getT putT)
abbrev sTi : Stmt := topS 19
theorem scTi : FnScope ["columns", "bounds", "known", "one", "other"] ["columns", "bounds"] (defScope sTi) := ⟨rfl, rfl, rfl, by decide +kernel, rfl, by decide +kernel, by decide +kernel⟩
section
variable {P : Program} {w : World} {K : PySem.W.Frag} {mg : Str → Option Value} {base : Heap}
def tightO (cs : List Str) (B : List Tr) : Option (List Tr) := if ZM.negD (nmL cs) (ZM.ltab (nmL cs) B) = true then none else some (sortT (ZM.trs (ZM.offD (ZM.ltab (nmL cs) B))))
def spTi (K : PySem.W.Frag) : Sp := fun vs H Q _ => ∃ (a b : Addr) (cs : List Str) (B : List Tr), vs = [.ref a, .ref b] ∧ SqT K H a (cs.map V.str) ∧ Bds H b B ∧ ZM.Bok (nmL cs) B ∧ cs ≠ [] ∧ cs.length ≤ 3 ∧
  ∀ v H', Sm [] H H' → BdsO H' v (tightO cs B) → Q v H'
theorem offD_app (M : Tb) (x : Pk × Int) : ZM.trs (ZM.offD (M ++ [x])) = ZM.trs (ZM.offD M) ++ (if x.1.1 = x.1.2 then [] else [(x.1.1, x.1.2, x.2)]) := by
  unfold ZM.offD ZM.trs
  rw [List.filter_append, List.map_append]
  congr 1
  by_cases h : x.1.1 = x.1.2
  · rw [if_pos h, List.filter_cons_of_neg (by rw [decide_eq_true_eq]; exact fun z => z h)]
    rfl
  · rw [if_neg h, List.filter_cons_of_pos (by rw [decide_eq_true_eq]; exact h)]
    rfl
theorem ok_ti {f : Addr} {fd : FuncData} (F : Fun K "_law_tight" "_law_tight" sTi f fd) (B : Bn mg) (cTo : Cal P w K mg base "_law_table_of" ["columns", "bounds"] 1 (spTo K)) : FnOk P w K mg base CX0 2 f fd ["columns", "bounds"] (spTi K) := by
  refine F.ok scTi (fun vs H Q E h => ?_) (fun cdv A outer s H vs Q E hr h => ?_)
  · obtain ⟨a, b, cs, L, rfl, _⟩ := h
    rfl
  · obtain ⟨a, b, cs, L, rfl, hA, hB, hO, hc, hl, q⟩ := h
    have nd := scTi.nd
    have hu := hu_of hr
    refine ⟨_, pss_cons (ps_set (i := 2) nd rfl (.inr rfl) (pe_own cTo hr (pa_cons (pv 0) (pa_cons (pv 1) pa_nil))))
      (pss_cons (ps_if (pt_cmpR op_isN (pv 2) pe_non (nomark _)) (pss_one (ps_ret pe_non)) pss_nil)
      (pss_one (ps_ret (pe_lock (pe_callTy call_tuple_of (by rfl) B.tuple boot_tuple (pa_cons (pe_callB (cr_sortT (un8_of hr)) (by rfl) B.sorted boot_sorted (pa_cons
        (pe_lc (own := [("one", 3), ("other", 4)]) (g := gTup K 2 (gCons (gName 3) (gCons (gName 4) gNil))) (tt := tTest (tOp rNe (tVar 3) (tVar 4)))
          (te := tTup (tCons (tVar 3) (tCons (tVar 4) (tCons (tDGet (tVar 2) (tTup (tCons (tVar 3) (tCons (tVar 4) tNil)))) tNil)))) rfl nd (pi_keys (pv 2)) (blkOk_by (N := ["columns", "bounds", "known", "one", "other"]) (sc := defScope sTi) (by decide +kernel))
          (fun _ _ _ _ _ => pg_tup rfl (pgs_cons (pg_name (i := 3) nd rfl (.inl rfl)) (pgs_cons (pg_name (i := 4) nd rfl (.inl rfl)) pgs_nil)))
          (fun _ _ _ _ _ => pts_one (pt_cmpR op_ne (pv 3) (pv 4) (nomark _))) (fun _ _ _ _ _ => pe_tup (pa_cons (pv 3) (pa_cons (pv 4) (pa_cons (pe_dget hu (pv 2) (pe_tup (pa_cons (pv 3) (pa_cons (pv 4) pa_nil))) (fun _ _ => rfl)) pa_nil))))) pa_nil)) pa_nil)))))), ?_⟩
    refine ⟨.ref a, rfl, .ref b, rfl, a, b, cs, L, rfl, hA, hB, hO, hc, hl, fun hn H' s1 => ?_, fun hn d H1 s1 hd0 hT => ?_⟩
    · refine ⟨.non, rfl, rfl, _, rfl, ite2 (fun _ => ?_) (fun z => absurd rfl z)⟩
      refine q .non H' s1 (.inl ⟨?_, rfl⟩)
      unfold tightO
      rw [if_pos hn]
    · refine ⟨.ref d, rfl, rfl, _, rfl, ite2 (fun z => by simp at z) fun _ => ?_⟩
      have ec : tightO cs L = some (sortT (ZM.trs (ZM.offD (ZM.ltab (nmL cs) L)))) := by
        unfold tightO
        rw [if_neg (by rw [hn]; simp)]
      have I : ZM.Inv true (nmL cs) L (ZM.ltab (nmL cs) L) := ZM.ltab_inv hO
      have hM16 : (ZM.ltab (nmL cs) L).length ≤ 16 := inv_len I (by rw [nmL_len]; omega)
      generalize ZM.ltab (nmL cs) L = M at *
      refine ⟨d, .dT (dTb M), hT, trivial, fun od => ?_⟩
      refine ⟨.ref d, rfl, d, od, rfl, .inr ⟨_, upd_same, fun D hD => ?_⟩⟩
      have hDd : d ≠ D := fun e => by rw [← e, upd_same] at hD; cases hD
      have hD1 : H1 D = none := by rw [upd_ne hDd.symm] at hD; exact hD
      refine lc_it walk_keysT (fun i H' => ∃ acc, H' D = some (.lst acc) ∧ H' d = some (.frz od (.dT (dTb M))) ∧ Sm [d] H1 H' ∧ TrAll H' acc (ZM.trs (ZM.offD (M.take i))) ∧ acc.length ≤ i) ?_ ?_ ?_ ?_
      · refine ⟨[], upd_same, ?_, ?_, .nil, Nat.le_refl _⟩
        · rw [upd_ne hDd, upd_same]
        · exact (Sm.refl.put (by simp)).own hD1
      · rintro i H' _ ⟨acc, h1, h2, h3, h4⟩
        exact h2
      · rintro i x H5 H4 hi ⟨acc, h1, h2, h3, h4, h5⟩ ⟨rfl, k, v, q', hkv, rfl, hq⟩
        obtain ⟨x, hx, rfl, rfl⟩ := dTb_at hkv
        have q4 : H4 q' = some (.tup [.str x.1.1, .str x.1.2]) := hq
        have hi16 : i < 16 := by
          rw [dTb_len] at hi
          omega
        refine ⟨q', _, rfl, SqT.of q4, rfl, _, _, rfl, _, _, rfl, rfl, ?_⟩
        refine ⟨rfl, ?_⟩
        refine ⟨_, rfl, _, rfl, rfl, _, rfl, ite2 (fun hne => ?_) (fun heq => ?_)⟩
        · have hne' : x.1.1 ≠ x.1.2 := by simpa using hne
          refine ⟨_, rfl, _, rfl, .ref d, rfl, .str x.1.1, rfl, .str x.1.2, rfl, (by show 2 ≤ sizeLine; decide), fun p1 hp1 => ?_⟩
          have s5 : Sm [d] H1 (upd H4 p1 (.tup [.str x.1.1, .str x.1.2])) := h3.new hp1
          have d5 : (upd H4 p1 (.tup [.str x.1.1, .str x.1.2])) d = some (.frz od (.dT (dTb M))) := by
            rw [upd_ne (ne_of_none h2 hp1)]; exact h2
          have D5 : (upd H4 p1 (.tup [.str x.1.1, .str x.1.2])) D = some (.lst acc) := by
            rw [upd_ne (ne_of_none h1 hp1)]; exact h1
          have e5 : (upd H4 p1 (.tup [.str x.1.1, .str x.1.2])) p1 = some (.tup [.str x.1.1, .str x.1.2]) := upd_same
          have k5 : Kp H4 (upd H4 p1 (.tup [.str x.1.1, .str x.1.2])) := Kp.refl.new hp1
          generalize upd H4 p1 (.tup [.str x.1.1, .str x.1.2]) = H6 at s5 d5 D5 e5 k5
          have g5 := get_tabF (p := (x.1.1, x.1.2)) d5 e5
          rw [show getT M (x.1.1, x.1.2) = some x.2 from (ZM.mem_get I.nod).mp (List.mem_of_getElem? hx)] at g5
          refine ⟨d, _, rfl, g5, (by show 3 ≤ sizeLine; decide), fun p hp => ?_⟩
          have D6 : (upd H6 p (.tup [.str x.1.1, .str x.1.2, .int x.2])) D = some (.lst acc) := by
            rw [upd_ne (ne_of_none D5 hp)]; exact D5
          refine ⟨acc, D6, small16 (by omega), acc ++ [.ref p], upd_same, ?_, ?_, ?_, ?_⟩
          · rw [upd_ne hDd, upd_ne (ne_of_none d5 hp)]; exact d5
          · exact (s5.new hp).own hD1
          · have kp2 : Kp H6 (upd H6 p (.tup [.str x.1.1, .str x.1.2, .int x.2])) := Kp.refl.new hp
            have e6 : (upd H6 p (.tup [.str x.1.1, .str x.1.2, .int x.2])) p = some (.tup (trV (x.1.1, x.1.2, x.2))) := upd_same
            generalize upd H6 p (.tup [.str x.1.1, .str x.1.2, .int x.2]) = H7 at D6 kp2 e6
            have kp3 : Kp H7 (upd H7 D (.lst (acc ++ [.ref p]))) := fun b xs e => by
              rw [upd_ne (ne_of e D6 (by intro z; cases z))]
              exact e
            rw [List.take_add_one, hx, Option.toList_some, offD_app, if_neg hne']
            exact (h4.kp ((k5.trans kp2).trans kp3)).app (.cons ⟨p, rfl, kp3 _ _ e6⟩ .nil)
          · rw [List.length_append]
            show acc.length + 1 ≤ i + 1
            omega
        · have heq' : x.1.1 = x.1.2 := by simpa using heq
          refine ⟨acc, h1, h2, h3, ?_, by omega⟩
          rw [List.take_add_one, hx, Option.toList_some, offD_app, if_pos heq', List.append_nil]
          exact h4
      · rintro H' ⟨acc, h1, h2, h3, h4, _⟩
        rw [dTb_len, List.take_length] at h4
        refine sortTail (Q := fun v H' => H' d = some (.frz od (.dT (dTb M))) ∧ Q v (upd H' d (.dT (dTb M)))) h1 h4 fun t H6 s6 hb => ?_
        refine ⟨s6.keep h2, ?_⟩
        have kpd : Kp H6 (upd H6 d (.dT (dTb M))) := fun b xs e => by
          rw [upd_ne (ne_of e (s6.keep h2) (by intro z; cases z))]
          exact e
        refine q (.ref t) _ ?_ (.inr ⟨_, t, ec, rfl, hb.kp kpd⟩)
        exact s1.trans (((h3.trans s6.nil).put (by simp)).back hT upd_same)
end
end K91

namespace K91
open PySem PySem.Spec PyProof.Rows L2
open ZM (getT putT)
abbrev sLb : Stmt := topS 22
theorem scLb : FnScope ["deck", "columns", "many", "far", "found", "names", "turn", "one", "other", "name"] ["deck", "columns", "many", "far"] (defScope sLb) := ⟨rfl, rfl, rfl, by decide +kernel, rfl, by decide +kernel, by decide +kernel⟩
/-- no deck stands where something else does -/
theorem Deck.out {H : Hp} {d c : Addr} {n : Nat} (D : Deck H d c n) {a : Addr} {o : HO} (h : H a = some o) (n1 : ∀ kvs, o ≠ .dK kvs) (n2 : ∀ xs, o ≠ .lst xs) : a ∉ [d, c] := fun z => by
  obtain ⟨cs, b, e1, e2, _⟩ := D.ex
  rcases List.mem_cons.mp z with rfl | z
  · rw [h] at e1
    cases e1
    exact n1 _ rfl
  · rcases List.mem_cons.mp z with rfl | z
    · rw [h] at e2
      cases e2
      exact n2 _ rfl
    · cases z
theorem Deck.outN {H : Hp} {d c : Addr} {n : Nat} (D : Deck H d c n) {a : Addr} (h : H a = none) : a ∉ [d, c] := fun z => by
  obtain ⟨cs, b, e1, e2, _⟩ := D.ex
  rcases List.mem_cons.mp z with rfl | z
  · rw [h] at e1
    cases e1
  · rcases List.mem_cons.mp z with rfl | z
    · rw [h] at e2
      cases e2
    · cases z
theorem Cols.out {H : Hp} {a : Addr} {cs : List Str} (h : Cols H a cs) {d c : Addr} {n : Nat} (D : Deck H d c n) : a ∉ [d, c] := by
  obtain ⟨o, h, _⟩ := h
  exact D.out h (fun _ z => by cases z) fun _ z => by cases z
/-- the names of a draw of columns -/
structure Nms (cs : List Str) : Prop where
  ne : cs ≠ []
  le : cs.length ≤ 3
  nd : cs.Nodup
  full : ("" : Str) ∉ cs
theorem Nms.other {cs : List Str} (h : Nms cs) (z : Str) : ∃ y ∈ nmL cs, y ≠ z := by
  by_cases e : z = ""
  · obtain ⟨c, r, rfl⟩ := List.exists_cons_of_ne_nil h.ne
    refine ⟨c, nmL_mem.mpr (List.mem_cons_of_mem _ List.mem_cons_self), fun q => h.full ?_⟩
    rw [← e, ← q]
    exact List.mem_cons_self
  · exact ⟨"", nmL_mem.mpr List.mem_cons_self, Ne.symm e⟩
def bigB : Int := 1000000000
section
variable {P : Program} {w : World} {K : PySem.W.Frag} {mg : Str → Option Value} {base : Heap}
def spLb (K : PySem.W.Frag) : Sp := fun vs H Q _ => ∃ (d c a : Addr) (n : Nat) (many far : Int) (cs : List Str), vs = [.ref d, .ref a, .int many, .int far] ∧ Deck H d c n ∧ n + 100 < 2 ^ 40 ∧ Cols H a cs ∧ Nms cs ∧ 0 ≤ many ∧ many ≤ 9 ∧ 3 ≤ far ∧ far ≤ 500000000 ∧
  ∀ (t : Addr) (L : List Tr) (m : Nat) H', Sm [d, c] H H' → Deck H' d c m → m ≤ n + 27 → Bds H' t L → ZM.Bok (nmL cs) L → L.length ≤ 9 → (∀ x ∈ L, -bigB ≤ x.2.2 ∧ x.2.2 ≤ bigB) → Q (.ref t) H'
theorem ok_lb {f : Addr} {fd : FuncData} (F : Fun K "_law_bounds" "_law_bounds" sLb f fd) (B : Bn mg) (cDraw : Cal P w K mg base "_law_draw" ["deck", "ways"] 1 spDraw) (cPick : Cal P w K mg base "_law_pick" ["deck", "some"] 2 spPick) : FnOk P w K mg base CX0 3 f fd ["deck", "columns", "many", "far"] (spLb K) := by
  refine F.ok scLb (fun vs H Q E h => ?_) (fun cdv A outer s H vs Q E hr h => ?_)
  · obtain ⟨d, c, a, n, many, far, cs, rfl, _⟩ := h
    rfl
  · obtain ⟨d, c, a, n, many, far, cs, rfl, hD, hn, hA, hC, m0, m1, f0, f1, q⟩ := h
    have nd := scLb.nd
    refine ⟨_, pss_cons (ps_par (i := 4) (j := 5) rfl nd rfl rfl (by decide) rfl rfl (pa_cons (pe_lst pa_nil) (pa_cons (pe_op op_catA (pv 1) (pe_tup (pa_cons pe_str pa_nil))) pa_nil)) (by rfl))
      (pss_cons (ps_for PassesOwn.never rfl (pi_range1 (by rfl) B.range (pa_cons (pv 2) pa_nil)) (pg_name (i := 6) nd rfl (.inl rfl))
        (pss_cons (ps_set (i := 7) nd rfl (.inr rfl) (pe_own (cPick.mono (by decide)) hr (pa_cons (pv 0) (pa_cons (pv 5) pa_nil))))
        (pss_cons (ps_set (i := 8) nd rfl (.inl rfl) (pe_own (cPick.mono (by decide)) hr (pa_cons (pv 0) (pa_cons
          (pe_lc (own := [("name", 9)]) (g := gName 9) (tt := tTest (tOp rNe (tVar 9) (tVar 7))) (te := tVar 9) rfl nd (pi_tup (pv 5)) (blkOk_by (N := ["deck", "columns", "many", "far", "found", "names", "turn", "one", "other", "name"]) (sc := defScope sLb) (by decide +kernel))
            (fun _ _ _ _ _ => pg_name (i := 9) nd rfl (.inl rfl)) (fun _ _ _ _ _ => pts_one (pt_cmpR op_ne (pv 9) (pv 7) (nomark _))) (fun _ _ _ _ _ => pv 9)) pa_nil))))
        (pss_one (ps_expr (pe_bm PySem.F.plainAttrs_list PySem.F.slot_list_append PySem.F.type_list_append mt_append (pv 4) (pa_cons (pe_tup (pa_cons (pv 7) (pa_cons (pv 8) (pa_cons
          (pe_op op_sub (pe_own (cDraw.mono (by decide)) hr (pa_cons (pv 0) (pa_cons (pe_op op_add (pe_op op_mul pe_int (pv 3)) pe_int) pa_nil))) (pe_op op_fdiv (pv 3) pe_int)) pa_nil)))) pa_nil)))))))
      (pss_one (ps_ret (pe_callTy call_tuple_of (by rfl) B.tuple boot_tuple (pa_cons (pv 4) pa_nil))))), ?_⟩
    refine ⟨Nat.zero_le _, fun Fa hFa => ?_⟩
    have s1 : Sm [] H (upd H Fa (.lst [])) := Sm.refl.new hFa
    have eF1 : (upd H Fa (.lst [])) Fa = some (.lst []) := upd_same
    generalize upd H Fa (.lst []) = H1 at s1 eF1
    refine names_rd rfl (sqt_sm hA.sq s1) hC.ne hC.le fun nA H2 s2 hnA1 n2 => ⟨_, _, rfl, ?_⟩
    have nFnA : Fa ≠ nA := ne_of_none eF1 hnA1
    have hnA : H nA = none := s1.free hnA1 (by simp)
    have s12 := s1.trans s2
    refine ⟨.int many, rfl, many, rfl, by omega, by omega, for_range (fun i σ H' => ∃ (y6 y7 y8 : Option V) (fl : List V) (L : List Tr) (m : Nat), σ = [some (.ref d), some (.ref a), some (.int many), some (.int far), some (.ref Fa), some (.ref nA), y6, y7, y8, none] ∧ Sm [d, c] H H' ∧ Deck H' d c m ∧ m ≤ n + 3 * i ∧ H' Fa = some (.lst fl) ∧ H' nA = some (.tup ((nmL cs).map V.str)) ∧ TrAll H' fl L ∧ L.length = i ∧ ZM.Bok (nmL cs) L ∧ ∀ x ∈ L, -bigB ≤ x.2.2 ∧ x.2.2 ≤ bigB) ?_ ?_ ?_⟩
    · exact ⟨none, none, none, [], [], n, rfl, s12.nil, hD.keep s12, Nat.le_refl _, s2.keep eF1, n2, .nil, rfl, fun x h => absurd h (by simp), fun x h => absurd h (by simp)⟩
    · rintro i σ H' hi ⟨y6, y7, y8, fl, L, m, rfl, s3, D3, hm, eF, eN, hT, hL, hB, hX⟩
      have hi9 : i < 9 := by omega
      refine ⟨.ref d, rfl, .ref nA, rfl, d, c, m, .ref nA, _, rfl, D3, by omega, .inr (.inl ⟨nA, rfl, eN⟩), ?_, ?_, fun j x H4 hx s4 D4 => ?_⟩
      · rw [List.length_map, nmL_len]; omega
      · rw [List.length_map, nmL_len]; have := hC.le; omega
      obtain ⟨z, hz, rfl⟩ := str_at hx
      have hzm : z ∈ nmL cs := List.mem_of_getElem? hz
      have kp4 := s4.kpD D3.nt
      refine ⟨.ref d, rfl, .ref nA, rfl, nA, rfl, ⟨_, SqT.of (kp4 _ _ eN)⟩, fun E' hE => ?_⟩
      have eN4 := kp4 _ _ eN
      refine lc_tup (K := K) (a := nA) (xs := (nmL cs).map V.str) (fun k H' => ∃ l : List Str, H' E' = some (.lst (l.map V.str)) ∧ Sm [] H4 H' ∧ l = ((nmL cs).take k).filter fun y => decide (y ≠ z)) ?_ ?_ ?_ ?_
      · exact ⟨[], upd_same, Sm.refl.new hE, rfl⟩
      · rintro k H' _ ⟨l, h1, h2, h3⟩
        exact SqT.of (h2.keep eN4)
      · rintro k x H' hx ⟨l, h1, h2, h3⟩
        obtain ⟨y, hy, rfl⟩ := str_at hx
        have kl : k < (nmL cs).length := (List.getElem?_eq_some_iff.mp hy).1
        refine ⟨rfl, ?_⟩
        refine ⟨.str y, rfl, .str z, rfl, rfl, _, rfl, ite2 (fun hne => ?_) (fun heq => ?_)⟩
        · have hne' : y ≠ z := by simpa using hne
          refine ⟨.str y, rfl, _, h1, ?_, l ++ [y], ?_, ?_, ?_⟩
          · rw [List.length_map, h3]
            have := List.length_filter_le (fun y => decide (y ≠ z)) ((nmL cs).take k)
            rw [List.length_take, nmL_len] at this
            have := hC.le
            exact small16 (by omega)
          · rw [upd_same, List.map_append]
            rfl
          · exact h2.own hE
          · rw [List.take_add_one, hy, Option.toList_some, List.filter_append, ← h3, List.filter_cons_of_pos (by simpa using hne')]
            rfl
        · have heq' : y = z := by simpa using heq
          refine ⟨l, h1, h2, ?_⟩
          rw [List.take_add_one, hy, Option.toList_some, List.filter_append, ← h3, List.filter_cons_of_neg (by simpa using heq')]
          simp
      rintro H5 ⟨l, h1, h2, h3⟩
      rw [List.length_map, List.take_length] at h3
      have D5 := D4.keep h2
      have lpos : 1 ≤ l.length := by
        obtain ⟨y, hy, hne⟩ := hC.other z
        have : y ∈ l := by
          rw [h3, List.mem_filter]
          exact ⟨hy, decide_eq_true hne⟩
        exact List.length_pos_of_mem this
      have lle : l.length ≤ 4 := by
        rw [h3]
        have := List.length_filter_le (fun y => decide (y ≠ z)) (nmL cs)
        rw [nmL_len] at this
        have := hC.le
        omega
      refine ⟨d, c, m + 1, .ref E', _, rfl, D5, by omega, .inl ⟨E', rfl, h1, D4.outN hE⟩, by rw [List.length_map]; exact lpos, by rw [List.length_map]; omega, fun j2 x H6 hx2 s6 D6 => ?_⟩
      obtain ⟨y, hy, rfl⟩ := str_at hx2
      have hym : y ∈ nmL cs ∧ y ≠ z := by
        have := List.mem_of_getElem? hy
        rw [h3, List.mem_filter] at this
        exact ⟨this.1, of_decide_eq_true this.2⟩
      -- the draw
      refine ⟨.ref Fa, rfl, ?_, .str z, rfl, .str y, rfl, .ref d, rfl, .int far, rfl, 2, far, rfl, rfl, .inl ⟨by decide, by decide⟩, 2 * far, 1, rfl, rfl, d, c, m + 1 + 1, _, rfl, D6, by omega, by omega, by omega, fun r H7 r0 r1 s7 D7 => ?_⟩
      · refine .inl ⟨rfl, ?_⟩
        have nd3 : Fa ∉ [d, c] := hD.outN hFa
        exact ⟨fl, SqL.of ((s6 _ _ (h2.keep (s4 _ _ eF nd3)) nd3))⟩
      have nd3 : Fa ∉ [d, c] := hD.outN hFa
      have eF7 : H7 Fa = some (.lst fl) := s7 _ _ (s6 _ _ (h2.keep (s4 _ _ eF nd3)) nd3) nd3
      have kp7 : Kp H' H7 := ((kp4.trans h2.kp).trans (s6.kpD D5.nt)).trans (s7.kpD D6.nt)
      have s37 : Sm [d, c] H H7 := ((s3.trans s4).trans h2.nil).trans (s6.trans s7)
      refine ⟨.int far, rfl, far, 2, rfl, rfl, ⟨by decide, by decide⟩, r, far / 2, rfl, rfl, (by show 3 ≤ sizeLine; decide), fun p hp => ?_⟩
      have eF8 : (upd H7 p (.tup [.str z, .str y, .int (r - far / 2)])) Fa = some (.lst fl) := by
        rw [upd_ne (ne_of_none eF7 hp)]; exact eF7
      have s8 : Sm [d, c] H (upd H7 p (.tup [.str z, .str y, .int (r - far / 2)])) := s37.new hp
      have D8 : Deck (upd H7 p (.tup [.str z, .str y, .int (r - far / 2)])) d c (m + 1 + 1 + 1) := D7.keep (Sm.refl.new hp)
      have kp8 : Kp H' (upd H7 p (.tup [.str z, .str y, .int (r - far / 2)])) := kp7.new hp
      have e8 : (upd H7 p (.tup [.str z, .str y, .int (r - far / 2)])) p = some (.tup (trV (z, y, r - far / 2))) := upd_same
      generalize upd H7 p (.tup [.str z, .str y, .int (r - far / 2)]) = H8 at eF8 s8 D8 kp8 e8
      refine ⟨Fa, fl, .ref p, rfl, rfl, eF8, ?_, ?_⟩
      · rw [hT.len]
        exact small16 (by omega)
      have kp9 : Kp H8 (upd H8 Fa (.lst (fl ++ [.ref p]))) := fun b xs e => by
        rw [upd_ne (ne_of e eF8 (by intro z; cases z))]
        exact e
      refine ⟨_, _, _, fl ++ [.ref p], L ++ [(z, y, r - far / 2)], m + 1 + 1 + 1, rfl, s8.own hFa, ?_, by omega, upd_same, (kp8.trans kp9) _ _ eN, (hT.kp (kp8.trans kp9)).app (.cons ⟨p, rfl, kp9 _ _ e8⟩ .nil), ?_, ?_, ?_⟩
      · obtain ⟨cells, b, g1, g2, g3⟩ := D8.ex
        refine ⟨cells, b, ?_, ?_, g3⟩
        · rw [upd_ne (fun e => nd3 (by rw [← e]; simp))]; exact g1
        · rw [upd_ne (fun e => nd3 (by rw [← e]; simp))]; exact g2
      · rw [List.length_append, hL]
        rfl
      · intro t ht
        rcases List.mem_append.mp ht with ht | ht
        · exact hB t ht
        · rw [List.mem_singleton] at ht
          subst ht
          exact ⟨hzm, hym.1, Ne.symm hym.2⟩
      · intro t ht
        rcases List.mem_append.mp ht with ht | ht
        · exact hX t ht
        · rw [List.mem_singleton] at ht
          subst ht
          unfold bigB
          show -1000000000 ≤ r - far / 2 ∧ r - far / 2 ≤ 1000000000
          omega
    · rintro σ H' ⟨y6, y7, y8, fl, L, m, rfl, s3, D3, hm, eF, eN, hT, hL, hB, hX⟩
      refine ⟨.ref Fa, rfl, Fa, fl, rfl, .inl ⟨SqL.of eF, fun l hl => ?_⟩⟩
      exact q l L m _ (s3.new hl) (D3.keep (Sm.refl.new hl)) (by omega) ⟨fl, upd_same, hT.kp (Kp.refl.new hl)⟩ hB (by omega) hX
end
end K91

namespace K91
open PySem PySem.Spec PyProof.Rows L2
open ZM (getT putT)
/-! ### kinds -/
abbrev kinds7 : List String := ["NoneType", "bool", "int", "str", "tuple", "list", "dict"]
def kd (T C : String) : Bool := T == C || (T == "bool" && C == "int")
theorem kit7 : ∀ T ∈ kinds7, ∀ C ∈ ["int", "bool", "tuple", "list", "str"], kitB T C = some (kd T C) := by decide +kernel
/-- x is of that kind -/
structure Kn (K : PySem.W.Frag) (H : Hp) (x : V) (T : String) : Prop where
  ty : TyX K H x (.type T)
  m : T ∈ kinds7
section
variable {K : PySem.W.Frag}
abbrev tlV : List V := [.ty "tuple", .ty "list"]
abbrev tlU : List Value := [.type "tuple", .type "list"]
theorem clsTL : Paired ClsV tlV tlU := .cons (.ty _) (.cons (.ty _) .nil)
theorem kitTL {T : String} (m : T ∈ kinds7) : PySem.W.kitAny K (.type T) tlU = some (kd T "tuple" || kd T "list") := by
  have h1 := kit7 T m "tuple" (by decide)
  have h2 := kit7 T m "list" (by decide)
  refine kitAny_cons (kit_ty h1) (fun e => ?_) (fun e => by rw [e]; rfl)
  refine kitAny_cons (b := kd T "list") (kit_ty h2) (fun e2 => ?_) (fun e2 => by rw [e2, Bool.or_true])
  rw [e, e2]
  exact kitAny_nil
end
/-! ### alike -/
def flatV' : V → Bool
  | .non => true | .bl _ => true | .int _ => true | .str _ => true | _ => false
def Alk (H : Hp) : Nat → V → V → Prop
  | 0, x, y => x = y ∧ flatV' x = true
  | n + 1, x, y => (x = y ∧ flatV' x = true) ∨ ∃ a b xs ys, x = .ref a ∧ y = .ref b ∧ ((H a = some (.tup xs) ∧ H b = some (.tup ys)) ∨ (H a = some (.lst xs) ∧ H b = some (.lst ys))) ∧ xs.length = ys.length ∧
    ∀ (i : Nat) x y, xs[i]? = some x → ys[i]? = some y → Alk H n x y
theorem Alk.sm {H H' : Hp} (s : Sm [] H H') : ∀ (n : Nat) (x y : V), Alk H n x y → Alk H' n x y
  | 0, x, y, h => h
  | n + 1, x, y, h => by
    rcases h with h | ⟨a, b, xs, ys, e1, e2, h, hl, hi⟩
    · exact .inl h
    · refine .inr ⟨a, b, xs, ys, e1, e2, ?_, hl, fun i x y hx hy => Alk.sm s n x y (hi i x y hx hy)⟩
      rcases h with ⟨h1, h2⟩ | ⟨h1, h2⟩
      · exact .inl ⟨s.keep h1, s.keep h2⟩
      · exact .inr ⟨s.keep h1, s.keep h2⟩
theorem kn_flat {K : PySem.W.Frag} {H : Hp} {x : V} (h : flatV' x = true) : (x = .non ∧ Kn K H x "NoneType") ∨ (∃ b, x = .bl b ∧ Kn K H x "bool") ∨ (∃ z, x = .str z ∧ Kn K H x "str") ∨ ∃ i, x = .int i ∧ Kn K H x "int" := by
  cases x with
  | non => exact .inl ⟨rfl, TyX.non, by decide⟩
  | bl b => exact .inr (.inl ⟨b, rfl, TyX.bl b, by decide⟩)
  | int i => exact .inr (.inr (.inr ⟨i, rfl, TyX.int i, by decide⟩))
  | str z => exact .inr (.inr (.inl ⟨z, rfl, TyX.str z, by decide⟩))
  | _ => cases h
theorem walk_zipT' {K : PySem.W.Frag} {a b : Addr} {xs ys : List V} {n : Nat} (hn : n = min xs.length ys.length) : Walk (RZ.ItzT K a b) n (fun H => SqT K H a xs ∧ SqT K H b ys) (YPair (fun i => xs[i]?) (fun i => ys[i]?)) := by
  have le1 : n ≤ xs.length := hn ▸ Nat.min_le_left ..
  have le2 : n ≤ ys.length := hn ▸ Nat.min_le_right ..
  constructor
  · rintro i _ hi ⟨qa, qb⟩
    have ex := List.getElem?_eq_getElem (Nat.lt_of_lt_of_le hi le1)
    have ey := List.getElem?_eq_getElem (Nat.lt_of_lt_of_le hi le2)
    exact ⟨_, _, _, _, qa, qb, ex, ey⟩
  · rintro _ ⟨qa, qb⟩
    exact ⟨_, _, qa, qb, by omega⟩
  · rintro i H v H' _ ⟨qa, qb⟩ ⟨T, x, z, h1, h2, h3, h4, h5⟩
    exact ⟨T, x, z, h1, h2, h3, h4 _ qa, h5 _ qb⟩
theorem lc_in {wi : TI} {g : TG} {tt : TT} {te : TE} {vs : List Nat} {σ : L2.St} {H : Hp} {Q : VK} (h : wi σ H fun J H1 => ∀ D, H1 D = none → ∃ W : Nat → Nat → Hp → Prop, (∃ m, W 0 m (upd H1 D (.lst []))) ∧ ∀ i m H, W i m H →
    (J.stop i H ∧ Q (.ref D) H) ∨ (J.go i H ∧ ∃ Nx : Hp → Prop, (∀ H', Nx H' → ∃ m', m' < m ∧ W (i + 1) m' H') ∧ ∀ x H', J.yld i H x H' → g x (wipe σ vs) H' fun σ2 H2 => wipe σ2 vs = wipe σ vs ∧ tt σ2 H2 fun b H3 =>
      if b = true then te σ2 H3 fun y H4 => ∃ acc, H4 D = some (.lst acc) ∧ acc.length < sizeLine ∧ Nx (upd H4 D (.lst (acc ++ [y]))) else Nx H3)) : tLc wi g tt te vs σ H Q := h
theorem zipA_in {K : PySem.W.Frag} {σ : L2.St} {H : Hp} {R : It → Hp → Prop} {n1 n2 : Nat} {a b : Addr} {xs ys : List V} (h1 : σ[n1]? = some (some (.ref a))) (h2 : σ[n2]? = some (some (.ref b)))
    (h : (H a = some (.tup xs) ∧ H b = some (.tup ys)) ∨ (H a = some (.lst xs) ∧ H b = some (.lst ys))) (hl : xs.length = ys.length)
    (q : ∀ J G, Walk J xs.length G (YPair (fun i => xs[i]?) (fun i => ys[i]?)) → (∀ H', Sm [] H H' → G H') → R J H) : RZ.iZipA K (tCons (tVar n1) (tCons (tVar n2) tNil)) σ H R := by
  refine ⟨.ref a, h1, .ref b, h2, a, b, xs, ys, rfl, ?_⟩
  rcases h with ⟨e1, e2⟩ | ⟨e1, e2⟩
  · exact .inr ⟨SqT.of e1, SqT.of e2, q _ _ (walk_zipT' (by omega)) fun H' s => ⟨SqT.of (s.keep e1), SqT.of (s.keep e2)⟩⟩
  · exact .inl ⟨SqL.of e1, SqL.of e2, q _ _ (walk_zip (by omega)) fun H' s => ⟨SqL.of (s.keep e1), SqL.of (s.keep e2)⟩⟩
theorem next_in {D : Ends} {σ : L2.St} {H : Hp} (h : D.nx σ H) : tNext D σ H := h
theorem ret_in {te : TE} {D : Ends} {σ : L2.St} {H : Hp} (h : te σ H D.rt) : tRet te D σ H := h
theorem andV_in {ta tb : TE} {σ : L2.St} {H : Hp} {Q : VK} (h : ta σ H fun x H1 => ∃ c, x = .bl c ∧ if c = true then tb σ H1 Q else Q (.bl false) H1) : tAndV ta tb σ H Q := h
abbrev sSm : Stmt := topS 17
theorem scSm : FnScope ["told", "due", "one", "other"] ["told", "due"] (defScope sSm) := ⟨rfl, rfl, rfl, by decide +kernel, rfl, by decide +kernel, by decide +kernel⟩
section
variable {P : Program} {w : World} {K : PySem.W.Frag} {mg : Str → Option Value} {base : Heap}
def spSm (n : Nat) : Sp := fun vs H Q _ => ∃ x y m, vs = [x, y] ∧ n = m + 1 ∧ Alk H m x y ∧ ∀ H', Sm [] H H' → Q (.bl true) H'
theorem step_sm {f : Addr} {fd : FuncData} (F : Fun K "_law_same" "_law_same" sSm f fd) (B : Bn mg) (n : Nat) (C : Cal P w K mg base "_law_same" ["told", "due"] n (spSm n)) : FnOk P w K mg base CX0 (n + 1) f fd ["told", "due"] (spSm (n + 1)) := by
  refine F.ok scSm (fun vs H Q E h => ?_) (fun cdv A outer s H vs Q E hr h => ?_)
  · obtain ⟨x, y, m, rfl, _⟩ := h
    rfl
  · obtain ⟨x, y, m, rfl, hm, hA, q⟩ := h
    obtain rfl : n = m := by omega
    have nd := scSm.nd
    refine ⟨_, pss_cons (ps_if (pt_val (pe_callB call_isiT (by rfl) B.isinstance boot_isinstance (pa_cons (pv 1) (pa_cons (pe_tup (pa_cons (pe_bltn (v := .ty "tuple") (by rfl) B.tuple boot_tuple rfl) (pa_cons (pe_bltn (v := .ty "list") (by rfl) B.list boot_list rfl) pa_nil))) pa_nil))))
        (pss_cons (ps_if (PW.pt (pw_or (pt_cmpR op_ne (pe_is B B.tuple boot_tuple (pv 0)) (pe_is B B.tuple boot_tuple (pv 1)) (nomark _)) (pw_or1 (pt_cmpR op_ne (pe_is B B.list boot_list (pv 0)) (pe_is B B.list boot_list (pv 1)) (nomark _)))))
          (pss_one (ps_ret pe_bl)) pss_nil)
        (pss_one (ps_ret (pe_and (pe_cmpR op_eq (pe_callB call_len (by rfl) B.len boot_len (pa_cons (pv 0) pa_nil)) (pe_callB call_len (by rfl) B.len boot_len (pa_cons (pv 1) pa_nil)) (nomark _)) (pe_one (pe_cmpR (op_eqD hr.units)
          (pe_lc (own := [("one", 2), ("other", 3)]) (g := gTup K 2 (gCons (gName 2) (gCons (gName 3) gNil))) (tt := tNot (tB (tCall (spSm n) [] E0 (tCons (tVar 2) (tCons (tVar 3) tNil))))) (te := tC (.int 1)) rfl nd (RZ.pi_zipA (by rfl) B.zip (pa_cons (pv 0) (pa_cons (pv 1) pa_nil))) (blkOk_by (N := ["told", "due", "one", "other"]) (sc := defScope sSm) (by decide +kernel))
            (fun _ _ _ _ _ => pg_tup rfl (pgs_cons (pg_name (i := 2) nd rfl (.inl rfl)) (pgs_cons (pg_name (i := 3) nd rfl (.inl rfl)) pgs_nil)))
            (fun _ _ _ _ _ => pts_one (pt_not (pt_val (pe_own C hr (pa_cons (pv 2) (pa_cons (pv 3) pa_nil)))))) (fun _ _ _ _ _ => pe_int)) (pe_lst pa_nil) (nomark _))))))) pss_nil)
      (pss_cons (ps_if (PW.pt (pw_or (pt_cmpR op_isN (pv 1) pe_non (nomark _)) (pw_or1 (pt_val (pe_is B B.bool boot_bool (pv 1))))))
        (pss_one (ps_ret (pe_ifExp (pt_cmpR op_isN (pv 1) pe_non (nomark _)) (pe_cmpR op_isN (pv 0) pe_non (nomark _)) (pe_and (pe_is B B.bool boot_bool (pv 0)) (pe_one (pe_cmpR op_eq (pv 0) (pv 1) (nomark _))))))) pss_nil)
      (pss_cons (ps_if (pt_val (pe_is B B.str boot_str (pv 1))) (pss_one (ps_ret (pe_and (pe_is B B.str boot_str (pv 0)) (pe_one (pe_cmpR op_eq (pv 0) (pv 1) (nomark _)))))) pss_nil)
      (pss_one (ps_ret (pe_and (pe_is B B.int boot_int (pv 0)) (pe_and (pe_not (pe_is B B.bool boot_bool (pv 0))) (pe_one (pe_cmpR op_eq (pv 0) (pv 1) (nomark _))))))))), ?_⟩
    have yes : ∀ {p : Prop} [Decidable p] {H' : Hp}, p → Sm [] H H' → Q (.bl (decide p)) H' := fun hp s => by
      rw [decide_eq_true hp]
      exact q _ s
    have nb : ∀ {p : Addr} {xs : List V}, H p = none → Sm [] H (upd H p (.tup xs)) := fun hp => Sm.refl.new hp
    have flat : (x = y ∧ flatV' x = true) ∨ (∃ a b xs ys, x = .ref a ∧ y = .ref b ∧ ((H a = some (.tup xs) ∧ H b = some (.tup ys)) ∨ (H a = some (.lst xs) ∧ H b = some (.lst ys))) ∧ xs.length = ys.length ∧ ∃ m, n = m + 1 ∧ ∀ (i : Nat) x y, xs[i]? = some x → ys[i]? = some y → Alk H m x y) := by
      cases n with
      | zero => exact .inl hA
      | succ m =>
        rcases hA with h | ⟨a, b, xs, ys, e1, e2, h, hl, hi⟩
        · exact .inl h
        · exact .inr ⟨a, b, xs, ys, e1, e2, h, hl, m, rfl, hi⟩
    rcases flat with ⟨rfl, hf⟩ | ⟨a, b, xs, ys, rfl, rfl, h, hl, m, rfl, hi⟩
    · rcases kn_flat (K := K) (H := H) hf with ⟨rfl, _⟩ | ⟨bb, rfl, _⟩ | ⟨z, rfl, _⟩ | ⟨i, rfl, _⟩
      · refine ⟨.non, rfl, (by show 2 ≤ sizeLine; decide), fun p hp => ⟨_, p, _, .type "NoneType", tlU, _, rfl, upd_same, clsTL, TyX.non, kitTL (by decide), _, rfl, ite2 (fun z => absurd z (by decide)) fun _ => ?_⟩⟩
        refine ⟨.non, rfl, rfl, _, rfl, ite2 (fun _ => ite2 (fun _ => ?_) (fun z => absurd rfl z)) (fun z => absurd rfl z)⟩
        exact ⟨.non, rfl, rfl, _, rfl, ite2 (fun _ => ⟨.non, rfl, rfl, yes rfl (nb hp)⟩) (fun z => absurd rfl z)⟩
      · refine ⟨.bl bb, rfl, (by show 2 ≤ sizeLine; decide), fun p hp => ⟨_, p, _, .type "bool", tlU, _, rfl, upd_same, clsTL, (TyX.bl bb), kitTL (by decide), _, rfl, ite2 (fun z => absurd z (by decide)) fun _ => ?_⟩⟩
        refine ⟨.bl bb, rfl, rfl, _, rfl, ite2 (fun z => by simp at z) (fun _ => ⟨.bl bb, rfl, _, "bool", "bool", _, rfl, TyX.bl bb, kit7 "bool" (by decide) "bool" (by decide), _, rfl, ite2 (fun _ => ?_) (fun z => absurd z (by decide))⟩)⟩
        refine ⟨.bl bb, rfl, rfl, _, rfl, ite2 (fun z => by simp at z) (fun _ => ⟨.bl bb, rfl, _, "bool", "bool", _, rfl, TyX.bl bb, kit7 "bool" (by decide) "bool" (by decide), _, rfl, ite2 (fun _ => ?_) (fun z => absurd z (by decide))⟩)⟩
        exact ⟨.bl bb, rfl, .bl bb, rfl, rfl, yes rfl (nb hp)⟩
      · refine ⟨.str z, rfl, (by show 2 ≤ sizeLine; decide), fun p hp => ⟨_, p, _, .type "str", tlU, _, rfl, upd_same, clsTL, (TyX.str z), kitTL (by decide), _, rfl, ite2 (fun z => absurd z (by decide)) fun _ => ?_⟩⟩
        refine ⟨.str z, rfl, rfl, _, rfl, ite2 (fun z => by simp at z) (fun _ => ⟨.str z, rfl, _, "bool", "str", _, rfl, TyX.str z, kit7 "str" (by decide) "bool" (by decide), _, rfl, ite2 (fun z => absurd z (by decide)) (fun _ => ?_)⟩)⟩
        refine ⟨.str z, rfl, _, "str", "str", _, rfl, TyX.str z, kit7 "str" (by decide) "str" (by decide), _, rfl, ite2 (fun _ => ?_) (fun z => absurd z (by decide))⟩
        refine ⟨.str z, rfl, _, "str", "str", _, rfl, TyX.str z, kit7 "str" (by decide) "str" (by decide), _, rfl, ite2 (fun _ => ?_) (fun z => absurd z (by decide))⟩
        exact ⟨.str z, rfl, .str z, rfl, rfl, yes rfl (nb hp)⟩
      · refine ⟨.int i, rfl, (by show 2 ≤ sizeLine; decide), fun p hp => ⟨_, p, _, .type "int", tlU, _, rfl, upd_same, clsTL, (TyX.int i), kitTL (by decide), _, rfl, ite2 (fun z => absurd z (by decide)) fun _ => ?_⟩⟩
        refine ⟨.int i, rfl, rfl, _, rfl, ite2 (fun z => by simp at z) (fun _ => ⟨.int i, rfl, _, "bool", "int", _, rfl, TyX.int i, kit7 "int" (by decide) "bool" (by decide), _, rfl, ite2 (fun z => absurd z (by decide)) (fun _ => ?_)⟩)⟩
        refine ⟨.int i, rfl, _, "str", "int", _, rfl, TyX.int i, kit7 "int" (by decide) "str" (by decide), _, rfl, ite2 (fun z => absurd z (by decide)) (fun _ => ?_)⟩
        refine ⟨.int i, rfl, _, "int", "int", _, rfl, TyX.int i, kit7 "int" (by decide) "int" (by decide), _, rfl, ite2 (fun _ => ?_) (fun z => absurd z (by decide))⟩
        refine ⟨.int i, rfl, _, "bool", "int", _, rfl, TyX.int i, kit7 "int" (by decide) "bool" (by decide), _, rfl, _, rfl, ite2 (fun _ => ?_) (fun z => absurd z (by decide))⟩
        exact ⟨.int i, rfl, .int i, rfl, rfl, yes rfl (nb hp)⟩
    · obtain ⟨T, hT, hk, hTy⟩ : ∃ T, T ∈ kinds7 ∧ (kd T "tuple" || kd T "list") = true ∧ ∀ {H'}, Sm [] H H' → TyX K H' (.ref a) (.type T) ∧ TyX K H' (.ref b) (.type T) ∧ ((H' a = some (.tup xs) ∧ H' b = some (.tup ys)) ∨ (H' a = some (.lst xs) ∧ H' b = some (.lst ys))) := by
        rcases h with ⟨e1, e2⟩ | ⟨e1, e2⟩
        · exact ⟨"tuple", by decide, by decide, fun {H'} s => ⟨TyX.tup (s.keep e1), TyX.tup (s.keep e2), .inl ⟨s.keep e1, s.keep e2⟩⟩⟩
        · exact ⟨"list", by decide, by decide, fun {H'} s => ⟨TyX.lst (s.keep e1), TyX.lst (s.keep e2), .inr ⟨s.keep e1, s.keep e2⟩⟩⟩
      refine ⟨.ref b, rfl, (by show 2 ≤ sizeLine; decide), fun p hp => ?_⟩
      have s1 : Sm [] H (upd H p (.tup [.ty "tuple", .ty "list"])) := nb hp
      have e1 : (upd H p (.tup [.ty "tuple", .ty "list"])) p = some (.tup [.ty "tuple", .ty "list"]) := upd_same
      generalize upd H p (.tup [.ty "tuple", .ty "list"]) = H1 at s1 e1
      obtain ⟨ta, tb, hs⟩ := hTy s1
      refine ⟨_, p, _, .type T, tlU, _, rfl, e1, clsTL, tb, kitTL hT, _, rfl, ite2 (fun _ => ?_) (fun z => absurd hk z)⟩
      have kt := kit7 T hT "tuple" (by decide)
      have kl := kit7 T hT "list" (by decide)
      refine ⟨.ref a, rfl, _, "tuple", T, _, rfl, ta, kt, .ref b, rfl, _, "tuple", T, _, rfl, tb, kt, rfl, _, rfl, ite2 (fun z => by simp at z) (fun _ => ?_)⟩
      refine ⟨.ref a, rfl, _, "list", T, _, rfl, ta, kl, .ref b, rfl, _, "list", T, _, rfl, tb, kl, rfl, _, rfl, ite2 (fun z => by simp at z) (fun _ => ?_)⟩
      have lenA : LenV K (.ref a) H1 xs.length := by
        rcases hs with ⟨g, _⟩ | ⟨g, _⟩
        · exact .inr ⟨_, SqT.of g, rfl⟩
        · exact .inl ⟨_, SqL.of g, rfl⟩
      have lenB : LenV K (.ref b) H1 ys.length := by
        rcases hs with ⟨_, g⟩ | ⟨_, g⟩
        · exact .inr ⟨_, SqT.of g, rfl⟩
        · exact .inl ⟨_, SqL.of g, rfl⟩
      refine ⟨.ref a, rfl, _, xs.length, rfl, lenA, .ref b, rfl, _, ys.length, rfl, lenB, rfl, _, rfl, ite2 (fun _ => ?_) (fun z => absurd (by rw [hl]; simp) z)⟩
      refine op_in (lc_in ?_)
      refine zipA_in rfl rfl hs hl fun J G wk hG D hD => ?_
      refine lc_it wk (fun i H' => H' D = some (.lst []) ∧ Sm [] H1 H') ?_ ?_ ?_ ?_
      · exact ⟨upd_same, Sm.refl.new hD⟩
      · rintro i H' _ ⟨h1, h2⟩
        exact hG H' h2
      · rintro i x H' H2 hi2 ⟨h1, h2⟩ ⟨T2, u, v, rfl, hT2, rfl, hu, hv⟩
        have s2 : Sm [] H1 (upd H' T2 (.tup [u, v])) := h2.new hT2
        have d2 : (upd H' T2 (.tup [u, v])) D = some (.lst []) := by
          rw [upd_ne (ne_of_none h1 hT2)]
          exact h1
        refine ⟨T2, _, rfl, SqT.of upd_same, rfl, _, _, rfl, _, _, rfl, rfl, rfl, ?_⟩
        refine ⟨u, rfl, v, rfl, u, v, m, rfl, rfl, (hi i u v hu hv).sm (s1.trans s2), fun H3 s3 => ⟨_, rfl, ?_⟩⟩
        exact ite2 (fun z => by cases z) fun _ => ⟨s3.keep d2, s2.trans s3⟩
      · rintro H' ⟨h1, h2⟩
        refine ⟨Nat.zero_le _, fun p2 hp2 => ?_⟩
        refine ⟨_, _, Dp.lst (SqL.of (show (upd H' p2 (.lst [])) D = some (.lst []) by rw [upd_ne (ne_of_none h1 hp2)]; exact h1)) .nil, Dp.lst (SqL.of upd_same) .nil, by decide, by decide, ?_⟩
        have : PyData.eqv (.list []) (.list []) = true := by simp [PyData.eqv, PyData.eqvAll]
        rw [this]
        exact q _ ((s1.trans h2).new hp2)
/-- at each depth -/
theorem cal_sm {f : Addr} {fd : FuncData} (F : Fun K "_law_same" "_law_same" sSm f fd) (B : Bn mg) (hm : mg "_law_same" = some (.ref f)) (hb : Binds K fd ["told", "due"] []) : ∀ n, Cal P w K mg base "_law_same" ["told", "due"] n (spSm n)
  | 0 => ⟨f, fd, ⟨fun vs H Q E h => by obtain ⟨x, y, m, _, e, _⟩ := h; omega, fun A outer s H args us vs Q E _ _ _ _ h => by obtain ⟨x, y, m, _, e, _⟩ := h; omega⟩, hm, F.kp, hb⟩
  | n + 1 => ⟨f, fd, step_sm F B n (cal_sm F B hm hb n), hm, F.kp, hb⟩
end
end K91

namespace K91
open PySem PySem.Spec PyProof.Rows L2
open ZM (getT putT)
open TL (tl len_tl tl_append tl_join tl_ofString joinL join_eq)
/-! ### short texts -/
structure Sp0 (z : Str) (n : Nat) : Prop where
  len : z.length ≤ n
  ok : ∀ c ∈ tl z, c < 0x110000
theorem Sp0.mono {z : Str} {n m : Nat} (h : Sp0 z n) (l : n ≤ m) : Sp0 z m := ⟨Nat.le_trans h.len l, h.ok⟩
theorem Sp0.app {x y : Str} {n m : Nat} (h : Sp0 x n) (k : Sp0 y m) : Sp0 (x ++ y) (n + m) := by
  refine ⟨?_, fun c hc => ?_⟩
  · have h1 := h.len
    have h2 := k.len
    rw [len_tl] at h1 h2 ⊢
    rw [tl_append, List.length_append]
    omega
  · rw [tl_append] at hc
    rcases List.mem_append.mp hc with hc | hc
    · exact h.ok c hc
    · exact k.ok c hc
theorem Sp0.one {c : Nat} (h : c < 0x110000) : Sp0 ⟨#[c]⟩ 1 := ⟨Nat.le_refl _, fun x hx => by
  have : x = c := by simpa [tl] using hx
  rw [this]; exact h⟩
theorem tl_cut (z : Str) (lo hi : Option Int) : tl (cutS z lo hi) = ((tl z).drop (HT.sIx z.length 0 lo)).take (HT.sIx z.length z.length hi - HT.sIx z.length 0 lo) := rfl
theorem Sp0.cut {z : Str} {n : Nat} (h : Sp0 z n) (lo hi : Option Int) : Sp0 (cutS z lo hi) n := by
  refine ⟨?_, fun c hc => ?_⟩
  · have h1 := h.len
    rw [len_tl] at h1 ⊢
    rw [tl_cut, List.length_take, List.length_drop]
    omega
  · rw [tl_cut] at hc
    exact h.ok c (List.mem_of_mem_drop (List.mem_of_mem_take hc))
theorem ne_empty {z : Str} (h : tl z ≠ []) : z ≠ "" := fun e => h (by rw [e]; rfl)
/-- a name: short, not empty -/
structure Sh (z : Str) : Prop where
  sp : Sp0 z 16
  ne : z ≠ ""
theorem app_ne {x y : Str} (h : tl y ≠ []) : tl (x ++ y) ≠ [] := by
  rw [tl_append]
  intro z
  exact h (List.append_eq_nil_iff.mp z).2
theorem app_ne' {x y : Str} (h : tl x ≠ []) : tl (x ++ y) ≠ [] := by
  rw [tl_append]
  intro z
  exact h (List.append_eq_nil_iff.mp z).1
theorem joinL_nil : ∀ ps : List (List Nat), joinL [] ps = ps.flatten
  | [] => rfl
  | [p] => by simp [joinL]
  | p :: q :: r => by
    have := joinL_nil (q :: r)
    show p ++ ([] ++ joinL [] (q :: r)) = _
    rw [this]
    simp
theorem join_chars {ys : List Str} (h : ∀ y ∈ ys, ∃ c, y = ⟨#[c]⟩ ∧ c < 0x110000) : (Txt.join "" ys).length = ys.length ∧ ∀ c ∈ tl (Txt.join "" ys), c < 0x110000 := by
  have e : tl (Txt.join "" ys) = (ys.map tl).flatten := by
    rw [join_eq, tl_join]
    exact joinL_nil _
  refine ⟨?_, fun c hc => ?_⟩
  · rw [len_tl, e]
    clear e
    induction ys with
    | nil => rfl
    | cons y ys ih =>
      obtain ⟨c, rfl, _⟩ := h y List.mem_cons_self
      rw [List.map_cons, List.flatten_cons, List.length_append, ih fun y hy => h y (List.mem_cons_of_mem _ hy)]
      show 1 + ys.length = ys.length + 1
      omega
  · rw [e] at hc
    obtain ⟨l, hl, hc⟩ := List.mem_flatten.mp hc
    obtain ⟨y, hy, rfl⟩ := List.mem_map.mp hl
    obtain ⟨d, rfl, hd⟩ := h y hy
    have : c = d := by simpa [tl] using hc
    rw [this]
    exact hd
theorem inV_str (z : Str) : ∀ fs : List Str, inV (.str z) (fs.map V.str) = decide (z ∈ fs)
  | [] => by simp [inV]
  | f :: fs => by
    have ih := inV_str z fs
    unfold inV at ih ⊢
    rw [List.map_cons, List.any_cons, ih]
    have e : eqV (.str f) (.str z) = (f == z) := rfl
    rw [e]
    by_cases h : f = z
    · subst h
      simp
    · have : (f == z) = false := by simpa using h
      rw [this, Bool.false_or, decide_eq_decide, List.mem_cons]
      exact ⟨.inr, fun q => q.resolve_left fun e => h e.symm⟩
theorem flat_strs (fs : List Str) : (fs.map V.str).all flatV = true := by
  rw [List.all_eq_true]
  intro x hx
  obtain ⟨z, _, rfl⟩ := List.mem_map.mp hx
  rfl
abbrev az : Str := "abcdefghijklmnopqrstuvwxyz"
theorem az_ok : (tl az).length = 26 ∧ ∀ c ∈ tl az, c < 0x110000 := by
  rw [show tl az = ("abcdefghijklmnopqrstuvwxyz" : String).toList.map Char.toNat from tl_ofString _]
  decide +kernel
abbrev wordsL : List Str := ["where", "to", "set", "tell", "from", "update", "delete", "insert", "then", "empty"]
theorem words_ok : ∀ z ∈ wordsL, Sh z := by
  have h : ∀ s ∈ (["where", "to", "set", "tell", "from", "update", "delete", "insert", "then", "empty"] : List String), Sh (Str.ofString s) := by
    intro s hs
    have g : ∀ s ∈ (["where", "to", "set", "tell", "from", "update", "delete", "insert", "then", "empty"] : List String), (s.toList.map Char.toNat).length ≤ 16 ∧ (∀ c ∈ s.toList.map Char.toNat, c < 0x110000) ∧ (s.toList.map Char.toNat) ≠ [] := by decide +kernel
    obtain ⟨a, b, c⟩ := g s hs
    rw [← tl_ofString] at a b c
    exact ⟨⟨by rw [len_tl]; exact a, b⟩, ne_empty c⟩
  intro z hz
  rw [show wordsL = (["where", "to", "set", "tell", "from", "update", "delete", "insert", "then", "empty"] : List String).map Str.ofString from rfl] at hz
  obtain ⟨s, hs, rfl⟩ := List.mem_map.mp hz
  exact h s hs
abbrev sNm : Stmt := topS 16
abbrev nNm : List Str := ["deck", "many", "letters", "way", "first", "k", "base", "at", "words", "found", "sign", "some"]
theorem scNm : FnScope ["deck", "many", "letters", "way", "first", "k", "base", "at", "words", "found", "sign", "some"] ["deck", "many"] (defScope sNm) := ⟨rfl, rfl, rfl, by decide +kernel, rfl, by decide +kernel, by decide +kernel⟩
section
variable {P : Program} {w : World} {K : PySem.W.Frag} {mg : Str → Option Value} {base : Heap}
def spNm : Sp := fun vs H Q _ => ∃ (d c : Addr) (n : Nat) (many : Int), vs = [.ref d, .int many] ∧ Deck H d c n ∧ n + 100 < 2 ^ 40 ∧ 1 ≤ many ∧ many ≤ 3 ∧
  ∀ (l : Addr) (cs : List Str) H', Sm [d, c] H H' → Deck H' d c (n + 10) → H l = none → H' l = some (.lst (cs.map V.str)) → Nms cs → (∀ z ∈ cs, Sh z) → Q (.ref l) H'
theorem ok_nm {f : Addr} {fd : FuncData} (F : Fun K "_law_names" "_law_names" sNm f fd) (B : Bn mg) (cDraw : Cal P w K mg base "_law_draw" ["deck", "ways"] 1 spDraw) (cPick : Cal P w K mg base "_law_pick" ["deck", "some"] 2 spPick) : FnOk P w K mg base CX0 3 f fd ["deck", "many"] spNm := by
  refine F.ok scNm (fun vs H Q E h => ?_) (fun cdv A outer s H vs Q E hr h => ?_)
  · obtain ⟨d, c, n, many, rfl, _⟩ := h
    rfl
  · obtain ⟨d, c, n, many, rfl, hD, hn, m0, m1, q⟩ := h
    have nd := scNm.nd
    refine ⟨_, pss_cons (ps_asg (pe_tup (pa_cons pe_str (pa_cons (pe_own (cDraw.mono (by decide)) hr (pa_cons (pv 0) (pa_cons pe_int pa_nil))) (pa_cons (pe_own (cDraw.mono (by decide)) hr (pa_cons (pv 0) (pa_cons pe_int pa_nil))) pa_nil))))
        (pg_tup rfl (pgs_cons (pg_name (i := 2) nd rfl (.inr rfl) (.inl rfl)) (pgs_cons (pg_name (i := 3) nd rfl (.inl rfl)) (pgs_cons (pg_name (i := 4) nd rfl (.inl rfl)) pgs_nil)))))
      (pss_cons (ps_par (i := 6) (j := 7) rfl nd rfl rfl (by decide) rfl rfl (pa_cons (pe_join pe_str
          (pe_lc (own := [("k", 5)]) (g := gName 5) (tt := tYes) (te := tCall spPick [] E0 (tCons (tVar 0) (tCons (tVar 2) tNil))) rfl nd (pi_range1 (by rfl) B.range (pa_cons pe_int pa_nil)) (blkOk_by (N := nNm) (sc := defScope sNm) (by decide +kernel))
            (fun _ _ _ _ _ => pg_name (i := 5) nd rfl (.inl rfl)) (fun _ _ _ _ _ => pts_nil) (fun _ _ _ _ _ => pe_own (cPick.mono (by decide)) hr (pa_cons (pv 0) (pa_cons (pv 2) pa_nil))))) (pa_cons (pe_own (cDraw.mono (by decide)) hr (pa_cons (pv 0) (pa_cons pe_int pa_nil))) pa_nil)) (by rfl))
      (pss_cons (ps_set (i := 8) nd rfl (.inl rfl) (pe_lst (pa_cons pe_str (pa_cons pe_str (pa_cons pe_str (pa_cons pe_str (pa_cons pe_str (pa_cons pe_str (pa_cons pe_str (pa_cons pe_str (pa_cons pe_str (pa_cons pe_str pa_nil))))))))))))
      (pss_cons (ps_set (i := 9) nd rfl (.inl rfl) (pe_lst pa_nil))
      (pss_cons (ps_for PassesOwn.never rfl (pi_range1 (by rfl) B.range (pa_cons pe_int pa_nil)) (pg_name (i := 5) nd rfl (.inl rfl))
        (pss_cons (ps_set (i := 10) nd rfl (.inl rfl) (pe_ix ix_seq (pv 2) (pe_op op_mod (pe_op op_add (pv 4) (pe_op op_mul pe_int (pv 5))) pe_int) (fun _ _ => rfl)))
        (pss_cons (ps_set (i := 11) nd rfl (.inl rfl) (pe_lst (pa_cons (pv 10) (pa_cons (pe_op op_add_str (pe_op op_add_str (pe_slice sl_str (pv 6) po_none (po_some (pv 7))) (pv 10)) (pe_slice sl_str (pv 6) (po_some (pe_op op_add (pv 7) pe_int)) po_none))
            (pa_cons (pe_slice sl_str (pv 6) po_none (po_some (pe_op op_add pe_int (pe_op op_mod (pv 5) pe_int)))) (pa_cons (pe_ix ix_seq (pv 8) (pe_op op_mod (pe_op op_add (pv 4) (pv 5)) pe_int) (fun _ _ => rfl)) pa_nil))))))
        (pss_one (ps_if (pt_cmpR op_notIn_seq (pe_ix ix_seq (pv 11) (pv 3) (fun _ _ => rfl)) (pv 9) (by rfl))
          (pss_one (ps_expr (pe_bm PySem.F.plainAttrs_list PySem.F.slot_list_append PySem.F.type_list_append mt_append (pv 9) (pa_cons (pe_ix ix_seq (pv 11) (pv 3) (fun _ _ => rfl)) pa_nil)))) pss_nil)))))
      (pss_one (ps_ret (pe_slice sl_list (pv 9) po_none (po_some (pv 1))))))))), ?_⟩
    have lz : (tl az).length = 26 := az_ok.1
    have bl : ∀ {z : Str}, Sp0 z 16 → z.length ≤ sizeLine := fun {z} h => by
      have := h.len
      have h2 : (16 : Nat) ≤ sizeLine := by decide
      omega
    have azl : az.length ≤ sizeLine := by
      rw [len_tl, lz]
      decide
    -- letters, way, first
    refine ⟨.ref d, rfl, d, c, n, 4, rfl, hD, by omega, by omega, by omega, fun way H1 w0 w1 s1 D1 => ⟨.ref d, rfl, d, c, n + 1, 26, rfl, D1, by omega, by omega, by omega, fun first H2 f0 f1 s2 D2 => ⟨(by show 3 ≤ sizeLine; decide), fun p0 hp0 => ?_⟩⟩⟩
    have s3 : Sm [d, c] H (upd H2 p0 (.tup [.str az, .int way, .int first])) := (s1.trans s2).new hp0
    have D3 : Deck (upd H2 p0 (.tup [.str az, .int way, .int first])) d c (n + 2) := D2.keep (Sm.refl.new hp0)
    refine ⟨p0, _, rfl, SqT.of upd_same, rfl, _, _, rfl, _, _, rfl, _, _, rfl, rfl, ?_⟩
    generalize upd H2 p0 (.tup [.str az, .int way, .int first]) = H3 at s3 D3
    -- base
    refine ⟨⟨_, rfl⟩, 7, rfl, by decide, by decide, fun D hD0 => ?_⟩
    have nD : D ∉ [d, c] := D3.outN hD0
    have hDH : H D = none := s3.free hD0 nD
    refine lc_it (walk_range (lo := 0) (n := 7)) (fun i H' => ∃ ys : List Str, H' D = some (.lst (ys.map V.str)) ∧ ys.length = i ∧ (∀ y ∈ ys, ∃ ch, y = ⟨#[ch]⟩ ∧ ch < 0x110000) ∧ Sm [d, c] H H' ∧ Deck H' d c (n + 2 + i)) ?_ ?_ ?_ ?_
    · exact ⟨[], upd_same, rfl, fun y h => absurd h (by simp), s3.own hDH, D3.keep (Sm.refl.new hD0)⟩
    · intros
      trivial
    · rintro i x H' H'' hi ⟨ys, h1, h2, h3, h4, h5⟩ ⟨rfl, rfl⟩
      refine ⟨rfl, .ref d, rfl, .str az, rfl, d, c, n + 2 + i, .str az, _, rfl, h5, by omega, .inr (.inr ⟨az, rfl, azl, rfl⟩), ?_, ?_, fun j x H4 hx s4 D4 => ?_⟩
      · rw [List.length_map]
        show 1 ≤ (tl az).length
        omega
      · rw [List.length_map]
        show (tl az).length < 1073741824
        omega
      · obtain ⟨ch, hch, rfl⟩ : ∃ ch, (tl az)[j]? = some ch ∧ x = .str ⟨#[ch]⟩ := by
          rw [List.getElem?_map] at hx
          cases e : (tl az)[j]? with
          | none =>
            rw [show (az.cps.toList)[j]? = none from e] at hx
            cases hx
          | some ch =>
            rw [show (az.cps.toList)[j]? = some ch from e] at hx
            exact ⟨ch, rfl, (Option.some.inj hx).symm⟩
        refine ⟨_, s4 _ _ h1 nD, by rw [List.length_map]; exact small16 (by omega), ys ++ [⟨#[ch]⟩], ?_, ?_, ?_, (h4.trans s4).own hDH, ?_⟩
        · rw [upd_same, List.map_append]
          rfl
        · rw [List.length_append, h2]
          rfl
        · intro y hy
          rcases List.mem_append.mp hy with hy | hy
          · exact h3 y hy
          · rw [List.mem_singleton] at hy
            exact ⟨ch, hy, az_ok.2 ch (List.mem_of_getElem? hch)⟩
        · obtain ⟨cells, b, g1, g2, g3⟩ := D4.ex
          refine ⟨cells, b, ?_, ?_, g3⟩
          · rw [upd_ne (fun e => nD (by rw [← e]; simp))]; exact g1
          · rw [upd_ne (fun e => nD (by rw [← e]; simp))]; exact g2
    rintro H4 ⟨ys, h1, h2, h3, s4, D4⟩
    obtain ⟨jl, jo⟩ := join_chars h3
    have jsum : ∀ l : List Str, (∀ y ∈ l, ∃ ch, y = ⟨#[ch]⟩ ∧ ch < 0x110000) → (l.map (·.length)).sum = l.length := fun l hl => by
      induction l with
      | nil => rfl
      | cons y l ih =>
        obtain ⟨ch, rfl, _⟩ := hl y List.mem_cons_self
        rw [List.map_cons, List.sum_cons, ih fun y hy => hl y (List.mem_cons_of_mem _ hy)]
        show 1 + l.length = l.length + 1
        omega
    refine ⟨_, D, ys, rfl, rfl, .inl (SqL.of h1), ?_, ?_⟩
    · rw [jsum ys h3, h2]
      decide
    have bs0 : Sp0 (Txt.join "" ys) 7 := ⟨by rw [jl, h2]; decide, jo⟩
    have bs7 : (Txt.join "" ys).length = 7 := by rw [jl, h2]
    generalize Txt.join "" ys = bs at bs0 bs7
    refine ⟨.ref d, rfl, d, c, n + 9, 7, rfl, D4, by omega, by omega, by omega, fun at_ H5 a0 a1 s5 D5 => ⟨_, _, rfl, ?_⟩⟩
    have s45 := s4.trans s5
    -- words, found
    refine ⟨(by show 10 ≤ sizeLine; decide), fun Wd hW => ?_⟩
    have s6 : Sm [d, c] H (upd H5 Wd (.lst (wordsL.map V.str))) := s45.new hW
    have D6 : Deck (upd H5 Wd (.lst (wordsL.map V.str))) d c (n + 10) := D5.keep (Sm.refl.new hW)
    have eW : (upd H5 Wd (.lst (wordsL.map V.str))) Wd = some (.lst (wordsL.map V.str)) := upd_same
    have hWd : Wd ∉ [d, c] := D5.outN hW
    refine ⟨Nat.zero_le _, fun Fd hF => ?_⟩
    have s7 : Sm [d, c] H (upd (upd H5 Wd (.lst (wordsL.map V.str))) Fd (.lst [])) := s6.new hF
    have D7 : Deck (upd (upd H5 Wd (.lst (wordsL.map V.str))) Fd (.lst [])) d c (n + 10) := D6.keep (Sm.refl.new hF)
    have nFW : Wd ≠ Fd := ne_of_none eW hF
    have eW7 : (upd (upd H5 Wd (.lst (wordsL.map V.str))) Fd (.lst [])) Wd = some (.lst (wordsL.map V.str)) := by
      rw [upd_ne nFW]; exact eW
    have eF7 : (upd (upd H5 Wd (.lst (wordsL.map V.str))) Fd (.lst [])) Fd = some (.lst []) := upd_same
    have nF : Fd ∉ [d, c] := D6.outN hF
    have hFH : H Fd = none := s6.free hF nF
    refine ⟨12, rfl, by decide, by decide, for_range (fun i σ H' => ∃ (y5 y10 y11 : Option V) (fs : List Str), σ = [some (.ref d), some (.int many), some (.str az), some (.int way), some (.int first), y5, some (.str bs), some (.int at_), some (.ref Wd), some (.ref Fd), y10, y11] ∧ Sm [d, c] H H' ∧ Deck H' d c (n + 10) ∧ H' Wd = some (.lst (wordsL.map V.str)) ∧ H' Fd = some (.lst (fs.map V.str)) ∧ fs.Nodup ∧ (∀ z ∈ fs, Sh z) ∧ fs.length ≤ i ∧ (0 < i → fs ≠ [])) ?_ ?_ ?_⟩
    · exact ⟨none, none, none, [], rfl, s7, D7, eW7, eF7, List.nodup_nil, fun z h => absurd h (by simp), Nat.le_refl _, fun h => absurd h (by decide)⟩
    · rintro i σ H' hi ⟨y5, y10, y11, fs, rfl, s8, D8, eW8, eF8, hnd, hsh, hle, hne⟩
      have hi12 : i < 12 := hi
      obtain ⟨m, hm, hm26⟩ : ∃ m : Nat, (first + 7 * (0 + (i : Int))) % 26 = (m : Int) ∧ m < 26 := ⟨((first + 7 * (0 + (i : Int))) % 26).toNat, by omega, by omega⟩
      have hch : (tl az)[m]? = some ((tl az)[m]'(by omega)) := List.getElem?_eq_getElem (by omega)
      have hco : (tl az)[m]'(by omega) < 0x110000 := az_ok.2 _ (List.getElem_mem _)
      generalize (tl az)[m]'(by omega) = ch at hch hco
      refine ⟨.str az, rfl, .int first, rfl, .int (0 + i), rfl, 7, 0 + i, rfl, rfl, .inl ⟨by decide, by decide⟩, first, 7 * (0 + i), rfl, rfl, _, 26, rfl, rfl, (show (0 : Int) < 26 by decide), .inr (.inr ⟨az, _, ch, rfl, rfl, azl, ?_, ?_⟩)⟩
      · rw [hm]
        exact atI_nat hch
      have k0 : Sp0 ⟨#[ch]⟩ 1 := Sp0.one hco
      have k0n : tl (⟨#[ch]⟩ : Str) ≠ [] := by intro z; cases z
      generalize (⟨#[ch]⟩ : Str) = sg at k0 k0n
      have kc : Sp0 (cutS bs none (some at_)) 7 := bs0.cut _ _
      have kd2 : Sp0 (cutS bs (some (at_ + 1)) none) 7 := bs0.cut _ _
      have kl : (cutS bs none (some at_) ++ sg ++ cutS bs (some (at_ + 1)) none).length ≤ 16 := (((kc.app k0).app kd2).mono (by decide)).len
      have z16 : ∀ {k : Nat}, k ≤ 16 → k ≤ sizeLine := fun h => by
        have h2 : (16 : Nat) ≤ sizeLine := by decide
        omega
      obtain ⟨m2, hm2, hm10⟩ : ∃ m : Nat, (first + (0 + (i : Int))) % 10 = (m : Int) ∧ m < 10 := ⟨((first + (0 + (i : Int))) % 10).toNat, by omega, by omega⟩
      have hwz : wordsL[m2]? = some (wordsL[m2]'(by show m2 < 10; omega)) := List.getElem?_eq_getElem (by show m2 < 10; omega)
      have hws : Sh (wordsL[m2]'(by show m2 < 10; omega)) := words_ok _ (List.getElem_mem _)
      generalize wordsL[m2]'(by show m2 < 10; omega) = wz at hwz hws
      refine ⟨.str sg, rfl, .str bs, rfl, .int at_, rfl, at_, rfl, bs, rfl, z16 (bs0.mono (by decide)).len, .str sg, rfl, _, _, rfl, rfl, z16 (by have := kc.len; have := k0.len; omega),
        .str bs, rfl, .int at_, rfl, at_, 1, rfl, rfl, _, rfl, bs, rfl, z16 (bs0.mono (by decide)).len, _, _, rfl, rfl, z16 (by have := (kc.app k0).len; have := kd2.len; omega),
        .str bs, rfl, .int (0 + i), rfl, 0 + i, 7, rfl, rfl, (show (0 : Int) < 7 by decide), 1, _, rfl, rfl, _, rfl, bs, rfl, z16 (bs0.mono (by decide)).len,
        .ref Wd, rfl, .int first, rfl, .int (0 + i), rfl, first, 0 + i, rfl, rfl, _, 10, rfl, rfl, (show (0 : Int) < 10 by decide), .inl ⟨Wd, wordsL.map V.str, _, .str wz, rfl, rfl, SqL.of eW8, ?_, (by show 4 ≤ sizeLine; decide), fun p hp => ?_⟩⟩
      · rw [hm2]
        exact atI_nat (by rw [List.getElem?_map, hwz]; rfl)
      have k1 : Sh (cutS bs none (some at_) ++ sg ++ cutS bs (some (at_ + 1)) none) := ⟨((kc.app k0).app kd2).mono (by decide), ne_empty (app_ne' (app_ne k0n))⟩
      have k2 : Sh (cutS bs none (some (1 + (0 + (i : Int)) % 7))) := by
        refine ⟨(bs0.cut _ _).mono (by decide), ne_empty fun z => ?_⟩
        have e : (1 + (0 + (i : Int)) % 7) = ((1 + i % 7 : Nat) : Int) := by omega
        rw [e, tl_cut, HT.sIx_none, HT.sIx_nat, List.drop_zero, Nat.sub_zero, bs7] at z
        have l := congrArg List.length z
        rw [List.length_take, ← len_tl, bs7] at l
        simp only [List.length_nil] at l
        omega
      have k00 : Sh sg := ⟨k0.mono (by decide), ne_empty k0n⟩
      generalize cutS bs none (some at_) ++ sg ++ cutS bs (some (at_ + 1)) none = t1 at k1
      generalize cutS bs none (some (1 + (0 + (i : Int)) % 7)) = t2 at k2
      have hts : ∀ z ∈ [sg, t1, t2, wz], Sh z := by
        intro z hz
        simp only [List.mem_cons, List.not_mem_nil, or_false] at hz
        rcases hz with rfl | rfl | rfl | rfl
        · exact k00
        · exact k1
        · exact k2
        · exact hws
      have s9 : Sm [d, c] H (upd H' p (.lst ([sg, t1, t2, wz].map V.str))) := s8.new hp
      have D9 : Deck (upd H' p (.lst ([sg, t1, t2, wz].map V.str))) d c (n + 10) := D8.keep (Sm.refl.new hp)
      have eW9 : (upd H' p (.lst ([sg, t1, t2, wz].map V.str))) Wd = some (.lst (wordsL.map V.str)) := by
        rw [upd_ne (ne_of_none eW8 hp)]; exact eW8
      have eF9 : (upd H' p (.lst ([sg, t1, t2, wz].map V.str))) Fd = some (.lst (fs.map V.str)) := by
        rw [upd_ne (ne_of_none eF8 hp)]; exact eF8
      have eS9 : (upd H' p (.lst ([sg, t1, t2, wz].map V.str))) p = some (.lst ([sg, t1, t2, wz].map V.str)) := upd_same
      have npF : p ≠ Fd := fun e => by rw [e, eF8] at hp; cases hp
      obtain ⟨m3, rfl⟩ : ∃ m : Nat, way = (m : Int) := ⟨way.toNat, by omega⟩
      have hm3 : m3 < [sg, t1, t2, wz].length := by show m3 < 4; omega
      have htw : [sg, t1, t2, wz][m3]? = some ([sg, t1, t2, wz][m3]) := List.getElem?_eq_getElem hm3
      have hsw : Sh ([sg, t1, t2, wz][m3]) := hts _ (List.getElem_mem _)
      generalize [sg, t1, t2, wz][m3] = tw at htw hsw
      have at3 : atI ([sg, t1, t2, wz].map V.str) (m3 : Int) = some (.str tw) := atI_nat (by rw [List.getElem?_map, htw]; rfl)
      show tSeq _ _ _ _ (upd H' p (.lst ([sg, t1, t2, wz].map V.str)))
      generalize [sg, t1, t2, wz] = ts at *
      generalize upd H' p (.lst (ts.map V.str)) = H6 at s9 D9 eW9 eF9 eS9
      refine ⟨.ref p, rfl, .int m3, rfl, .inl ⟨p, _, _, .str tw, rfl, rfl, SqL.of eS9, at3, .ref Fd, rfl, Fd, _, rfl, .inl (SqL.of eF9), rfl, flat_strs fs, _, rfl, ?_⟩⟩
      rw [if_pos rfl, inV_str]
      by_cases hin : tw ∈ fs
      · rw [decide_eq_true hin]
        refine ite2 (fun z => by cases z) fun _ => ⟨_, _, _, fs, rfl, s9, D9, eW9, eF9, hnd, hsh, by omega, fun _ z => by rw [z] at hin; cases hin⟩
      · rw [decide_eq_false hin]
        refine ite2 (fun _ => ?_) (fun z => absurd rfl z)
        refine ⟨.ref Fd, rfl, .inl ⟨rfl, _, SqL.of eF9⟩, .ref p, rfl, .int m3, rfl, .inl ⟨p, _, _, .str tw, rfl, rfl, SqL.of eS9, at3, Fd, _, _, rfl, rfl, eF9, ?_, ?_⟩⟩
        · rw [List.length_map]
          exact small16 (by omega)
        · refine ⟨_, _, _, fs ++ [tw], rfl, s9.own hFH, ?_, ?_, ?_, ?_, ?_, ?_, fun _ z => absurd z (by simp)⟩
          · obtain ⟨cells, b, g1, g2, g3⟩ := D9.ex
            refine ⟨cells, b, ?_, ?_, g3⟩
            · rw [upd_ne (fun e => nF (by rw [← e]; simp))]; exact g1
            · rw [upd_ne (fun e => nF (by rw [← e]; simp))]; exact g2
          · rw [upd_ne nFW]; exact eW9
          · rw [upd_same, List.map_append]
            rfl
          · rw [List.nodup_append]
            refine ⟨hnd, by simp, fun a ha b hb e => ?_⟩
            rw [List.mem_singleton] at hb
            rw [e, hb] at ha
            exact hin ha
          · intro z hz
            rcases List.mem_append.mp hz with hz | hz
            · exact hsh z hz
            · rw [List.mem_singleton] at hz
              rw [hz]
              exact hsw
          · rw [List.length_append]
            show fs.length + 1 ≤ i + 1
            omega
    · rintro σ H' ⟨y5, y10, y11, fs, rfl, s8, D8, eW8, eF8, hnd, hsh, hle, hne⟩
      have hne' := hne (by decide)
      refine ⟨.ref Fd, rfl, .int many, rfl, many, rfl, Fd, fs.map V.str, rfl, SqL.of eF8, fun l hl => ?_⟩
      obtain ⟨m, rfl⟩ : ∃ m : Nat, many = (m : Int) := ⟨many.toNat, by omega⟩
      have hcut : cutV (fs.map V.str) none (some (m : Int)) = (fs.take m).map V.str := by
        unfold cutV
        rw [HT.sIx_none, HT.sIx_nat, List.drop_zero, Nat.sub_zero, List.map_take]
        by_cases h : m ≤ (fs.map V.str).length
        · rw [Nat.min_eq_left h]
        · rw [Nat.min_eq_right (by omega), List.take_of_length_le (Nat.le_refl _), List.take_of_length_le (by omega)]
      rw [hcut]
      have hsub : ∀ z ∈ fs.take m, z ∈ fs := fun z hz => List.mem_of_mem_take hz
      refine q l (fs.take m) _ (s8.new hl) (D8.keep (Sm.refl.new hl)) (s8.free hl (D8.outN hl)) upd_same ⟨?_, ?_, hnd.sublist (List.take_sublist _ _), fun z => ?_⟩ fun z hz => hsh z (hsub z hz)
      · intro z
        have := congrArg List.length z
        rw [List.length_take] at this
        have p : 0 < fs.length := List.length_pos_iff.mpr hne'
        simp only [List.length_nil] at this
        omega
      · rw [List.length_take]
        omega
      · exact (hsh _ (hsub _ z)).ne rfl
end
end K91

namespace K91
open PySem PySem.Spec PyProof.Rows L2
open ZM (getT putT)
/-! ### any value -/
mutual
inductive Av (D : List Addr) (H : Hp) : V → PyData → Prop
  | non : Av D H .non .none
  | bl (b : Bool) : Av D H (.bl b) (.bool b)
  | int (i : Int) : Av D H (.int i) (.int i)
  | str (x : Str) : Av D H (.str x) (.str x)
  | tup {a : Addr} {xs : List V} {ds : List PyData} : H a = some (.tup xs) → xs.length ≤ 1000 → AvAll D H xs ds → Av D H (.ref a) (.tuple ds)
  | lst {a : Addr} {xs : List V} : H a = some (.lst xs) → a ∉ D → Av D H (.ref a) (.list [])
  | dK {a : Addr} {kvs : List (Key × V)} : H a = some (.dK kvs) → a ∉ D → Av D H (.ref a) (.dict [])
inductive AvAll (D : List Addr) (H : Hp) : List V → List PyData → Prop
  | nil : AvAll D H [] []
  | cons {v : V} {vs : List V} {d : PyData} {ds : List PyData} : Av D H v d → AvAll D H vs ds → AvAll D H (v :: vs) (d :: ds)
end
mutual
theorem Av.sm {D : List Addr} {H H' : Hp} (s : Sm D H H') (n : NT D H) : ∀ {v : V} {d : PyData}, Av D H v d → Av D H' v d
  | _, _, .non => .non
  | _, _, .bl b => .bl b
  | _, _, .int b => .int b
  | _, _, .str b => .str b
  | _, _, .tup h l r => .tup (s.kpD n _ _ h) l (AvAll.sm s n r)
  | _, _, .lst h l => .lst (s _ _ h l) l
  | _, _, .dK h l => .dK (s _ _ h l) l
theorem AvAll.sm {D : List Addr} {H H' : Hp} (s : Sm D H H') (n : NT D H) : ∀ {vs : List V} {ds : List PyData}, AvAll D H vs ds → AvAll D H' vs ds
  | _, _, .nil => .nil
  | _, _, .cons h r => .cons (Av.sm s n h) (AvAll.sm s n r)
end
theorem AvAll.len {D : List Addr} {H : Hp} : ∀ {vs : List V} {ds : List PyData}, AvAll D H vs ds → vs.length = ds.length
  | _, _, .nil => rfl
  | _, _, .cons _ r => by rw [List.length_cons, List.length_cons, r.len]
theorem AvAll.get {D : List Addr} {H : Hp} : ∀ {vs : List V} {ds : List PyData} {i : Nat} {v : V}, AvAll D H vs ds → vs[i]? = some v → ∃ d, ds[i]? = some d ∧ Av D H v d
  | _, _, i, v, .nil, e => by simp at e
  | _, _, 0, v, .cons h r, e => by
    simp at e
    subst e
    exact ⟨_, rfl, h⟩
  | _, _, i + 1, v, .cons h r, e => by
    have := r.get (i := i) (v := v) (by simpa using e)
    simpa using this
theorem Av.keep {D : List Addr} {H H' : Hp} {v : V} {d : PyData} (h : Av D H v d) (s : Sm [] H H') (n : NT D H) : Av D H' v d := h.sm s.nil n
def kdOf : PyData → String
  | .none => "NoneType" | .bool _ => "bool" | .int _ => "int" | .str _ => "str" | .list _ => "list" | .tuple _ => "tuple" | .dict _ => "dict"
theorem kdOf_mem (d : PyData) : kdOf d ∈ kinds7 := by cases d <;> simp [kdOf, kinds7]
theorem Av.ty {K : PySem.W.Frag} {D : List Addr} {H : Hp} {v : V} {d : PyData} (h : Av D H v d) : TyX K H v (.type (kdOf d)) := by
  cases h with
  | non => exact TyX.non
  | bl b => exact TyX.bl b
  | int i => exact TyX.int i
  | str x => exact TyX.str x
  | tup h _ _ => exact TyX.tup h
  | lst h _ => exact TyX.lst h
  | dK h _ => exact TyX.dK h
theorem Av.kit (d : PyData) {C : String} (hC : C ∈ ["int", "bool", "tuple", "list", "str"]) : kitB (kdOf d) C = some (kd (kdOf d) C) := kit7 _ (kdOf_mem d) C hC
/-- one of the names, or '' -/
def nmB (cs : List Str) : PyData → Bool
  | .str a => decide (a = "") || decide (a ∈ cs)
  | _ => false
def neB : PyData → PyData → Bool
  | .str a, .str b => !decide (a = b)
  | _, _ => false
def isB (cs : List Str) : PyData → Bool
  | .tuple [x, y, .int _] => nmB cs x && nmB cs y && neB x y
  | _ => false
def areB (cs : List Str) : PyData → Bool
  | .tuple ds => ds.all (isB cs)
  | _ => false
theorem isB_len {cs : List Str} {ds : List PyData} (h : ds.length ≠ 3) : isB cs (.tuple ds) = false := by
  unfold isB
  split
  · rename_i x y k e
    cases e
    exact absurd rfl h
  · rfl
theorem isB_tup {cs : List Str} {d : PyData} (h : kd (kdOf d) "tuple" = false) : isB cs d = false := by
  cases d with
  | tuple ds => simp [kdOf, kd] at h
  | _ => rfl
theorem kd_tup {d : PyData} (h : kd (kdOf d) "tuple" = true) : ∃ ds, d = .tuple ds := by
  cases d with
  | tuple ds => exact ⟨ds, rfl⟩
  | _ => simp [kdOf, kd] at h
theorem kd_str {d : PyData} (h : kd (kdOf d) "str" = true) : ∃ z, d = .str z := by
  cases d with
  | str ds => exact ⟨ds, rfl⟩
  | _ => simp [kdOf, kd] at h
theorem kd_int {d : PyData} (h : (kd (kdOf d) "int" && !kd (kdOf d) "bool") = true) : ∃ k, d = .int k := by
  cases d with
  | int ds => exact ⟨ds, rfl⟩
  | _ => simp [kdOf, kd] at h
theorem nmB_str {cs : List Str} {d : PyData} (h : kd (kdOf d) "str" = false) : nmB cs d = false := by
  cases d with
  | str ds => simp [kdOf, kd] at h
  | _ => rfl
theorem three {α : Type} {l : List α} (h : l.length = 3) : ∃ a b c, l = [a, b, c] := by
  match l, h with
  | [a, b, c], _ => exact ⟨a, b, c, rfl⟩
theorem av3 {D : List Addr} {H : Hp} {vs : List V} {a b c : PyData} (h : AvAll D H vs [a, b, c]) : ∃ x y z, vs = [x, y, z] ∧ Av D H x a ∧ Av D H y b ∧ Av D H z c := by
  cases h with
  | cons h1 r =>
    cases r with
    | cons h2 r =>
      cases r with
      | cons h3 r =>
        cases r
        exact ⟨_, _, _, rfl, h1, h2, h3⟩
theorem Av.str' {D : List Addr} {H : Hp} {v : V} {z : Str} (h : Av D H v (.str z)) : v = .str z := by
  cases h
  rfl
abbrev sIb : Stmt := topS 5
theorem scIb : FnScope ["columns", "thing", "one"] ["columns", "thing"] (defScope sIb) := ⟨rfl, rfl, rfl, by decide +kernel, rfl, by decide +kernel, by decide +kernel⟩
abbrev sAb : Stmt := topS 6
theorem scAb : FnScope ["columns", "thing", "one"] ["columns", "thing"] (defScope sAb) := ⟨rfl, rfl, rfl, by decide +kernel, rfl, by decide +kernel, by decide +kernel⟩
abbrev sSo : Stmt := topS 25
theorem scSo : FnScope ["columns", "thing", "it", "one", "other", "k"] ["columns", "thing"] (defScope sSo) := ⟨rfl, rfl, rfl, by decide +kernel, rfl, by decide +kernel, by decide +kernel⟩
section
variable {P : Program} {w : World} {K : PySem.W.Frag} {mg : Str → Option Value} {base : Heap}
def spIb (K : PySem.W.Frag) : Sp := fun vs H Q _ => ∃ (a : Addr) (v : V) (cs : List Str) (D : List Addr) (d : PyData), vs = [.ref a, v] ∧ SqT K H a (cs.map V.str) ∧ Av D H v d ∧ NT D H ∧ ∀ H', Sm [] H H' → Q (.bl (isB cs d)) H'
theorem ok_ib {f : Addr} {fd : FuncData} (F : Fun K "is_bound" "is_bound" sIb f fd) (B : Bn mg) (G : Gn mg) (cInt : Cal P w K mg base "is_integer" ["thing"] 1 (spInt K)) : FnOk P w K mg base CX0 2 f fd ["columns", "thing"] (spIb K) := by
  refine F.ok scIb (fun vs H Q E h => ?_) (fun cdv A outer s H vs Q E hr h => ?_)
  · obtain ⟨a, v, cs, D, d, rfl, _⟩ := h
    rfl
  · obtain ⟨a, v, cs, D, d, rfl, hA, hv, hN, q⟩ := h
    have nd := scIb.nd
    obtain ⟨tN, eN⟩ := G.nothing
    obtain ⟨tP, eP⟩ := G.parts
    refine ⟨_, pss_cons (ps_if (PW.pt (pw_or (pt_not (pt_val (pe_is B B.tuple boot_tuple (pv 1)))) (pw_or (pt_cmpR op_ne (pe_callB call_len (by rfl) B.len boot_len (pa_cons (pv 1) pa_nil)) (pe_glob (v := .int 3) (by rfl) eP ⟨tP, rfl⟩) (nomark _))
          (pw_or1 (pt_not (pt_val (pe_own cInt hr (pa_cons (pe_ix ix_seq (pv 1) pe_int (fun _ _ => rfl)) pa_nil)))))))) (pss_one (ps_ret pe_bl)) pss_nil)
      (pss_cons (ps_if (pt_not (pt_val (pe_callB (cr_all rfl) (by rfl) B.all boot_all (pa_cons
          (pe_lc (own := [("one", 2)]) (g := gName 2) (tt := tYes) (te := tAndV (tCB (rIs K) (tCons (tVar 2) (tCons (tC (.ty "str")) tNil))) (tOrV (tOp rEq (tVar 2) (tC (.str ("" : Str)))) (tOp (rIn K false) (tVar 2) (tVar 0)))) rfl nd
            (pi_tup (pe_slice sl_tupA (pv 1) po_none (po_some pe_int))) (blkOk_by (N := ["columns", "thing", "one"]) (sc := defScope sIb) (by decide +kernel))
            (fun _ _ _ _ _ => pg_name (i := 2) nd rfl (.inl rfl)) (fun _ _ _ _ _ => pts_nil)
            (fun _ _ _ _ _ => pe_and (pe_is B B.str boot_str (pv 2)) (pe_one (pe_or (pe_cmpR op_eq (pv 2) (pe_glob (v := .str ("" : Str)) (by rfl) eN ⟨tN, rfl⟩) (nomark _)) (pe_one (pe_cmpR op_in_seq (pv 2) (pv 0) (by rfl))))))) pa_nil)))) (pss_one (ps_ret pe_bl)) pss_nil)
      (pss_one (ps_ret (pe_cmpR op_ne (pe_ix ix_seq (pv 1) pe_int (fun _ _ => rfl)) (pe_ix ix_seq (pv 1) pe_int (fun _ _ => rfl)) (by first | exact nomark _ | rfl))))), ?_⟩
    have no : isB cs d = false → ∀ H', Sm [] H H' → Q (.bl false) H' := fun e H' s => by
      have := q H' s
      rw [e] at this
      exact this
    refine ⟨v, rfl, _, "tuple", kdOf d, _, rfl, hv.ty, Av.kit d (by decide), _, rfl, ?_⟩
    cases hk : kd (kdOf d) "tuple" with
    | false => exact ite2 (fun _ => ite2 (fun _ => no (isB_tup hk) H Sm.refl) (fun z => absurd rfl z)) (fun z => absurd rfl z)
    | true =>
      obtain ⟨ds, rfl⟩ := kd_tup hk
      cases hv with
      | @tup a' xs _ ha hxl hall =>
        refine ite2 (fun z => by cases z) fun _ => ?_
        refine ⟨.ref a', rfl, _, xs.length, rfl, .inr ⟨_, SqT.of ha, rfl⟩, rfl, _, rfl, ?_⟩
        by_cases h3 : ds.length = 3
        · refine ite2 (fun z => absurd z (by rw [hall.len, h3]; simp)) fun _ => ?_
          obtain ⟨dx, dy, dz, rfl⟩ := three h3
          obtain ⟨x, y, z, rfl, vx, vy, vz⟩ := av3 hall
          refine ⟨.ref a', rfl, .inr (.inl ⟨a', _, 2, z, rfl, rfl, SqT.of ha, atI_nat (j := 2) rfl, z, kdOf dz, _, _, rfl, vz.ty, Av.kit dz (by decide), Av.kit dz (by decide), _, rfl, ?_⟩)⟩
          cases hi : (kd (kdOf dz) "int" && !kd (kdOf dz) "bool") with
          | false =>
            refine ite2 (fun _ => no ?_ H Sm.refl) (fun z => absurd rfl z)
            cases dz with
            | int k => simp [kdOf, kd] at hi
            | _ => rfl
          | true =>
            obtain ⟨k, rfl⟩ := kd_int hi
            refine ite2 (fun z => by cases z) fun _ => ?_
            refine ⟨.ref a', rfl, 2, rfl, a', [x, y, z], rfl, SqT.of ha, fun h => absurd h.2 (by show ¬ ((2 : Nat) = 3); decide), fun _ p hp => ⟨p, rfl, ⟨_, SqT.of upd_same⟩, fun E' hE => ?_⟩⟩
            have s1 : Sm [] H (upd H p (.tup (cutV [x, y, z] none (some 2)))) := Sm.refl.new hp
            have e1 : (upd H p (.tup (cutV [x, y, z] none (some 2)))) p = some (.tup [x, y]) := upd_same
            generalize upd H p (.tup (cutV [x, y, z] none (some 2))) = H1 at s1 e1 hE
            refine lc_tup (K := K) (a := p) (xs := [x, y]) (fun i H' => ∃ bs : List Bool, H' E' = some (.lst (bs.map V.bl)) ∧ Sm [] H1 H' ∧ bs = ([dx, dy].map (nmB cs)).take i) ?_ ?_ ?_ ?_
            · exact ⟨[], upd_same, Sm.refl.new hE, rfl⟩
            · rintro i H' _ ⟨bs, h1, h2, h3⟩
              exact SqT.of (h2.keep e1)
            · rintro i u H' hu ⟨bs, h1, h2, h3⟩
              have hall2 : AvAll D H [x, y] [dx, dy] := .cons vx (.cons vy .nil)
              obtain ⟨du, hdu, vu⟩ := hall2.get hu
              have s2 : Sm [] H H' := s1.trans h2
              have vu2 := vu.keep s2 hN
              have il : i < 2 := (List.getElem?_eq_some_iff.mp hu).1
              have blen : bs.length = i := by
                rw [h3, List.length_take]
                show min i 2 = i
                omega
              have fin : bs ++ [nmB cs du] = ([dx, dy].map (nmB cs)).take (i + 1) := by
                rw [List.take_add_one, List.getElem?_map, hdu, h3]
                rfl
              have put : ∀ b, b = nmB cs du → ∃ acc, H' E' = some (.lst acc) ∧ acc.length < sizeLine ∧ ∃ bs : List Bool, (upd H' E' (.lst (acc ++ [V.bl b]))) E' = some (.lst (bs.map V.bl)) ∧ Sm [] H1 (upd H' E' (.lst (acc ++ [V.bl b]))) ∧ bs = ([dx, dy].map (nmB cs)).take (i + 1) := fun b e =>
                ⟨_, h1, by rw [List.length_map]; exact small16 (by omega), bs ++ [b], by rw [upd_same, List.map_append]; rfl, h2.own hE, by rw [e]; exact fin⟩
              refine ⟨rfl, u, rfl, _, "str", kdOf du, _, rfl, vu2.ty, Av.kit du (by decide), _, rfl, ?_⟩
              cases hs : kd (kdOf du) "str" with
              | false => exact ite2 (fun z => by cases z) fun _ => put false (nmB_str hs).symm
              | true =>
                obtain ⟨zu, rfl⟩ := kd_str hs
                obtain rfl := vu.str'
                refine ite2 (fun _ => ?_) (fun z => absurd rfl z)
                refine ⟨.str zu, rfl, rfl, _, rfl, ?_⟩
                by_cases hz : zu = ""
                · refine ite2 (fun _ => put true ?_) (fun w => absurd (by rw [hz]; exact decide_eq_true rfl) w)
                  simp [nmB, hz]
                · refine ite2 (fun w => absurd (by simpa using w) hz) fun _ => ?_
                  refine ⟨.str zu, rfl, .ref a, rfl, a, cs.map V.str, rfl, .inr (sqt_sm hA s2), rfl, flat_strs cs, ?_⟩
                  refine put _ ?_
                  show inV (.str zu) (cs.map V.str) = _
                  rw [inV_str]
                  simp [nmB, hz]
            · rintro H' ⟨bs, h1, h2, h3⟩
              have h3' : bs = [nmB cs dx, nmB cs dy] := h3
              have s2 : Sm [] H H' := s1.trans h2
              refine ⟨E', bs, rfl, SqL.of h1, _, rfl, ?_⟩
              rw [h3']
              show if (!(nmB cs dx && (nmB cs dy && true))) = true then _ else _
              cases hx : nmB cs dx with
              | false => exact ite2 (fun _ => no (by simp [isB, hx]) H' s2) (fun z => absurd rfl z)
              | true =>
                cases hy : nmB cs dy with
                | false => exact ite2 (fun _ => no (by simp [isB, hy]) H' s2) (fun z => absurd rfl z)
                | true =>
                  refine ite2 (fun z => by cases z) fun _ => ?_
                  obtain ⟨zx, rfl⟩ : ∃ zx, dx = .str zx := by
                    cases dx with
                    | str zx => exact ⟨zx, rfl⟩
                    | _ => cases hx
                  obtain ⟨zy, rfl⟩ : ∃ zx, dy = .str zx := by
                    cases dy with
                    | str zx => exact ⟨zx, rfl⟩
                    | _ => cases hy
                  obtain rfl := vx.str'
                  obtain rfl := vy.str'
                  have ha2 := s2.keep ha
                  refine ⟨.ref a', rfl, .inr (.inl ⟨a', _, 0, .str zx, rfl, rfl, SqT.of ha2, atI_nat (j := 0) rfl, .ref a', rfl, .inr (.inl ⟨a', _, 1, .str zy, rfl, rfl, SqT.of ha2, atI_nat (j := 1) rfl, rfl, ?_⟩)⟩)⟩
                  have := q H' s2
                  have e : isB cs (.tuple [.str zx, .str zy, .int k]) = !decide (V.str zx = V.str zy) := by
                    simp [isB, hx, hy, neB]
                  rw [e] at this
                  exact this
        · refine ite2 (fun _ => ite2 (fun _ => no (isB_len h3) H Sm.refl) (fun z => absurd rfl z)) (fun z => absurd ?_ z)
          have : ¬ ((xs.length : Nat) : Int) = 3 := by rw [hall.len]; omega
          simp [this]
end
end K91

namespace K91
open PySem PySem.Spec PyProof.Rows L2
open ZM (getT putT)
theorem isB_no {cs : List Str} {dx dy dz : PyData} (h : nmB cs dx = false ∨ nmB cs dy = false ∨ neB dx dy = false) : isB cs (.tuple [dx, dy, dz]) = false := by
  cases dz with
  | int k =>
    show (nmB cs dx && nmB cs dy && neB dx dy) = false
    rcases h with h | h | h <;> rw [h] <;> simp
  | _ => rfl
section
variable {P : Program} {w : World} {K : PySem.W.Frag} {mg : Str → Option Value} {base : Heap}
def spAb (K : PySem.W.Frag) : Sp := fun vs H Q _ => ∃ (a : Addr) (v : V) (cs : List Str) (D : List Addr) (d : PyData), vs = [.ref a, v] ∧ SqT K H a (cs.map V.str) ∧ cs ≠ [] ∧ cs.length ≤ 3 ∧ Av D H v d ∧ NT D H ∧ ∀ H', Sm [] H H' → Q (.bl (areB cs d)) H'
theorem NT.keep {D : List Addr} {H H' : Hp} {v : V} {d : PyData} (h : ∀ b ∈ D, ∃ o, H b = some o ∧ ∀ xs, o ≠ .tup xs) (s : Sm [] H H') : NT D H' := fun b hb xs e => by
  obtain ⟨o, e1, n⟩ := h b hb
  rw [s.keep e1] at e
  cases e
  exact n xs rfl
/-- where D stands there are no tuples, and there will be none -/
def NTs (D : List Addr) (H : Hp) : Prop := ∀ b ∈ D, ∃ o, H b = some o ∧ ∀ xs, o ≠ .tup xs
theorem NTs.nt {D : List Addr} {H : Hp} (h : NTs D H) : NT D H := fun b hb xs e => by
  obtain ⟨o, e1, n⟩ := h b hb
  rw [e1] at e
  cases e
  exact n xs rfl
theorem NTs.sm {D : List Addr} {H H' : Hp} (h : NTs D H) (s : Sm [] H H') : NTs D H' := fun b hb => by
  obtain ⟨o, e1, n⟩ := h b hb
  exact ⟨o, s.keep e1, n⟩
theorem Deck.nts {H : Hp} {d c : Addr} {n : Nat} (D : Deck H d c n) : NTs [d, c] H := by
  obtain ⟨cs, b, h1, h2, _⟩ := D.ex
  intro a ha
  rcases List.mem_cons.mp ha with rfl | ha
  · exact ⟨_, h1, fun xs z => by cases z⟩
  · rcases List.mem_cons.mp ha with rfl | ha
    · exact ⟨_, h2, fun xs z => by cases z⟩
    · cases ha
theorem ok_ab {f : Addr} {fd : FuncData} (F : Fun K "are_bounds" "are_bounds" sAb f fd) (B : Bn mg) (cIb : Cal P w K mg base "is_bound" ["columns", "thing"] 2 (spIb K)) :
    FnOk P w K mg base CX0 3 f fd ["columns", "thing"] (fun vs H Q E => ∃ (a : Addr) (v : V) (cs : List Str) (D : List Addr) (d : PyData), vs = [.ref a, v] ∧ SqT K H a (cs.map V.str) ∧ Av D H v d ∧ NTs D H ∧ ∀ H', Sm [] H H' → Q (.bl (areB cs d)) H') := by
  refine F.ok scAb (fun vs H Q E h => ?_) (fun cdv A outer s H vs Q E hr h => ?_)
  · obtain ⟨a, v, cs, D, d, rfl, _⟩ := h
    rfl
  · obtain ⟨a, v, cs, D, d, rfl, hA, hv, hN, q⟩ := h
    have nd := scAb.nd
    refine ⟨_, pss_one (ps_ret (pe_and (pe_is B B.tuple boot_tuple (pv 1)) (pe_one (pe_callB (cr_all rfl) (by rfl) B.all boot_all (pa_cons
      (pe_lc (own := [("one", 2)]) (g := gName 2) (tt := tYes) (te := tCall (spIb K) [] E0 (tCons (tVar 0) (tCons (tVar 2) tNil))) rfl nd (pi_tup (pv 1)) (blkOk_by (N := ["columns", "thing", "one"]) (sc := defScope sAb) (by decide +kernel))
        (fun _ _ _ _ _ => pg_name (i := 2) nd rfl (.inl rfl)) (fun _ _ _ _ _ => pts_nil) (fun _ _ _ _ _ => pe_own cIb hr (pa_cons (pv 0) (pa_cons (pv 2) pa_nil)))) pa_nil))))), ?_⟩
    refine ⟨v, rfl, _, "tuple", kdOf d, _, rfl, hv.ty, Av.kit d (by decide), _, rfl, ?_⟩
    cases hk : kd (kdOf d) "tuple" with
    | false =>
      refine ite2 (fun z => by cases z) fun _ => ?_
      have := q H Sm.refl
      have e : areB cs d = false := by
        cases d with
        | tuple ds => simp [kdOf, kd] at hk
        | _ => rfl
      rw [e] at this
      exact this
    | true =>
      obtain ⟨ds, rfl⟩ := kd_tup hk
      cases hv with
      | @tup a' xs _ ha hxl hall =>
        refine ite2 (fun _ => ?_) (fun z => absurd rfl z)
        refine ⟨.ref a', rfl, a', rfl, ⟨_, SqT.of ha⟩, fun E' hE => ?_⟩
        refine lc_tup (K := K) (a := a') (xs := xs) (fun i H' => ∃ bs : List Bool, H' E' = some (.lst (bs.map V.bl)) ∧ Sm [] H H' ∧ bs = (ds.map (isB cs)).take i) ?_ ?_ ?_ ?_
        · exact ⟨[], upd_same, Sm.refl.new hE, rfl⟩
        · rintro i H' _ ⟨bs, h1, h2, h3⟩
          exact SqT.of (h2.keep ha)
        · rintro i u H' hu ⟨bs, h1, h2, h3⟩
          obtain ⟨du, hdu, vu⟩ := hall.get hu
          have il : i < xs.length := (List.getElem?_eq_some_iff.mp hu).1
          refine ⟨rfl, .ref a, rfl, u, rfl, a, u, cs, D, du, rfl, sqt_sm hA h2, vu.keep h2 hN.nt, (hN.sm h2).nt, fun H2 s2 => ?_⟩
          refine ⟨_, s2.keep h1, ?_, bs ++ [isB cs du], ?_, ?_, ?_⟩
          · rw [List.length_map, h3, List.length_take]
            exact small1000 (by omega)
          · rw [upd_same, List.map_append]
            rfl
          · exact (h2.trans s2).own hE
          · rw [List.take_add_one, List.getElem?_map, hdu, h3]
            rfl
        · rintro H' ⟨bs, h1, h2, h3⟩
          refine ⟨E', bs, rfl, SqL.of h1, ?_⟩
          have := q H' h2
          have e : areB cs (.tuple ds) = bs.all id := by
            rw [h3, hall.len, List.take_of_length_le (by rw [List.length_map]; exact Nat.le_refl _), List.all_map]
            rfl
          rw [e] at this
          exact this
def spSo (K : PySem.W.Frag) : Sp := fun vs H Q _ => ∃ (a : Addr) (v : V) (cs : List Str) (D : List Addr) (d : PyData), vs = [.ref a, v] ∧ SqT K H a (cs.map V.str) ∧ cs ≠ [] ∧ cs.length ≤ 3 ∧ Av D H v d ∧ NTs D H ∧ ∀ H', Sm [] H H' → Q (.bl (areB cs d)) H'
theorem ok_so {f : Addr} {fd : FuncData} (F : Fun K "_law_are_bounds_so" "_law_are_bounds_so" sSo f fd) (B : Bn mg) : FnOk P w K mg base CX0 1 f fd ["columns", "thing"] (spSo K) := by
  refine F.ok scSo (fun vs H Q E h => ?_) (fun cdv A outer s H vs Q E hr h => ?_)
  · obtain ⟨a, v, cs, D, d, rfl, _⟩ := h
    rfl
  · obtain ⟨a, v, cs, D, d, rfl, hA, hc, hl, hv, hN, q⟩ := h
    have nd := scSo.nd
    refine ⟨_, pss_cons (ps_if (pt_not (pt_val (pe_is B B.tuple boot_tuple (pv 1)))) (pss_one (ps_ret pe_bl)) pss_nil)
      (pss_cons (ps_for PassesOwn.never rfl (pi_tup (pv 1)) (pg_name (i := 2) nd rfl (.inl rfl))
        (pss_cons (ps_if (PW.pt (pw_or (pt_not (pt_val (pe_is B B.tuple boot_tuple (pv 2)))) (pw_or1 (pt_cmpR op_ne (pe_callB call_len (by rfl) B.len boot_len (pa_cons (pv 2) pa_nil)) pe_int (nomark _))))) (pss_one (ps_ret pe_bl)) pss_nil)
        (pss_cons (ps_asg (pv 2) (pg_tup rfl (pgs_cons (pg_name (i := 3) nd rfl (.inl rfl)) (pgs_cons (pg_name (i := 4) nd rfl (.inl rfl)) (pgs_cons (pg_name (i := 5) nd rfl (.inl rfl)) pgs_nil)))))
        (pss_cons (ps_if (PW.pt (pw_or (pt_not (pt_val (pe_is B B.str boot_str (pv 3)))) (pw_or (pt_not (pt_val (pe_is B B.str boot_str (pv 4)))) (pw_or1 (pt_cmpR op_eq (pv 3) (pv 4) (nomark _)))))) (pss_one (ps_ret pe_bl)) pss_nil)
        (pss_one (ps_if (PW.pt (pw_or (pt_cmpR op_notIn_seq (pv 3) (pe_op op_catA (pv 0) (pe_tup (pa_cons pe_str pa_nil))) (by rfl)) (pw_or (pt_cmpR op_notIn_seq (pv 4) (pe_op op_catA (pv 0) (pe_tup (pa_cons pe_str pa_nil))) (by rfl))
            (pw_or (pt_not (pt_val (pe_is B B.int boot_int (pv 5)))) (pw_or1 (pt_val (pe_is B B.bool boot_bool (pv 5)))))))) (pss_one (ps_ret pe_bl)) pss_nil))))))
      (pss_one (ps_ret pe_bl))), ?_⟩
    have no : areB cs d = false → ∀ H', Sm [] H H' → Q (.bl false) H' := fun e H' s => by
      have := q H' s
      rw [e] at this
      exact this
    refine ⟨v, rfl, _, "tuple", kdOf d, _, rfl, hv.ty, Av.kit d (by decide), _, rfl, ?_⟩
    cases hk : kd (kdOf d) "tuple" with
    | false =>
      refine ite2 (fun _ => no ?_ H Sm.refl) (fun z => absurd rfl z)
      cases d with
      | tuple ds => simp [kdOf, kd] at hk
      | _ => rfl
    | true =>
      obtain ⟨ds, rfl⟩ := kd_tup hk
      cases hv with
      | @tup a' xs _ ha hxl hall =>
        refine ite2 (fun z => by cases z) fun _ => ?_
        have bad : ∀ {i : Nat} {du : PyData}, ds[i]? = some du → isB cs du = false → ∀ H', Sm [] H H' → Q (.bl false) H' := fun {i du} hd hb => no (by
          show ds.all (isB cs) = false
          rw [List.all_eq_false]
          exact ⟨du, List.mem_of_getElem? hd, by rw [hb]; simp⟩)
        refine ⟨.ref a', rfl, a', rfl, ⟨_, SqT.of ha⟩, for_tup (xs := xs) (fun i σ H' => Sm [] H H' ∧ (∃ y2 y3 y4 y5, σ = [some (.ref a), some (.ref a'), y2, y3, y4, y5]) ∧ (ds.take i).all (isB cs) = true) ?_ ?_ ?_ ?_⟩
        · exact ⟨Sm.refl, ⟨_, _, _, _, rfl⟩, rfl⟩
        · rintro i σ H' _ ⟨s, _⟩
          exact SqT.of (s.keep ha)
        · rintro i u σ H' hu ⟨s, ⟨y2, y3, y4, y5, rfl⟩, hall2⟩
          obtain ⟨du, hdu, vu0⟩ := hall.get hu
          have vu := vu0.keep s hN.nt
          have nxt : isB cs du = true → (ds.take (i + 1)).all (isB cs) = true := fun h => by
            rw [List.take_add_one, hdu, Option.toList_some, List.all_append, hall2]
            simp [h]
          refine ⟨u, rfl, _, "tuple", kdOf du, _, rfl, vu.ty, Av.kit du (by decide), _, rfl, ?_⟩
          cases hk2 : kd (kdOf du) "tuple" with
          | false => exact ite2 (fun _ => ite2 (fun _ => bad hdu (isB_tup hk2) H' s) (fun z => absurd rfl z)) (fun z => absurd rfl z)
          | true =>
            obtain ⟨es, rfl⟩ := kd_tup hk2
            cases vu with
            | @tup b' ys _ hb hyl hall3 =>
              refine ite2 (fun z => by cases z) fun _ => ?_
              refine ⟨.ref b', rfl, _, ys.length, rfl, .inr ⟨_, SqT.of hb, rfl⟩, rfl, _, rfl, ?_⟩
              by_cases h3 : es.length = 3
              · refine ite2 (fun z => absurd z (by rw [hall3.len, h3]; simp)) fun _ => ?_
                obtain ⟨dx, dy, dz, rfl⟩ := three h3
                obtain ⟨x, y, z, rfl, vx, vy, vz⟩ := av3 hall3
                refine ⟨.ref b', rfl, b', _, rfl, SqT.of hb, rfl, _, _, rfl, _, _, rfl, _, _, rfl, rfl, ?_⟩
                refine ⟨x, rfl, _, "str", kdOf dx, _, rfl, vx.ty, Av.kit dx (by decide), _, rfl, ?_⟩
                cases hx : kd (kdOf dx) "str" with
                | false => exact ite2 (fun _ => ite2 (fun _ => bad hdu (isB_no (.inl (nmB_str hx))) H' s) (fun z => absurd rfl z)) (fun z => absurd rfl z)
                | true =>
                  obtain ⟨zx, rfl⟩ := kd_str hx
                  obtain rfl := vx.str'
                  refine ite2 (fun z => by cases z) fun _ => ?_
                  refine ⟨y, rfl, _, "str", kdOf dy, _, rfl, vy.ty, Av.kit dy (by decide), _, rfl, ?_⟩
                  cases hy : kd (kdOf dy) "str" with
                  | false => exact ite2 (fun _ => ite2 (fun _ => bad hdu (isB_no (.inr (.inl (nmB_str hy)))) H' s) (fun z => absurd rfl z)) (fun z => absurd rfl z)
                  | true =>
                    obtain ⟨zy, rfl⟩ := kd_str hy
                    obtain rfl := vy.str'
                    refine ite2 (fun z => by cases z) fun _ => ?_
                    refine ⟨.str zx, rfl, .str zy, rfl, rfl, _, rfl, ?_⟩
                    by_cases hxy : zx = zy
                    · refine ite2 (fun _ => bad hdu ?_ H' s) (fun w => absurd (by rw [hxy]; simp) w)
                      exact isB_no (.inr (.inr (by rw [hxy]; simp [neB])))
                    · refine ite2 (fun w => absurd (by simpa using w) hxy) fun _ => ?_
                      -- the names
                      refine ⟨.str zx, rfl, ?_⟩
                      refine names_rd rfl (sqt_sm hA s) hc hl fun nA H2 s2 _ n2 => ?_
                      refine ⟨nA, _, rfl, .inr (SqT.of n2), rfl, flat_strs _, _, rfl, ?_⟩
                      rw [if_pos rfl, inV_str]
                      have mm : ∀ z, decide (z ∈ nmL cs) = nmB cs (.str z) := fun z => by
                        rw [show nmB cs (.str z) = (decide (z = "") || decide (z ∈ cs)) from rfl, ← Bool.decide_or, decide_eq_decide, nmL_mem, List.mem_cons]
                      rw [mm]
                      cases hnx : nmB cs (.str zx) with
                      | false => exact ite2 (fun _ => ite2 (fun _ => bad hdu (isB_no (.inl hnx)) H2 (s.trans s2)) (fun z => absurd rfl z)) (fun z => absurd rfl z)
                      | true =>
                        refine ite2 (fun z => by cases z) fun _ => ?_
                        refine ⟨.str zy, rfl, ?_⟩
                        refine names_rd rfl (sqt_sm hA (s.trans s2)) hc hl fun nB H3 s3 _ n3 => ?_
                        refine ⟨nB, _, rfl, .inr (SqT.of n3), rfl, flat_strs _, _, rfl, ?_⟩
                        rw [if_pos rfl, inV_str, mm]
                        have s23 := (s.trans s2).trans s3
                        have vz3 := (vz.keep (s2.trans s3) (hN.sm s).nt)
                        cases hny : nmB cs (.str zy) with
                        | false => exact ite2 (fun _ => ite2 (fun _ => bad hdu (isB_no (.inr (.inl hny))) H3 s23) (fun z => absurd rfl z)) (fun z => absurd rfl z)
                        | true =>
                          refine ite2 (fun z => by cases z) fun _ => ?_
                          refine ⟨z, rfl, _, "int", kdOf dz, _, rfl, vz3.ty, Av.kit dz (by decide), _, rfl, ?_⟩
                          cases hi : kd (kdOf dz) "int" with
                          | false =>
                            refine ite2 (fun _ => ite2 (fun _ => bad hdu ?_ H3 s23) (fun z => absurd rfl z)) (fun z => absurd rfl z)
                            cases dz with
                            | int k => simp [kdOf, kd] at hi
                            | _ => rfl
                          | true =>
                            refine ite2 (fun z => by cases z) fun _ => ?_
                            refine ⟨z, rfl, _, "bool", kdOf dz, _, rfl, vz3.ty, Av.kit dz (by decide), _, rfl, ?_⟩
                            cases hb2 : kd (kdOf dz) "bool" with
                            | true =>
                              refine ite2 (fun _ => bad hdu ?_ H3 s23) (fun z => absurd rfl z)
                              cases dz with
                              | int k => simp [kdOf, kd] at hb2
                              | _ => rfl
                            | false =>
                              obtain ⟨k, rfl⟩ := kd_int (d := dz) (by rw [hi, hb2]; rfl)
                              refine ite2 (fun z => by cases z) fun _ => ⟨s23, ⟨_, _, _, _, rfl⟩, nxt ?_⟩
                              simp [isB, hnx, hny, neB, hxy]
              · refine ite2 (fun _ => bad hdu (isB_len h3) H' s) (fun z => absurd ?_ z)
                have : ¬ ((ys.length : Nat) : Int) = 3 := by rw [hall3.len]; omega
                simp [this]
        · rintro σ H' ⟨s, _, hall2⟩
          rw [hall.len, List.take_length] at hall2
          have := q H' s
          rw [show areB cs (.tuple ds) = true from hall2] at this
          exact this
end
end K91

namespace K91
open PySem PySem.Spec PyProof.Rows L2
open ZM (getT putT)
open TL (tl len_tl tl_append)
/-! ### terms that give values -/
def AvE (D : List Addr) (σ : L2.St) (H : Hp) (te : TE) : Prop := ∀ H1, Sm [] H H1 → ∀ R : VK, (∀ x p H2, Sm [] H1 H2 → Av D H2 x p → R x H2) → te σ H1 R
def AvT (D : List Addr) (σ : L2.St) (H : Hp) (n : Nat) (t : TA) : Prop := ∀ H1, Sm [] H H1 → ∀ R : List V → Hp → Prop, (∀ xs ds H2, Sm [] H1 H2 → xs.length = n → AvAll D H2 xs ds → R xs H2) → t σ H1 R
variable {D : List Addr} {σ : L2.St} {H : Hp}
theorem NTs.out {H : Hp} (h : NTs D H) {p : Addr} (hp : H p = none) : p ∉ D := fun z => by
  obtain ⟨o, e, _⟩ := h p z
  rw [hp] at e
  cases e
theorem AvAll.keep {H H' : Hp} {vs : List V} {ds : List PyData} (h : AvAll D H vs ds) (s : Sm [] H H') (n : NTs D H) : AvAll D H' vs ds := h.sm s.nil n.nt
theorem AvT.nil : AvT D σ H 0 tNil := fun H1 _ R q => q [] [] H1 Sm.refl rfl .nil
theorem AvT.cons (hN : NTs D H) {n : Nat} {te : TE} {t : TA} (a : AvE D σ H te) (b : AvT D σ H n t) : AvT D σ H (n + 1) (tCons te t) := fun H1 s1 R q =>
  a H1 s1 _ fun x p H2 s2 vx => b H2 (s1.trans s2) _ fun xs ds H3 s3 hl h => q _ (p :: ds) H3 (s2.trans s3) (by rw [List.length_cons, hl]) (.cons (vx.keep s3 (hN.sm (s1.trans s2)).nt) h)
theorem AvE.val {v : V} {p : PyData} (h : ∀ H, Av D H v p) : AvE D σ H (tC v) := fun H1 _ R q => q v p H1 Sm.refl (h H1)
theorem AvE.var {i : Nat} {v : V} {p : PyData} (hN : NTs D H) (h : σ[i]? = some (some v)) (hv : Av D H v p) : AvE D σ H (tVar i) := fun H1 s1 R q => ⟨v, h, q v p H1 Sm.refl (hv.keep s1 hN.nt)⟩
theorem AvE.tup (hN : NTs D H) {n : Nat} {t : TA} (b : AvT D σ H n t) (hn : n ≤ 16) : AvE D σ H (tTup t) := fun H1 s1 R q => b H1 s1 _ fun xs ds H2 s2 hl h => by
  refine ⟨by rw [hl]; have := small16 hn; omega, fun p hp => ?_⟩
  have s3 : Sm [] H2 (upd H2 p (.tup xs)) := Sm.refl.new hp
  exact q (.ref p) (.tuple ds) _ (s2.trans s3) (.tup upd_same (by omega) (h.keep s3 (hN.sm (s1.trans s2))))
theorem AvE.lst (hN : NTs D H) {n : Nat} {t : TA} (b : AvT D σ H n t) (hn : n ≤ 16) : AvE D σ H (tLst t) := fun H1 s1 R q => b H1 s1 _ fun xs ds H2 s2 hl h => by
  refine ⟨by rw [hl]; have := small16 hn; omega, fun p hp => ?_⟩
  exact q (.ref p) (.list []) _ (s2.trans (Sm.refl.new hp)) (.lst upd_same ((hN.sm (s1.trans s2)).out hp))
theorem AvE.dict (hN : NTs D H) : AvE D σ H tDNewK := fun H1 s1 R q p hp => q (.ref p) (.dict []) _ (Sm.refl.new hp) (.dK upd_same ((hN.sm s1).out hp))
theorem AvAll.app {H : Hp} : ∀ {vs ws : List V} {ds es : List PyData}, AvAll D H vs ds → AvAll D H ws es → AvAll D H (vs ++ ws) (ds ++ es)
  | _, _, _, _, .nil, h => h
  | _, _, _, _, .cons a r, h => .cons a (r.app h)
theorem AvAll.rep {H : Hp} {vs : List V} {ds : List PyData} (h : AvAll D H vs ds) : ∀ n, AvAll D H (List.replicate n vs).flatten (List.replicate n ds).flatten
  | 0 => .nil
  | n + 1 => by
    rw [List.replicate_succ, List.replicate_succ, List.flatten_cons, List.flatten_cons]
    exact h.app (h.rep n)
theorem AvAll.rev {H : Hp} : ∀ {vs : List V} {ds : List PyData}, AvAll D H vs ds → AvAll D H vs.reverse ds.reverse
  | _, _, .nil => .nil
  | _, _, .cons a r => by
    rw [List.reverse_cons, List.reverse_cons]
    exact r.rev.app (.cons a .nil)
theorem AvAll.drop {H : Hp} : ∀ {vs : List V} {ds : List PyData} (n : Nat), AvAll D H vs ds → AvAll D H (vs.drop n) (ds.drop n)
  | _, _, 0, h => h
  | _, _, n + 1, .nil => .nil
  | _, _, n + 1, .cons a r => r.drop n
theorem AvAll.take {H : Hp} : ∀ {vs : List V} {ds : List PyData} (n : Nat), AvAll D H vs ds → AvAll D H (vs.take n) (ds.take n)
  | _, _, 0, h => .nil
  | _, _, n + 1, .nil => .nil
  | _, _, n + 1, .cons a r => .cons a (r.take n)
theorem AvAll.cut {H : Hp} {vs : List V} {ds : List PyData} (h : AvAll D H vs ds) (lo hi : Option Int) : ∃ es, AvAll D H (cutV vs lo hi) es := ⟨_, (h.drop _).take _⟩
/-- [..], as a list -/
theorem list_rd (hN : NTs D H) {n : Nat} {t : TA} {R : VK} (b : AvT D σ H n t) (hn : n ≤ 16) (q : ∀ p xs ds H2, Sm [] H H2 → H p = none → H2 p = some (.lst xs) → AvAll D H2 xs ds → xs.length = n → R (.ref p) H2) : tLst t σ H R :=
  b H Sm.refl _ fun xs ds H2 s2 hl h => by
    refine ⟨by rw [hl]; have := small16 hn; omega, fun p hp => ?_⟩
    have s3 : Sm [] H2 (upd H2 p (.lst xs)) := Sm.refl.new hp
    exact q p xs ds _ (s2.trans s3) (s2.free hp (by simp)) upd_same (h.keep s3 (hN.sm s2)) hl
/-- so many times the same behind a list -/
theorem grow (hN : NTs D H) {n : Nat} {t : TA} {R : VK} {i : Nat} {p : Addr} {xs : List V} {ds : List PyData} {k : Int} (h3 : σ[i]? = some (some (.ref p))) (hp : H p = some (.lst xs)) (hx : AvAll D H xs ds) (x1 : 1 ≤ xs.length) (x2 : xs.length ≤ 16) (b : AvT D σ H n t) (hn : n ≤ 16) (k0 : 0 ≤ k) (k4 : k ≤ 4)
    (q : ∀ p4 ys es H4, Sm [] H H4 → H p4 = none → H4 p4 = some (.lst ys) → AvAll D H4 ys es → 1 ≤ ys.length → ys.length ≤ 100 → R (.ref p4) H4) : tOp rCat (tVar i) (tOp rRep (tLst t) (tC (.int k))) σ H R := by
  refine ⟨.ref p, h3, ?_⟩
  refine op_in (list_rd hN b hn fun p2 xs2 ds2 H2 s2 hp2 e2 h2 hl => ?_)
  have hk : k.toNat ≤ 4 := by omega
  have hm : xs2.length * k.toNat ≤ 16 * 4 := Nat.mul_le_mul (by omega) hk
  have big : (100 : Nat) ≤ sizeLine := by decide
  refine ⟨p2, k, xs2, rfl, rfl, e2, by omega, by omega, by omega, fun p3 hp3 => ?_⟩
  have hfl : (List.replicate k.toNat xs2).flatten.length = k.toNat * xs2.length := by
    rw [List.length_flatten, List.map_replicate, List.sum_replicate_nat]
  have hm2 : k.toNat * xs2.length ≤ 64 := by rw [Nat.mul_comm]; omega
  have s3 : Sm [] H2 (upd H2 p3 (.lst (List.replicate k.toNat xs2).flatten)) := Sm.refl.new hp3
  have e3 : (upd H2 p3 (.lst (List.replicate k.toNat xs2).flatten)) p3 = some (.lst (List.replicate k.toNat xs2).flatten) := upd_same
  generalize upd H2 p3 (.lst (List.replicate k.toNat xs2).flatten) = H3 at s3 e3
  have s23 := s2.trans s3
  refine ⟨p, p3, xs, _, rfl, rfl, s23.keep hp, e3, by rw [hfl]; omega, fun p4 hp4 => ?_⟩
  have s4 : Sm [] H3 (upd H3 p4 (.lst (xs ++ (List.replicate k.toNat xs2).flatten))) := Sm.refl.new hp4
  refine q p4 _ _ _ (s23.trans s4) (s23.free hp4 (by simp)) upd_same ((hx.keep (s23.trans s4) hN).app ((h2.keep (s3.trans s4) (hN.sm s2)).rep k.toNat)) ?_ ?_
  · rw [List.length_append]; omega
  · rw [List.length_append, hfl]; omega
end K91

namespace K91
open PySem PySem.Spec PyProof.Rows L2
open ZM (getT putT)
open TL (tl len_tl tl_append)
/-- small values: texts, ints, tuples of depth n of such -/
def Sml : Nat → PyData → Prop
  | _, .int i => -1000000000000 ≤ i ∧ i ≤ 1000000000000
  | _, .str z => Sp0 z 16
  | 0, _ => False
  | n + 1, .tuple ds => ds.length ≤ 100 ∧ ∀ d ∈ ds, Sml n d
  | _, _ => False
theorem ne_last {α : Type} {xs : List α} (h : xs ≠ []) : ∃ v, atI xs (-1) = some v ∧ v ∈ xs := by
  have e := (List.dropLast_concat_getLast h).symm
  have q := atI_last xs.dropLast (xs.getLast h)
  rw [← e] at q
  exact ⟨xs.getLast h, q, List.getLast_mem h⟩
section
variable {D : List Addr} {σ : L2.St} {H : Hp} {K : PySem.W.Frag}
/-- a slice of a tuple -/
theorem cut_rd {H1 : Hp} {a : Addr} {xs : List V} {ds : List PyData} {lo hi : Option Int} {R : VK} (hN : NTs D H1) (ha : H1 a = some (.tup xs)) (hl : xs.length ≤ 1000) (h : AvAll D H1 xs ds) (q : ∀ b ys es H2, Sm [] H1 H2 → H2 b = some (.tup ys) → ys.length ≤ xs.length → AvAll D H2 ys es → R (.ref b) H2) : rSlA K (.ref a) lo hi H1 R := by
  refine ⟨a, xs, rfl, SqT.of ha, fun _ => q a xs ds H1 Sm.refl ha (Nat.le_refl _) h, fun _ p hp => ?_⟩
  obtain ⟨es, he⟩ := h.cut lo hi
  have s : Sm [] H1 (upd H1 p (.tup (cutV xs lo hi))) := Sm.refl.new hp
  exact q p _ es _ s upd_same (cutV_length xs lo hi) (he.keep s hN)
/-- tuple + tuple -/
theorem catA_rd {H1 : Hp} {a b : Addr} {xs ys : List V} {ds es : List PyData} {R : VK} (hN : NTs D H1) (ha : H1 a = some (.tup xs)) (hb : H1 b = some (.tup ys)) (h : AvAll D H1 xs ds) (h2 : AvAll D H1 ys es) (hl : xs.length + ys.length ≤ 1000)
    (q : ∀ c gs H2, Sm [] H1 H2 → H2 c = some (.tup (xs ++ ys)) → AvAll D H2 (xs ++ ys) gs → R (.ref c) H2) : rCatA K (.ref a) (.ref b) H1 R := by
  have big : (1000 : Nat) ≤ sizeLine := by decide
  refine ⟨a, b, xs, ys, rfl, rfl, SqT.of ha, SqT.of hb, by omega, fun e => ?_, fun _ e => ?_, fun _ _ p hp => ?_⟩
  · subst e
    exact q b es H1 Sm.refl hb h2
  · subst e
    have := q a ds H1 Sm.refl
    rw [List.append_nil] at this
    exact this ha h
  · have s : Sm [] H1 (upd H1 p (.tup (xs ++ ys))) := Sm.refl.new hp
    exact q p _ _ s upd_same ((h.app h2).keep s hN)
end
abbrev tM1C : TE := tUn (rU fun i => .int (-i)) (tC (.int 1))
abbrev tCol0 (K : PySem.W.Frag) : TE := tOp (rIx K) (tVar 1) (tC (.int 0))
abbrev tColL (K : PySem.W.Frag) : TE := tOp (rIx K) (tVar 1) tM1C
section
variable {D : List Addr} {σ : L2.St} {H : Hp} {K : PySem.W.Frag}
theorem col0 {a : Addr} {cs : List Str} (h1 : σ[1]? = some (some (.ref a))) (hA : SqT K H a (cs.map V.str)) (hc : cs ≠ []) : AvE D σ H (tCol0 K) := fun H1 s1 R q => by
  obtain ⟨c, r, rfl⟩ := List.exists_cons_of_ne_nil hc
  exact ⟨.ref a, h1, .inr (.inl ⟨a, _, 0, .str c, rfl, rfl, sqt_sm hA s1, atI_nat (j := 0) rfl, q _ _ H1 Sm.refl (.str c)⟩)⟩
theorem colL {a : Addr} {cs : List Str} (h1 : σ[1]? = some (some (.ref a))) (hA : SqT K H a (cs.map V.str)) (hc : cs ≠ []) : AvE D σ H (tColL K) := fun H1 s1 R q => by
  obtain ⟨v, e, hv⟩ := ne_last (xs := cs.map V.str) (by simpa using hc)
  obtain ⟨z, _, rfl⟩ := List.mem_map.mp hv
  exact ⟨.ref a, h1, 1, rfl, .inr (.inl ⟨a, _, -1, .str z, rfl, rfl, sqt_sm hA s1, e, q _ _ H1 Sm.refl (.str z)⟩)⟩
end
section
variable {D : List Addr} {σ : L2.St} {H : Hp} {K : PySem.W.Frag}
theorem AvE.neg1 : AvE D σ H tM1C := fun H1 _ R q => ⟨1, rfl, q _ _ H1 Sm.refl (.int _)⟩
theorem AvE.pow30 : AvE D σ H (tOp (rI CPow fun i j => .int (i ^ j.toNat)) (tC (.int 10)) (tC (.int 30))) := fun H1 _ R q => by
  refine ⟨10, 30, rfl, rfl, ⟨by decide, by decide, by decide⟩, q (.int _) (.int _) H1 Sm.refl (.int _)⟩
abbrev oddT (K : PySem.W.Frag) : TA := tCons (tC .non) (tCons (tC (.bl true)) (tCons (tC (.bl false)) (tCons (tC (.int 0)) (tCons (tC (.int 1)) (tCons tM1C (tCons (tOp (rI CPow fun i j => .int (i ^ j.toNat)) (tC (.int 10)) (tC (.int 30))) (tCons (tC (.str ("" : Str))) (tCons (tC (.str ("zzzzzzzzz" : Str)))
  (tCons (tTup tNil) (tCons (tTup (tCons (tTup tNil) tNil)) (tCons (tLst tNil) (tCons tDNewK (tCons (tTup (tCons (tC (.str ("a" : Str))) tNil)) (tCons (tCol0 K) (tCons (tColL K) tNil)))))))))))))))
theorem odd_list {d a : Addr} {it : V} {cs : List Str} (hN : NTs D H) (hA : SqT K H a (cs.map V.str)) (hc : cs ≠ []) : AvT D [some (.ref d), some (.ref a), some it, none] H 16 (oddT K) := by
  refine AvT.cons hN (AvE.val fun _ => .non) ?_
  refine AvT.cons hN (AvE.val fun _ => .bl _) ?_
  refine AvT.cons hN (AvE.val fun _ => .bl _) ?_
  refine AvT.cons hN (AvE.val fun _ => .int _) ?_
  refine AvT.cons hN (AvE.val fun _ => .int _) ?_
  refine AvT.cons hN AvE.neg1 ?_
  refine AvT.cons hN AvE.pow30 ?_
  refine AvT.cons hN (AvE.val fun _ => .str _) ?_
  refine AvT.cons hN (AvE.val fun _ => .str _) ?_
  refine AvT.cons hN (AvE.tup hN AvT.nil (by decide)) ?_
  refine AvT.cons hN (AvE.tup hN (AvT.cons hN (AvE.tup hN AvT.nil (by decide)) AvT.nil) (by decide)) ?_
  refine AvT.cons hN (AvE.lst hN AvT.nil (by decide)) ?_
  refine AvT.cons hN (AvE.dict hN) ?_
  refine AvT.cons hN (AvE.tup hN (AvT.cons hN (AvE.val fun _ => .str _) AvT.nil) (by decide)) ?_
  refine AvT.cons hN (col0 rfl hA hc) ?_
  exact AvT.cons hN (colL rfl hA hc) AvT.nil
end
abbrev rListOf (K : PySem.W.Frag) : List V → Hp → VK → Prop := fun xs H Q => ∃ p ys, xs = [.ref p] ∧ (SqL K H p ys ∨ SqT K H p ys) ∧ ∀ l, H l = none → Q (.ref l) (upd H l (.lst ys))
abbrev oddTup (K : PySem.W.Frag) : TA := tCons (tCB (rListOf K) (tCons (tVar 2) tNil)) (tCons (tRevT K (tVar 2)) (tCons (tOp (rCatA K) (tVar 2) (tSl (rSlA K) (tVar 2) (tPart tM1C) tNoPart)) (tCons (tSl (rSlA K) (tVar 2) (tPart (tC (.int 1))) tNoPart)
  (tCons (tSl (rSlA K) (tVar 2) tNoPart (tPart tM1C)) (tCons (tTup (tCons (tVar 2) tNil)) (tCons (tOp (rCatA K) (tVar 2) (tVar 2)) tNil))))))
abbrev rStrOf : List V → Hp → VK → Prop := fun xs H Q => ∃ i, xs = [.int i] ∧ i.natAbs.log2 < 1920 ∧ Q (.str (toString i)) H
abbrev oddInt : TA := tCons (tOp (rI0 fun i j => .int (i + j)) (tVar 2) (tC (.int 1))) (tCons (tOp (rI0 fun i j => .int (i - j)) (tC (.int 0)) (tVar 2)) (tCons (tOp rEq (tVar 2) (tC (.int 1))) (tCons (tOp rEq (tVar 2) (tC (.int 0)))
  (tCons (tCB rStrOf (tCons (tVar 2) tNil)) (tCons (tTup (tCons (tVar 2) tNil)) tNil)))))
abbrev rAddS : R2 := fun x y H Q => ∃ i j, x = .str i ∧ y = .str j ∧ i.length + j.length ≤ sizeLine ∧ Q (.str (i ++ j)) H
abbrev rUp : V → List V → Hp → VK → Prop := fun x xs H Q => ∃ a, x = .str a ∧ xs = [] ∧ a.length ≤ 5592405 ∧ Q (.str (Txt.upper a)) H
abbrev oddStr (K : PySem.W.Frag) : TA := tCons (tOp rAddS (tVar 2) (tC (.str ("a" : Str)))) (tCons (tSl rSlS (tVar 2) tNoPart (tPart tM1C)) (tCons (tM0 rUp (tVar 2)) (tCons (tC (.str ("" : Str))) (tCons (tCol0 K) (tCons (tColL K) (tCons (tLst (tCons (tVar 2) tNil)) tNil))))))
section
variable {D : List Addr} {H1 : Hp} {K : PySem.W.Frag} {d a l : Addr}
theorem odd_tup {a' : Addr} {ys : List V} {es : List PyData} (hN1 : NTs D H1) (ha : H1 a' = some (.tup ys)) (hys : ys.length ≤ 100) (hall : AvAll D H1 ys es) : AvT D [some (.ref d), some (.ref a), some (.ref a'), some (.ref l)] H1 7 (oddTup K) := by
  have hyl : ys.length ≤ 1000 := by omega
  have it2 : ∀ {H2}, Sm [] H1 H2 → H2 a' = some (.tup ys) ∧ AvAll D H2 ys es ∧ NTs D H2 := fun {H2} s => ⟨s.keep ha, hall.keep s hN1, hN1.sm s⟩
  have itE : AvE D [some (.ref d), some (.ref a), some (.ref a'), some (.ref l)] H1 (tVar 2) := AvE.var hN1 rfl (.tup ha hyl hall)
  refine AvT.cons hN1 (fun H2 s2 R q => ?_) ?_
  · obtain ⟨g1, g2, g3⟩ := it2 s2
    exact ⟨.ref a', rfl, a', ys, rfl, .inr (SqT.of g1), fun l2 hl2 => q (.ref l2) (.list []) _ (Sm.refl.new hl2) (.lst upd_same (g3.out hl2))⟩
  refine AvT.cons hN1 (fun H2 s2 R q => ?_) ?_
  · obtain ⟨g1, g2, g3⟩ := it2 s2
    refine ⟨.ref a', rfl, a', ys, rfl, SqT.of g1, fun l2 hl2 => ?_⟩
    have s3 : Sm [] H2 (upd H2 l2 (.tup ys.reverse)) := Sm.refl.new hl2
    exact q (.ref l2) (.tuple es.reverse) _ s3 (.tup upd_same (by simpa using hyl) (g2.rev.keep s3 g3))
  refine AvT.cons hN1 (fun H2 s2 R q => ?_) ?_
  · obtain ⟨g1, g2, g3⟩ := it2 s2
    refine ⟨.ref a', rfl, .ref a', rfl, 1, rfl, -1, rfl, ?_⟩
    show rSlA K (.ref a') (some (-1)) none H2 (fun y H2 => rCatA K (.ref a') y H2 R)
    refine cut_rd g3 g1 hyl g2 fun b zs gs H3 s3 eb bl hb => ?_
    refine catA_rd (g3.sm s3) (s3.keep g1) eb (g2.keep s3 g3) hb (by omega) fun c2 hs H4 s4 ec hc2 => ?_
    exact q (.ref c2) (.tuple hs) H4 (s3.trans s4) (.tup ec (by rw [List.length_append]; omega) hc2)
  refine AvT.cons hN1 (fun H2 s2 R q => ?_) ?_
  · obtain ⟨g1, g2, g3⟩ := it2 s2
    refine ⟨.ref a', rfl, 1, rfl, ?_⟩
    show rSlA K (.ref a') (some 1) none H2 R
    exact cut_rd g3 g1 hyl g2 fun b zs gs H3 s3 eb bl hb => q (.ref b) (.tuple gs) H3 s3 (.tup eb (by omega) hb)
  refine AvT.cons hN1 (fun H2 s2 R q => ?_) ?_
  · obtain ⟨g1, g2, g3⟩ := it2 s2
    refine ⟨.ref a', rfl, 1, rfl, -1, rfl, ?_⟩
    show rSlA K (.ref a') none (some (-1)) H2 R
    exact cut_rd g3 g1 hyl g2 fun b zs gs H3 s3 eb bl hb => q (.ref b) (.tuple gs) H3 s3 (.tup eb (by omega) hb)
  refine AvT.cons hN1 (AvE.tup hN1 (AvT.cons hN1 itE AvT.nil) (by decide)) ?_
  refine AvT.cons hN1 (fun H2 s2 R q => ?_) AvT.nil
  obtain ⟨g1, g2, g3⟩ := it2 s2
  refine ⟨.ref a', rfl, .ref a', rfl, ?_⟩
  refine catA_rd g3 g1 g1 g2 g2 (by omega) fun c2 hs H4 s4 ec hc2 => ?_
  exact q (.ref c2) (.tuple hs) H4 s4 (.tup ec (by rw [List.length_append]; omega) hc2)
theorem odd_int {i : Int} (hN1 : NTs D H1) (hi : -1000000000000 ≤ i ∧ i ≤ 1000000000000) : AvT D [some (.ref d), some (.ref a), some (.int i), some (.ref l)] H1 6 oddInt := by
  have itE : AvE D [some (.ref d), some (.ref a), some (.int i), some (.ref l)] H1 (tVar 2) := AvE.var hN1 rfl (.int i)
  refine AvT.cons hN1 (fun H2 s2 R q => ⟨.int i, rfl, i, 1, rfl, rfl, q _ _ H2 Sm.refl (.int _)⟩) ?_
  refine AvT.cons hN1 (fun H2 s2 R q => ⟨.int i, rfl, 0, i, rfl, rfl, q _ _ H2 Sm.refl (.int _)⟩) ?_
  refine AvT.cons hN1 (fun H2 s2 R q => ⟨.int i, rfl, rfl, q _ _ H2 Sm.refl (.bl _)⟩) ?_
  refine AvT.cons hN1 (fun H2 s2 R q => ⟨.int i, rfl, rfl, q _ _ H2 Sm.refl (.bl _)⟩) ?_
  refine AvT.cons hN1 (fun H2 s2 R q => ⟨.int i, rfl, i, rfl, ?_, q _ _ H2 Sm.refl (.str _)⟩) ?_
  · have h2 : i.natAbs ≤ 1000000000000 := by omega
    by_cases h0 : i.natAbs = 0
    · rw [h0]; decide
    · have h3 : i.natAbs < 2 ^ 64 := by omega
      have := (Nat.log2_lt h0 (k := 64)).mpr h3
      omega
  exact AvT.cons hN1 (AvE.tup hN1 (AvT.cons hN1 itE AvT.nil) (by decide)) AvT.nil
theorem odd_str {z : Str} {cs : List Str} (hN1 : NTs D H1) (hz : Sp0 z 16) (hA1 : SqT K H1 a (cs.map V.str)) (hc : cs ≠ []) : AvT D [some (.ref d), some (.ref a), some (.str z), some (.ref l)] H1 7 (oddStr K) := by
  have itE : AvE D [some (.ref d), some (.ref a), some (.str z), some (.ref l)] H1 (tVar 2) := AvE.var hN1 rfl (.str z)
  have hzl := hz.len
  have big : (17 : Nat) ≤ sizeLine := by decide
  refine AvT.cons hN1 (fun H2 s2 R q => ⟨.str z, rfl, z, _, rfl, rfl, ?_, q _ _ H2 Sm.refl (.str _)⟩) ?_
  · show z.length + 1 ≤ sizeLine
    omega
  refine AvT.cons hN1 (fun H2 s2 R q => ⟨.str z, rfl, 1, rfl, -1, rfl, z, rfl, by omega, q _ _ H2 Sm.refl (.str _)⟩) ?_
  refine AvT.cons hN1 (fun H2 s2 R q => ⟨.str z, rfl, ⟨z, rfl⟩, z, rfl, rfl, by omega, q _ _ H2 Sm.refl (.str _)⟩) ?_
  refine AvT.cons hN1 (AvE.val fun _ => .str _) ?_
  refine AvT.cons hN1 (col0 rfl hA1 hc) ?_
  refine AvT.cons hN1 (colL rfl hA1 hc) ?_
  exact AvT.cons hN1 (AvE.lst hN1 (AvT.cons hN1 itE AvT.nil) (by decide)) AvT.nil
end
abbrev sOd : Stmt := topS 26
theorem scOd : FnScope ["deck", "columns", "it", "some"] ["deck", "columns", "it"] (defScope sOd) := ⟨rfl, rfl, rfl, by decide +kernel, rfl, by decide +kernel, by decide +kernel⟩
section
variable {P : Program} {w : World} {K : PySem.W.Frag} {mg : Str → Option Value} {base : Heap}
def spOd (K : PySem.W.Frag) : Sp := fun vs H Q _ => ∃ (d c a : Addr) (n : Nat) (it : V) (cs : List Str) (p : PyData) (m : Nat), vs = [.ref d, .ref a, it] ∧ Deck H d c n ∧ n < 2 ^ 40 ∧ SqT K H a (cs.map V.str) ∧ cs ≠ [] ∧ Av [d, c] H it p ∧ Sml m p ∧
  ∀ r p' H', Sm [d, c] H H' → Deck H' d c (n + 1) → Av [d, c] H' r p' → Q r H'
theorem ok_od {f : Addr} {fd : FuncData} (F : Fun K "_law_odd" "_law_odd" sOd f fd) (B : Bn mg) (cPick : Cal P w K mg base "_law_pick" ["deck", "some"] 2 spPick) : FnOk P w K mg base CX0 3 f fd ["deck", "columns", "it"] (spOd K) := by
  refine F.ok scOd (fun vs H Q E h => ?_) (fun cdv A outer s H vs Q E hr h => ?_)
  · obtain ⟨d, c, a, n, it, cs, p, m, rfl, _⟩ := h
    rfl
  · obtain ⟨d, c, a, n, it, cs, p, m, rfl, hD, hn, hA, hc, hv, hS, q⟩ := h
    have nd := scOd.nd
    refine ⟨_, pss_cons (ps_set (i := 3) nd rfl (.inl rfl) (pe_lst (pa_cons pe_non (pa_cons pe_bl (pa_cons pe_bl (pa_cons pe_int (pa_cons pe_int (pa_cons (pe_un un_neg pe_int) (pa_cons (pe_op op_pow pe_int pe_int) (pa_cons pe_str (pa_cons pe_str (pa_cons (pe_tup pa_nil) (pa_cons (pe_tup (pa_cons (pe_tup pa_nil) pa_nil)) (pa_cons (pe_lst pa_nil) (pa_cons pe_dnewK (pa_cons (pe_tup (pa_cons pe_str pa_nil))
        (pa_cons (pe_ix ix_seq (pv 1) pe_int (fun _ _ => rfl)) (pa_cons (pe_ix ix_seq (pv 1) (pe_un un_neg pe_int) (fun _ _ => rfl)) pa_nil))))))))))))))))))
      (pss_cons (ps_if (pt_val (pe_is B B.tuple boot_tuple (pv 2)))
        (pss_one (ps_set (i := 3) nd rfl (.inl rfl) (pe_op op_cat (pv 3) (pe_op op_rep (pe_lst (pa_cons (pe_callTy call_list_of (by rfl) B.list boot_list (pa_cons (pv 2) pa_nil)) (pa_cons (pe_revT (pv 2)) (pa_cons (pe_op op_catA (pv 2) (pe_slice sl_tupA (pv 2) (po_some (pe_un un_neg pe_int)) po_none))
            (pa_cons (pe_slice sl_tupA (pv 2) (po_some pe_int) po_none) (pa_cons (pe_slice sl_tupA (pv 2) po_none (po_some (pe_un un_neg pe_int))) (pa_cons (pe_tup (pa_cons (pv 2) pa_nil)) (pa_cons (pe_op op_catA (pv 2) (pv 2)) pa_nil)))))))) pe_int))))
        (pss_one (ps_if (pt_val (pe_is B B.int boot_int (pv 2)))
          (pss_one (ps_set (i := 3) nd rfl (.inl rfl) (pe_op op_cat (pv 3) (pe_op op_rep (pe_lst (pa_cons (pe_op op_add (pv 2) pe_int) (pa_cons (pe_op op_sub pe_int (pv 2)) (pa_cons (pe_cmpR op_eq (pv 2) pe_int (nomark _)) (pa_cons (pe_cmpR op_eq (pv 2) pe_int (nomark _))
              (pa_cons (pe_callTy call_str_int (by rfl) B.str boot_str (pa_cons (pv 2) pa_nil)) (pa_cons (pe_tup (pa_cons (pv 2) pa_nil)) pa_nil))))))) pe_int))))
          (pss_one (ps_if (pt_val (pe_is B B.str boot_str (pv 2)))
            (pss_one (ps_set (i := 3) nd rfl (.inl rfl) (pe_op op_cat (pv 3) (pe_op op_rep (pe_lst (pa_cons (pe_op op_add_str (pv 2) pe_str) (pa_cons (pe_slice sl_str (pv 2) po_none (po_some (pe_un un_neg pe_int))) (pa_cons (pe_upper (pv 2)) (pa_cons pe_str
              (pa_cons (pe_ix ix_seq (pv 1) pe_int (fun _ _ => rfl)) (pa_cons (pe_ix ix_seq (pv 1) (pe_un un_neg pe_int) (fun _ _ => rfl)) (pa_cons (pe_lst (pa_cons (pv 2) pa_nil)) pa_nil)))))))) pe_int)))) pss_nil)))))
      (pss_one (ps_ret (pe_own cPick hr (pa_cons (pv 0) (pa_cons (pv 3) pa_nil)))))), ?_⟩
    have hN := hD.nts
    have fin : ∀ {l : Addr} {ys : List V} {es : List PyData} {H' : Hp}, Sm [] H H' → H l = none → H' l = some (.lst ys) → AvAll [d, c] H' ys es → 1 ≤ ys.length → ys.length ≤ 100 → spPick [.ref d, .ref l] H' Q E0 := fun {l ys es H'} s hl e h l1 l2 =>
      ⟨d, c, n, .ref l, ys, rfl, hD.keep s, hn, .inl ⟨l, rfl, e, hD.outN hl⟩, l1, by omega, fun i x H2 hx s2 D2 => by
        obtain ⟨p', _, vx⟩ := h.get hx
        exact q x p' H2 (s.nil.trans s2) D2 (vx.sm s2 (hN.sm s).nt)⟩
    refine seq_in (asg_in ?_)
    refine list_rd (D := [d, c]) (n := 16) hN ?_ (by decide) fun l xs ds H1 s1 hl e1 h1 hlen => ?_
    · exact odd_list hN hA hc
    have hN1 := hN.sm s1
    have hv1 := hv.keep s1 hN.nt
    have hA1 := sqt_sm hA s1
    refine ⟨it, rfl, _, "tuple", kdOf p, _, rfl, hv1.ty, Av.kit p (by decide), _, rfl, ?_⟩
    cases p with
    | tuple es =>
      refine ite2 (fun _ => ?_) (fun z => absurd rfl z)
      cases hv1 with
      | @tup a' ys _ ha hyl hall =>
        have hys : ys.length ≤ 100 := by
          rw [hall.len]
          cases m with
          | zero => exact hS.elim
          | succ m => exact hS.1
        refine asg_in ?_
        exact grow (D := [d, c]) (n := 7) (k := 3) hN1 rfl e1 h1 (by omega) (by omega) (odd_tup hN1 ha hys hall) (by decide) (by decide) (by decide)
          fun p4 zs gs H4 s4 hp4 e4 h4 z1 z2 => ⟨.ref d, rfl, .ref p4, rfl, fin (s1.trans s4) (s1.free hp4 (by simp)) e4 h4 z1 z2⟩
    | int i =>
      have hi : -1000000000000 ≤ i ∧ i ≤ 1000000000000 := by
        cases m with
        | zero => exact hS
        | succ m => exact hS
      cases hv1
      refine ite2 (fun z => by cases z) fun _ => ?_
      refine ⟨.int i, rfl, _, "int", "int", _, rfl, TyX.int i, Av.kit (.int i) (by decide), _, rfl, ite2 (fun _ => ?_) (fun z => absurd rfl z)⟩
      refine asg_in ?_
      exact grow (D := [d, c]) (n := 6) (k := 4) hN1 rfl e1 h1 (by omega) (by omega) (odd_int hN1 hi) (by decide) (by decide) (by decide)
          fun p4 zs gs H4 s4 hp4 e4 h4 z1 z2 => ⟨.ref d, rfl, .ref p4, rfl, fin (s1.trans s4) (s1.free hp4 (by simp)) e4 h4 z1 z2⟩
    | str z =>
      have hz : Sp0 z 16 := by
        cases m with
        | zero => exact hS
        | succ m => exact hS
      cases hv1
      refine ite2 (fun z => by cases z) fun _ => ?_
      refine ⟨.str z, rfl, _, "int", "str", _, rfl, TyX.str z, Av.kit (.str z) (by decide), _, rfl, ite2 (fun z => by cases z) fun _ => ?_⟩
      refine ⟨.str z, rfl, _, "str", "str", _, rfl, TyX.str z, Av.kit (.str z) (by decide), _, rfl, ite2 (fun _ => ?_) (fun z => absurd rfl z)⟩
      refine asg_in ?_
      exact grow (D := [d, c]) (n := 7) (k := 3) hN1 rfl e1 h1 (by omega) (by omega) (odd_str hN1 hz hA1 hc) (by decide) (by decide) (by decide)
          fun p4 zs gs H4 s4 hp4 e4 h4 z1 z2 => ⟨.ref d, rfl, .ref p4, rfl, fin (s1.trans s4) (s1.free hp4 (by simp)) e4 h4 z1 z2⟩
    | none => cases m <;> exact hS.elim
    | bool b => cases m <;> exact hS.elim
    | list b => cases m <;> exact hS.elim
    | dict b => cases m <;> exact hS.elim
end
end K91

namespace K91
open PySem PySem.Spec PyProof.Rows L2
open ZM (getT putT)
open TL (tl len_tl tl_append)
theorem lay_all : ∀ {ds : List PyData}, (∀ d ∈ ds, d.canLay0 = true) → PyData.canLayAll0 ds = true
  | [], _ => by simp [PyData.canLayAll0]
  | d :: ds, h => by
    simp only [PyData.canLayAll0, Bool.and_eq_true]
    exact ⟨h d List.mem_cons_self, lay_all fun x hx => h x (List.mem_cons_of_mem _ hx)⟩
theorem depth_all {n : Nat} : ∀ {ds : List PyData}, (∀ d ∈ ds, d.depth ≤ n) → PyData.depthAll ds ≤ n
  | [], _ => by simp [PyData.depthAll]
  | d :: ds, h => by
    have h1 := h d List.mem_cons_self
    have h2 := depth_all (ds := ds) fun x hx => h x (List.mem_cons_of_mem _ hx)
    simp only [PyData.depthAll]
    omega
theorem Sp0.lay {z : Str} {n : Nat} (h : Sp0 z n) : (PyData.str z).canLay0 = true := by
  simp only [PyData.canLay0, PyData.strOk]
  rw [Array.all_eq_true_iff_forall_mem]
  intro c hc
  exact decide_eq_true (h.ok c (Array.mem_toList_iff.mpr hc))
theorem Sml.lay : ∀ (n : Nat) (p : PyData), Sml n p → p.canLay0 = true ∧ p.depth ≤ n
  | 0, .int i, h => ⟨rfl, by simp [PyData.depth]⟩
  | n + 1, .int i, h => ⟨rfl, by simp [PyData.depth]⟩
  | 0, .str z, h => ⟨Sp0.lay (show Sp0 z 16 from h), by simp [PyData.depth]⟩
  | n + 1, .str z, h => ⟨Sp0.lay (show Sp0 z 16 from h), by simp [PyData.depth]⟩
  | n + 1, .tuple ds, h => by
    have h2 : ∀ d ∈ ds, Sml n d := h.2
    refine ⟨?_, ?_⟩
    · simp only [PyData.canLay0]
      exact lay_all fun d hd => (Sml.lay n d (h2 d hd)).1
    · simp only [PyData.depth]
      have := depth_all (n := n) fun d hd => (Sml.lay n d (h2 d hd)).2
      omega
theorem Sml.shaped {n : Nat} {p : PyData} (h : Sml n p) (hn : n ≤ 60) : SeqAt.shaped p = true := by
  obtain ⟨a, b⟩ := h.lay n p
  show (p.canLay0 && decide (p.depth ≤ 64)) = true
  rw [a, Bool.true_and, decide_eq_true_eq]
  omega
mutual
theorem Sml.dp0 {K : PySem.W.Frag} {D : List Addr} {H : Hp} : ∀ (n : Nat) (p : PyData) (v : V), Av D H v p → Sml n p → Dp K H v p
  | n, _, _, .int i, h => .int i
  | n, _, _, .str z, h => .str z
  | 0, _, _, .non, h => h.elim
  | n + 1, _, _, .non, h => h.elim
  | 0, _, _, .bl b, h => h.elim
  | n + 1, _, _, .bl b, h => h.elim
  | 0, _, _, .lst _ _, h => h.elim
  | n + 1, _, _, .lst _ _, h => h.elim
  | 0, _, _, .dK _ _, h => h.elim
  | n + 1, _, _, .dK _ _, h => h.elim
  | 0, _, _, .tup _ _ _, h => h.elim
  | n + 1, _, _, .tup e l r, h => .tup (SqT.of e) (Sml.dpAll n _ _ r h.2)
theorem Sml.dpAll {K : PySem.W.Frag} {D : List Addr} {H : Hp} : ∀ (n : Nat) (ds : List PyData) (vs : List V), AvAll D H vs ds → (∀ d ∈ ds, Sml n d) → DpAll K H vs ds
  | n, _, _, .nil, h => .nil
  | n, _, _, .cons a r, h => .cons (Sml.dp0 n _ _ a (h _ List.mem_cons_self)) (Sml.dpAll n _ _ r fun x hx => h x (List.mem_cons_of_mem _ hx))
end
theorem Sml.dp {K : PySem.W.Frag} {D : List Addr} {H : Hp} (n : Nat) {p : PyData} {v : V} (h : Sml n p) (a : Av D H v p) : Dp K H v p := Sml.dp0 n p v a h
abbrev sBt : Stmt := topS 27
theorem scBt : FnScope ["deck", "columns", "it", "at"] ["deck", "columns", "it"] (defScope sBt) := ⟨rfl, rfl, rfl, by decide +kernel, rfl, by decide +kernel, by decide +kernel⟩
section
variable {P : Program} {w : World} {K : PySem.W.Frag} {mg : Str → Option Value} {base : Heap}
def spBt (K : PySem.W.Frag) (k : Nat) : Sp := fun vs H Q _ => ∃ (d c a : Addr) (n : Nat) (it : V) (cs : List Str) (p : PyData) (m : Nat), k = m + 1 ∧ m ≤ 10 ∧ vs = [.ref d, .ref a, it] ∧ Deck H d c n ∧ n + 2 * m + 10 < 2 ^ 40 ∧ Cols H a cs ∧ cs ≠ [] ∧ Av [d, c] H it p ∧ Sml m p ∧
  ∀ r p' n' H', Sm [d, c] H H' → Deck H' d c n' → n' ≤ n + 2 * m + 2 → Av [d, c] H' r p' → Q r H'
theorem step_bt {f : Addr} {fd : FuncData} (F : Fun K "_law_bent" "_law_bent" sBt f fd) (B : Bn mg) (k : Nat) (cDraw : Cal P w K mg base "_law_draw" ["deck", "ways"] 1 spDraw) (cOd : Cal P w K mg base "_law_odd" ["deck", "columns", "it"] 3 (spOd K)) (C : Cal P w K mg base "_law_bent" ["deck", "columns", "it"] (3 + k) (spBt K k)) :
    FnOk P w K mg base CX0 (3 + k + 1) f fd ["deck", "columns", "it"] (spBt K (k + 1)) := by
  refine F.ok scBt (fun vs H Q E h => ?_) (fun cdv A outer s H vs Q E hr h => ?_)
  · obtain ⟨d, c, a, n, it, cs, p, m, _, _, rfl, _⟩ := h
    rfl
  · obtain ⟨d, c, a, n, it, cs, p, m, hk, hm, rfl, hD, hn, hA, hc, hv, hS, q⟩ := h
    obtain rfl : k = m := by omega
    have nd := scBt.nd
    refine ⟨_, pss_cons (ps_if (PW.pt (pw_or (pt_not (pt_val (pe_is B B.tuple boot_tuple (pv 2)))) (pw_or (pt_cmpR (op_eqD hr.units) (pv 2) (pe_tup pa_nil) (nomark _)) (pw_or1 (pt_cmpR op_eq (pe_own (cDraw.mono (by omega)) hr (pa_cons (pv 0) (pa_cons pe_int pa_nil))) pe_int (nomark _))))))
        (pss_one (ps_ret (pe_own (cOd.mono (by omega)) hr (pa_cons (pv 0) (pa_cons (pv 1) (pa_cons (pv 2) pa_nil)))))) pss_nil)
      (pss_cons (ps_set (i := 3) nd rfl (.inl rfl) (pe_own (cDraw.mono (by omega)) hr (pa_cons (pv 0) (pa_cons (pe_callB call_len (by rfl) B.len boot_len (pa_cons (pv 2) pa_nil)) pa_nil))))
      (pss_one (ps_ret (pe_op op_catA (pe_op op_catA (pe_slice sl_tupA (pv 2) po_none (po_some (pv 3))) (pe_tup (pa_cons (pe_own C hr (pa_cons (pv 0) (pa_cons (pv 1) (pa_cons (pe_ix ix_seq (pv 2) (pv 3) (fun _ _ => rfl)) pa_nil)))) pa_nil))) (pe_slice sl_tupA (pv 2) (po_some (pe_op op_add (pv 3) pe_int)) po_none))))), ?_⟩
    have hN := hD.nts
    have hAo : a ∉ [d, c] := hA.out hD
    -- the odd one
    have odd : ∀ {H' : Hp} {n' : Nat}, Sm [d, c] H H' → Deck H' d c n' → n' ≤ n + 2 * k + 1 → spOd K [.ref d, .ref a, it] H' Q E0 := fun {H' n'} s D hn' =>
      ⟨d, c, a, n', it, cs, p, k, rfl, D, by omega, (hA.sm s hAo).sq, hc, hv.sm s hN.nt, hS, fun r p' H2 s2 D2 v2 => q r p' _ H2 (s.trans s2) D2 (by omega) v2⟩
    refine ⟨it, rfl, _, "tuple", kdOf p, _, rfl, hv.ty, Av.kit p (by decide), _, rfl, ?_⟩
    cases hkd : kd (kdOf p) "tuple" with
    | false =>
      exact ite2 (fun _ => ite2 (fun _ => ⟨.ref d, rfl, .ref a, rfl, it, rfl, odd Sm.refl hD (by omega)⟩) (fun z => absurd rfl z)) (fun z => absurd rfl z)
    | true =>
      obtain ⟨ds, rfl⟩ := kd_tup hkd
      obtain ⟨k', rfl⟩ : ∃ k', k = k' + 1 := by
        cases k with
        | zero => exact hS.elim
        | succ k => exact ⟨k, rfl⟩
      have hdp := Sml.dp (K := K) _ hS hv
      have hv0 := hv
      cases hv with
      | @tup a' ys _ ha hyl hall =>
        refine ite2 (fun z => by cases z) fun _ => ?_
        refine ⟨.ref a', rfl, Nat.zero_le _, fun p0 hp0 => ?_⟩
        have s0 : Sm [] H (upd H p0 (.tup [])) := Sm.refl.new hp0
        have e0 : (upd H p0 (.tup [])) p0 = some (.tup []) := upd_same
        generalize upd H p0 (.tup []) = H0 at s0 e0
        have hv00 := hv0.keep s0 hN.nt
        refine ⟨_, .tuple [], Sml.dp (K := K) _ hS hv00, .tup (SqT.of e0) .nil, hS.shaped (by omega), by decide, _, rfl, ?_⟩
        have eqv : PyData.eqv (.tuple ds) (.tuple []) = ds.isEmpty := by
          cases ds <;> simp [PyData.eqv, PyData.eqvAll]
        rw [eqv]
        have D0 := hD.keep s0
        cases hds : ds.isEmpty with
        | true => exact ite2 (fun _ => ite2 (fun _ => ⟨.ref d, rfl, .ref a, rfl, .ref a', rfl, odd s0.nil D0 (by omega)⟩) (fun z => absurd rfl z)) (fun z => absurd rfl z)
        | false =>
          refine ite2 (fun z => by cases z) fun _ => ?_
          refine ⟨.ref d, rfl, d, c, n, 4, rfl, D0, by omega, by omega, by omega, fun r H1 r0 r1 s1 D1 => ⟨rfl, _, rfl, ?_⟩⟩
          have s01 : Sm [d, c] H H1 := s0.nil.trans s1
          refine ite2 (fun _ => ⟨.ref d, rfl, .ref a, rfl, .ref a', rfl, odd s01 D1 (by omega)⟩) fun _ => ?_
          -- at
          have ha1 := s01.kpD hN.nt _ _ ha
          have hlen : 1 ≤ ys.length := by
            rw [hall.len]
            cases ds with
            | nil => cases hds
            | cons _ _ => simp
          refine ⟨.ref d, rfl, .ref a', rfl, .ref a', ys.length, rfl, .inr ⟨_, SqT.of ha1, rfl⟩, d, c, n + 1, ys.length, rfl, D1, by omega, by omega, by omega, fun r2 H2 q0 q1 s2 D2 => ?_⟩
          obtain ⟨j, rfl⟩ : ∃ j : Nat, r2 = j := ⟨r2.toNat, by omega⟩
          have hj : j < ys.length := by omega
          have s02 : Sm [d, c] H H2 := s01.trans s2
          have ha2 := s02.kpD hN.nt _ _ ha
          have hall2 := hall.sm s02 hN.nt
          have N2 := D2.nts
          have ey : ys[j]? = some ys[j] := List.getElem?_eq_getElem hj
          obtain ⟨dj, edj, vj⟩ := hall2.get ey
          refine ⟨.ref a', rfl, .int j, rfl, j, rfl, ?_⟩
          show rSlA K (.ref a') none (some (j : Int)) H2 _
          refine cut_rd N2 ha2 hyl hall2 fun b1 zs1 es1 H3 s3 eb1 bl1 hb1 => ?_
          have D3 := D2.keep s3
          have s03 := s02.trans s3.nil
          have N3 := D3.nts
          refine ⟨.ref d, rfl, .ref a, rfl, .ref a', rfl, .int j, rfl, .inr (.inl ⟨a', ys, j, ys[j], rfl, rfl, SqT.of (s3.keep ha2), atI_nat ey, ?_⟩)⟩
          refine ⟨d, c, a, n + 1 + 1, ys[j], cs, dj, k', rfl, by omega, rfl, D3, by omega, hA.sm s03 hAo, hc, vj.keep s3 N2.nt, hS.2 dj (List.mem_of_getElem? edj), fun r p' n' H4 s4 D4 hn' v4 => ?_⟩
          have N4 := D4.nts
          refine ⟨(by show 1 ≤ sizeLine; decide), fun p1 hp1 => ?_⟩
          have s5 : Sm [] H4 (upd H4 p1 (.tup [r])) := Sm.refl.new hp1
          have e5 : (upd H4 p1 (.tup [r])) p1 = some (.tup [r]) := upd_same
          generalize upd H4 p1 (.tup [r]) = H5 at s5 e5
          have D5 := D4.keep s5
          have N5 := D5.nts
          have eb5 : H5 b1 = some (.tup zs1) := s5.keep (s4.kpD N3.nt _ _ eb1)
          have hb5 : AvAll [d, c] H5 zs1 es1 := (hb1.sm s4 N3.nt).keep s5 N4
          have hr5 : AvAll [d, c] H5 [r] [p'] := .cons (v4.keep s5 N4.nt) .nil
          have s05 : Sm [d, c] H H5 := (s03.trans s4).trans s5.nil
          refine catA_rd N5 eb5 e5 hb5 hr5 (by show zs1.length + 1 ≤ 1000; have : ys.length ≤ 100 := (by rw [hall.len]; exact hS.1); omega) fun c1 gs1 H6 s6 ec1 hc1 => ?_
          have D6 := D5.keep s6
          have N6 := D6.nts
          have s06 := s05.trans s6.nil
          have hy100 : ys.length ≤ 100 := by
            rw [hall.len]
            exact hS.1
          refine ⟨.ref a', rfl, .int j, rfl, j, 1, rfl, rfl, _, rfl, ?_⟩
          show rSlA K (.ref a') (some ((j : Int) + 1)) none H6 (fun y H2 => rCatA K (.ref c1) y H2 Q)
          refine cut_rd N6 (s06.kpD hN.nt _ _ ha) hyl (hall.sm s06 hN.nt) fun b2 zs2 es2 H7 s7 eb2 bl2 hb2 => ?_
          have D7 := D6.keep s7
          refine catA_rd D7.nts (s7.keep ec1) eb2 (hc1.keep s7 N6) hb2 (by rw [List.length_append]; show zs1.length + 1 + zs2.length ≤ 1000; omega) fun c2 gs2 H8 s8 ec2 hc2 => ?_
          exact q (.ref c2) (.tuple gs2) n' H8 ((s06.trans s7.nil).trans s8.nil) (D7.keep s8) (by omega) (.tup ec2 (by rw [List.length_append, List.length_append]; show zs1.length + 1 + zs2.length ≤ 1000; omega) hc2)
theorem cal_bt {f : Addr} {fd : FuncData} (F : Fun K "_law_bent" "_law_bent" sBt f fd) (B : Bn mg) (cDraw : Cal P w K mg base "_law_draw" ["deck", "ways"] 1 spDraw) (cOd : Cal P w K mg base "_law_odd" ["deck", "columns", "it"] 3 (spOd K)) (hm : mg "_law_bent" = some (.ref f)) (hb : Binds K fd ["deck", "columns", "it"] []) : ∀ n, Cal P w K mg base "_law_bent" ["deck", "columns", "it"] (3 + n) (spBt K n)
  | 0 => ⟨f, fd, ⟨fun vs H Q E h => by obtain ⟨d, c, a, n, it, cs, p, m, e, _⟩ := h; omega, fun A outer s H args us vs Q E _ _ _ _ h => by obtain ⟨d, c, a, n, it, cs, p, m, e, _⟩ := h; omega⟩, hm, F.kp, hb⟩
  | n + 1 => ⟨f, fd, step_bt F B n cDraw cOd (cal_bt F B cDraw cOd hm hb n), hm, F.kp, hb⟩
end
end K91

namespace K91
open PySem PySem.Spec PyProof.Rows L2
open ZM (getT putT)
/-- an own def as it is called by keywords alone -/
structure CalK (P : Program) (w : World) (K : PySem.W.Frag) (mg : Str → Option Value) (base : Heap) (nm : Str) (ps ks : List Str) (gV : List V → List V → List V) (k : Nat) (sp : Sp) : Prop where
  ex : ∃ (f : Addr) (fd : FuncData) (g : List Value → List Value → List Value), FnOk P w K mg base CX0 k f fd ps sp ∧ mg nm = some (.ref f) ∧ PySem.W.keepIn K (.ref f) = true ∧ KBinds K fd ps ks g gV
theorem CalK.mono {P : Program} {w : World} {K : PySem.W.Frag} {mg : Str → Option Value} {base : Heap} {nm : Str} {ps ks : List Str} {gV : List V → List V → List V} {j k : Nat} {sp : Sp} (C : CalK P w K mg base nm ps ks gV j sp) (h : j ≤ k) : CalK P w K mg base nm ps ks gV k sp := by
  obtain ⟨f, fd, g, a, b, c, d⟩ := C.ex
  exact ⟨f, fd, g, a.mono h, b, c, d⟩
theorem pe_ownC {X : Cx} {k : Nat} {nm : Str} {ps ks : List Str} {gV : List V → List V → List V} {sp : Sp} {p pos : Pos} {kws : List Keyword} {tk : TA} (C : CalK X.prog X.w X.K X.mg X.base nm ps ks gV k sp) (hr : Room k X.A) (hkw : PK X kws tk) (hg : Gl X nm := by rfl)
    (hall : (backToKw pos (keywordEach kws X.env)).all (·.1.isSome) = true := by rfl) (hks : (backToKw pos (keywordEach kws X.env)).filterMap (·.1) = ks := by rfl) (hdb : (nm == ("__debug__" : Str)) = false := by decide)
    (hpl : ((backTo pos (starEach [] X.env)).any (·.1) || (backToKw pos (keywordEach kws X.env)).any (·.1.isNone)) = false := by rfl) :
    PE X (.Call (.Name nm p) [] kws pos) (tCallK sp gV E0 tNil tk) := by
  obtain ⟨f, fd, g, a, b, c, d⟩ := C.ex
  exact pe_ownK a hr b c d hkw hg hall hks hdb hpl
/-! ### slices and sums of tuples, exactly -/
section
variable {K : PySem.W.Frag}
theorem cut_is {H1 : Hp} {a : Addr} {xs : List V} {lo hi : Option Int} {R : VK} (ha : H1 a = some (.tup xs)) (q : ∀ b H2, Sm [] H1 H2 → H2 b = some (.tup (cutV xs lo hi)) → R (.ref b) H2) : rSlA K (.ref a) lo hi H1 R := by
  refine ⟨a, xs, rfl, SqT.of ha, fun hw => ?_, fun _ p hp => q p _ (Sm.refl.new hp) upd_same⟩
  refine q a H1 Sm.refl ?_
  unfold cutV
  rw [hw.1, hw.2, List.drop_zero, Nat.sub_zero, List.take_length]
  exact ha
theorem cat_is {H1 : Hp} {a b : Addr} {xs ys : List V} {R : VK} (ha : H1 a = some (.tup xs)) (hb : H1 b = some (.tup ys)) (hl : xs.length + ys.length ≤ 1000) (q : ∀ c H2, Sm [] H1 H2 → H2 c = some (.tup (xs ++ ys)) → R (.ref c) H2) : rCatA K (.ref a) (.ref b) H1 R := by
  have big : (1000 : Nat) ≤ sizeLine := by decide
  refine ⟨a, b, xs, ys, rfl, rfl, SqT.of ha, SqT.of hb, by omega, fun e => ?_, fun _ e => ?_, fun _ _ p hp => q p _ (Sm.refl.new hp) upd_same⟩
  · subst e
    exact q b H1 Sm.refl hb
  · subst e
    exact q a H1 Sm.refl (by rw [List.append_nil]; exact ha)
end
theorem cut_to {xs : List V} {j : Nat} (h : j ≤ xs.length) : cutV xs none (some (j : Int)) = xs.take j := by
  unfold cutV
  rw [HT.sIx_none, HT.sIx_nat, List.drop_zero, Nat.sub_zero, Nat.min_eq_left h]
theorem cut_from {xs : List V} {j : Nat} (h : j ≤ xs.length) : cutV xs (some (j : Int)) none = xs.drop j := by
  unfold cutV
  rw [HT.sIx_none, HT.sIx_nat, Nat.min_eq_left h]
  exact List.take_of_length_le (by rw [List.length_drop]; exact Nat.le_refl _)
/-! ### rows by a function -/
theorem valF_map (f : Str → Int) : ∀ (cs : List Str) (x : Str), x ∈ cs → valF cs (cs.map f) x = f x
  | [], x, h => absurd h (by simp)
  | c :: cs, x, h => by
    rw [List.map_cons, valF_cons]
    by_cases q : c = x
    · rw [if_pos q, q]
    · rw [if_neg q]
      refine valF_map f cs x ?_
      rcases List.mem_cons.mp h with z | z
      · exact absurd z.symm q
      · exact z
theorem val_map (f : Str → Int) (h0 : f "" = 0) (cs : List Str) (x : Str) (h : x ∈ nmL cs) : val cs (cs.map f) x = f x := by
  unfold val
  by_cases e : x = ""
  · rw [if_pos e, e, h0]
  · rw [if_neg e]
    refine valF_map f cs x ?_
    rcases List.mem_cons.mp (nmL_mem.mp h) with z | z
    · exact absurd z e
    · exact z
/-- one place of a row changed -/
theorem valF_set : ∀ (cs : List Str) (r : List Int) (j : Nat) (c : Str) (v : Int) (x : Str), cs.Nodup → cs[j]? = some c → cs.length = r.length → x ∈ cs → valF cs (r.take j ++ [v] ++ r.drop (j + 1)) x = if x = c then v else valF cs r x
  | [], r, j, c, v, x, _, h, _, _ => by simp at h
  | c0 :: cs, [], j, c, v, x, _, _, h, _ => by simp at h
  | c0 :: cs, v0 :: r, 0, c, v, x, hn, h, hl, hx => by
    have e : c0 = c := by simpa using h
    subst e
    show valF (c0 :: cs) (v :: r) x = _
    rw [valF_cons, valF_cons]
    by_cases q : c0 = x
    · rw [if_pos q, if_pos q.symm]
    · rw [if_neg q, if_neg (Ne.symm q), if_neg q]
  | c0 :: cs, v0 :: r, j + 1, c, v, x, hn, h, hl, hx => by
    show valF (c0 :: cs) (v0 :: (r.take j ++ [v] ++ r.drop (j + 1))) x = _
    rw [List.nodup_cons] at hn
    have hc : c ∈ cs := List.mem_of_getElem? (by simpa using h)
    rw [valF_cons, valF_cons]
    by_cases q : c0 = x
    · have : ¬ x = c := fun z => hn.1 (by rw [q, z]; exact hc)
      rw [if_pos q, if_pos q, if_neg this]
    · rw [if_neg q, if_neg q]
      refine valF_set cs r j c v x hn.2 (by simpa using h) (by simpa using hl) ?_
      rcases List.mem_cons.mp hx with z | z
      · exact absurd z.symm q
      · exact z
end K91
namespace ZM
variable {α : Type} [DecidableEq α] {ns : List α} {B B' : Br α} {o : α} {X : Int}
/-- the same by any closed table -/
theorem End.tightF (e : End ns B B' o X) {f : Tb α} (c : Cl B f) (s : Snd B f) {i : α} {k v : Int} (n : i ≠ o) (hk : getT f (i, o) = some k) (hv : getT (ltab ns B') (i, o) = some v) : v = k := by
  have c2 := ctab_cl e.ok (neg_false (negP_iff e.ok) e.n)
  rw [c.uniq s c2 (ctab_snd e.ok) e.ok.ne n] at hk
  exact e.tight n hk hv
end ZM

namespace K91
open PySem PySem.Spec PyProof.Rows L2
open ZM (getT putT)
abbrev sEr : Stmt := topS 23
abbrev nEr : List Str := ["columns", "bounds", "one", "other", "far", "known", "a", "b", "k", "name", "column"]
theorem scEr : FnScope ["columns", "bounds", "one", "other", "far", "known", "a", "b", "k", "name", "column"] ["columns", "bounds", "one", "other"] (defScope sEr) := ⟨rfl, rfl, rfl, by decide +kernel, rfl, by decide +kernel, by decide +kernel⟩
/-- known[x, y], there, the key by any terms -/
theorem get_rd2 {σ : L2.St} {H : Hp} {d : Addr} {M : Tb} {i j : Str} {v : Int} {n1 : Nat} {t2 t3 : TE} {R : VK} (h : TabAt H d M) (h1 : σ[n1]? = some (some (.ref d))) (h2 : ∀ R : VK, R (.str i) H → t2 σ H R) (h3 : ∀ R : VK, R (.str j) H → t3 σ H R)
    (g : getT M (i, j) = some v) (q : ∀ p H2, H p = none → H2 = upd H p (.tup [.str i, .str j]) → R (.int v) H2) : tDGet (tVar n1) (tTup (tCons t2 (tCons t3 tNil))) σ H R := by
  refine ⟨.ref d, h1, h2 _ (h3 _ ⟨(by show 2 ≤ sizeLine; decide), fun p hp => ?_⟩)⟩
  have e1 : (upd H p (.tup [.str i, .str j])) p = some (.tup [.str i, .str j]) := upd_same
  have t1 : TabAt (upd H p (.tup [.str i, .str j])) d M := by
    show upd H p (.tup [.str i, .str j]) d = _
    rw [upd_ne (ne_of_none h hp)]
    exact h
  have g2 := get_tab (p := (i, j)) t1 e1
  rw [g] at g2
  exact ⟨d, _, rfl, g2, q p _ hp rfl⟩
theorem yes_in {σ : L2.St} {H : Hp} {Q : Bool → Hp → Prop} (h : Q true H) : tYes σ H Q := h
/-- the bounds by which the end row is sought -/
def endB (cs : List Str) (L : List Tr) (o : Str) (X : Int) : List Tr := L ++ ((nmL cs).filter fun x => decide (x ≠ o)).map fun x => (x, o, 10 * (1 + X))
theorem end_ok {cs : List Str} {L : List Tr} {o : Str} {X : Int} (hO : ZM.Bok (nmL cs) L) (hn : ¬ ZM.Neg L) (h4 : (nmL cs).length ≤ 4) (ho : o ∈ nmL cs) (x0 : 0 ≤ X) (hX : ∀ t ∈ L, -X ≤ t.2.2 ∧ t.2.2 ≤ X) : ZM.End (nmL cs) L (endB cs L o X) o X := by
  have mem : ∀ t, t ∈ endB cs L o X ↔ t ∈ L ∨ ∃ x, (x ∈ nmL cs ∧ x ≠ o) ∧ (x, o, 10 * (1 + X)) = t := fun t => by
    unfold endB
    rw [List.mem_append, List.mem_map]
    simp only [List.mem_filter, decide_eq_true_eq]
  refine ⟨hO, fun t ht => ?_, h4, x0, hX, hn, fun t ht => (mem t).mpr (.inl ht), fun t ht => ?_, fun m hm hmo => (mem _).mpr (.inr ⟨m, ⟨hm, hmo⟩, rfl⟩), ho⟩
  · rcases (mem t).mp ht with ht | ⟨x, ⟨hx, hxo⟩, rfl⟩
    · exact hO t ht
    · exact ⟨hx, ho, hxo⟩
  · rcases (mem t).mp ht with ht | ⟨x, _, rfl⟩
    · exact .inl ht
    · exact .inr ⟨rfl, rfl⟩
section
variable {P : Program} {w : World} {K : PySem.W.Frag} {mg : Str → Option Value} {base : Heap}
def spEr (K : PySem.W.Frag) : Sp := fun vs H Q _ => ∃ (a b : Addr) (i o : Str) (cs : List Str) (L : List Tr), vs = [.ref a, .ref b, .str i, .str o] ∧ SqT K H a (cs.map V.str) ∧ Nms cs ∧ Bds H b L ∧ ZM.Bok (nmL cs) L ∧ L.length ≤ 16 ∧ o ∈ nmL cs ∧ ¬ ZM.Neg L ∧
  ∀ v (r : List Int) H', Sm [] H H' → H' v = some (.tup (r.map V.int)) → cs.length = r.length → inB cs r L = true → (∀ x k, x ≠ o → getT (ZM.ltab (nmL cs) L) (x, o) = some k → val cs r x - val cs r o = k) → Q (.ref v) H'
theorem ok_er {f : Addr} {fd : FuncData} (F : Fun K "_law_end_row" "_law_end_row" sEr f fd) (B : Bn mg) (cTo : Cal P w K mg base "_law_table_of" ["columns", "bounds"] 1 (spTo K)) : FnOk P w K mg base CX0 2 f fd ["columns", "bounds", "one", "other"] (spEr K) := by
  refine F.ok scEr (fun vs H Q E h => ?_) (fun cdv A outer s H vs Q E hr h => ?_)
  · obtain ⟨a, b, i, o, cs, L, rfl, _⟩ := h
    rfl
  · obtain ⟨a, b, i, o, cs, L, rfl, hA, hC, hB, hO, hL, ho, hn, q⟩ := h
    have nd := scEr.nd
    have hu := hu_of hr
    refine ⟨_, pss_cons (ps_set (i := 4) nd rfl (.inr rfl) (pe_op op_mul pe_int (pe_op op_add pe_int (pe_callB (cr_max rfl) (by rfl) B.max boot_max (pa_cons (pe_op op_cat (pe_lst (pa_cons pe_int pa_nil))
          (pe_lc (own := [("a", 6), ("b", 7), ("k", 8)]) (g := gTup K 3 (gCons (gName 6) (gCons (gName 7) (gCons (gName 8) gNil)))) (tt := tYes) (te := tCB (fun xs H Q => ∃ i, xs = [.int i] ∧ Q (.int (if i < 0 then -i else i)) H) (tCons (tVar 8) tNil)) rfl nd (pi_tup (pv 1)) (blkOk_by (N := nEr) (sc := defScope sEr) (by decide +kernel))
            (fun _ _ _ _ _ => pg_tup rfl (pgs_cons (pg_name (i := 6) nd rfl (.inl rfl)) (pgs_cons (pg_name (i := 7) nd rfl (.inl rfl)) (pgs_cons (pg_name (i := 8) nd rfl (.inl rfl)) pgs_nil)))) (fun _ _ _ _ _ => pts_nil)
            (fun _ _ _ _ _ => pe_callB call_abs (by rfl) B.abs boot_abs (pa_cons (pv 8) pa_nil)))) pa_nil)))))
      (pss_cons (ps_set (i := 5) nd rfl (.inr rfl) (pe_own (cTo.mono (by decide)) hr (pa_cons (pv 0) (pa_cons (pe_op op_catA (pv 1) (pe_callTy call_tuple_of (by rfl) B.tuple boot_tuple (pa_cons
          (pe_lc (own := [("name", 9)]) (g := gName 9) (tt := tTest (tOp rNe (tVar 9) (tVar 3))) (te := tTup (tCons (tVar 9) (tCons (tVar 3) (tCons (tVar 4) tNil)))) rfl nd (pi_tup (pe_op op_catA (pv 0) (pe_tup (pa_cons pe_str pa_nil)))) (blkOk_by (N := nEr) (sc := defScope sEr) (by decide +kernel))
            (fun _ _ _ _ _ => pg_name (i := 9) nd rfl (.inl rfl)) (fun _ _ _ _ _ => pts_one (pt_cmpR op_ne (pv 9) (pv 3) (nomark _))) (fun _ _ _ _ _ => pe_tup (pa_cons (pv 9) (pa_cons (pv 3) (pa_cons (pv 4) pa_nil))))) pa_nil))) pa_nil))))
      (pss_one (ps_ret (pe_callTy call_tuple_of (by rfl) B.tuple boot_tuple (pa_cons
          (pe_lc (own := [("column", 10)]) (g := gName 10) (tt := tYes) (te := tOp (rI0 fun i j => .int (i - j)) (tDGet (tVar 5) (tTup (tCons (tVar 10) (tCons (tVar 3) tNil)))) (tDGet (tVar 5) (tTup (tCons (tC (.str ("" : Str))) (tCons (tVar 3) tNil))))) rfl nd (pi_tup (pv 0)) (blkOk_by (N := nEr) (sc := defScope sEr) (by decide +kernel))
            (fun _ _ _ _ _ => pg_name (i := 10) nd rfl (.inl rfl)) (fun _ _ _ _ _ => pts_nil)
            (fun _ _ _ _ _ => pe_op op_sub (pe_dget hu (pv 5) (pe_tup (pa_cons (pv 10) (pa_cons (pv 3) pa_nil))) (fun _ _ => rfl)) (pe_dget hu (pv 5) (pe_tup (pa_cons pe_str (pa_cons (pv 3) pa_nil))) (fun _ _ => rfl)))) pa_nil))))), ?_⟩
    obtain ⟨xs, hb, hxs⟩ := hB
    have hxl := hxs.len
    -- far
    refine ⟨(by show 1 ≤ sizeLine; decide), fun p0 hp0 => ?_⟩
    have s0 : Sm [] H (upd H p0 (.lst [.int 0])) := Sm.refl.new hp0
    have e0 : (upd H p0 (.lst [.int 0])) p0 = some (.lst [.int 0]) := upd_same
    generalize upd H p0 (.lst [.int 0]) = H0 at s0 e0
    refine ⟨.ref b, rfl, b, rfl, ⟨xs, SqT.of (s0.keep hb)⟩, fun D hD => ?_⟩
    refine lc_tup (K := K) (a := b) (xs := xs) (fun i H' => ∃ ns : List Int, H' D = some (.lst (ns.map V.int)) ∧ Sm [] H0 H' ∧ ns = (L.take i).map fun t => if t.2.2 < 0 then -t.2.2 else t.2.2) ?_ ?_ ?_ ?_
    · exact ⟨[], upd_same, Sm.refl.new hD, rfl⟩
    · rintro i H' _ ⟨ns, h1, h2, h3⟩
      exact SqT.of (h2.keep (s0.keep hb))
    · rintro i x H' hx ⟨ns, h1, h2, h3⟩
      obtain ⟨t, ht, p, rfl, hp⟩ := hxs.get hx
      have il : i < L.length := (List.getElem?_eq_some_iff.mp ht).1
      refine ⟨p, _, rfl, SqT.of (h2.keep (s0.keep hp)), rfl, _, _, rfl, _, _, rfl, _, _, rfl, rfl, rfl, .int t.2.2, rfl, t.2.2, rfl, _, h1, ?_, ns ++ [if t.2.2 < 0 then -t.2.2 else t.2.2], ?_, h2.own hD, ?_⟩
      · rw [List.length_map, h3, List.length_map, List.length_take]
        exact small16 (by omega)
      · rw [upd_same, List.map_append]
        rfl
      · rw [List.take_add_one, ht, h3, List.map_append]
        rfl
    rintro H1 ⟨ns, h1, h2, h3⟩
    rw [hxl, List.take_length] at h3
    have e01 := h2.keep e0
    refine ⟨p0, D, [.int 0], ns.map V.int, rfl, rfl, e01, h1, ?_, fun p2 hp2 => ?_⟩
    · rw [h3, List.length_map, List.length_map]
      have := small16 (n := L.length) hL
      show 1 + L.length ≤ sizeLine
      omega
    have s2 : Sm [] H (upd H1 p2 (.lst ([.int 0] ++ ns.map V.int))) := (s0.trans h2).new hp2
    have e2 : (upd H1 p2 (.lst ([.int 0] ++ ns.map V.int))) p2 = some (.lst ((0 :: ns).map V.int)) := upd_same
    generalize upd H1 p2 (.lst ([.int 0] ++ ns.map V.int)) = H2 at s2 e2
    refine ⟨p2, 0 :: ns, rfl, SqL.of e2, by simp, fun X _ hmax => ?_⟩
    have x0 : 0 ≤ X := hmax 0 List.mem_cons_self
    have hX : ∀ t ∈ L, -X ≤ t.2.2 ∧ t.2.2 ≤ X := fun t ht => by
      have : (if t.2.2 < 0 then -t.2.2 else t.2.2) ∈ ns := by
        rw [h3]
        exact List.mem_map.mpr ⟨t, ht, rfl⟩
      have := hmax _ (List.mem_cons_of_mem _ this)
      by_cases c : t.2.2 < 0
      · rw [if_pos c] at this; omega
      · rw [if_neg c] at this; omega
    refine ⟨1, X, rfl, rfl, 10, 1 + X, rfl, rfl, .inl ⟨by decide, by decide⟩, ?_⟩
    have hE := end_ok hO hn (by rw [nmL_len]; have := hC.le; omega) ho x0 hX
    -- known
    have hA2 := sqt_sm hA s2
    refine ⟨.ref a, rfl, .ref b, rfl, ?_⟩
    refine names_rd rfl hA2 hC.ne hC.le fun nA H3 s3 hn0 n3 => ⟨nA, rfl, ⟨_, SqT.of n3⟩, fun D2 hD2 => ?_⟩
    refine lc_tup (K := K) (a := nA) (xs := (nmL cs).map V.str) (fun i H' => ∃ acc, H' D2 = some (.lst acc) ∧ Sm [] H3 H' ∧ acc.length ≤ i ∧ TrAll H' acc ((((nmL cs).take i).filter fun x => decide (x ≠ o)).map fun x => (x, o, 10 * (1 + X)))) ?_ ?_ ?_ ?_
    · exact ⟨[], upd_same, Sm.refl.new hD2, Nat.le_refl _, .nil⟩
    · rintro i H' _ ⟨acc, g1, g2, _⟩
      exact SqT.of (g2.keep n3)
    · rintro i x H' hx ⟨acc, g1, g2, g3, g4⟩
      obtain ⟨z, hz, rfl⟩ := str_at hx
      have il : i < (nmL cs).length := (List.getElem?_eq_some_iff.mp hz).1
      have nl : (nmL cs).length ≤ 4 := hE.four
      refine ⟨rfl, ?_⟩
      refine ⟨.str z, rfl, .str o, rfl, rfl, _, rfl, ite2 (fun hne => ?_) (fun heq => ?_)⟩
      · have hne' : z ≠ o := by simpa using hne
        refine ⟨.str z, rfl, .str o, rfl, .int (10 * (1 + X)), rfl, (by show 3 ≤ sizeLine; decide), fun p hp => ?_⟩
        have D6 : (upd H' p (.tup [.str z, .str o, .int (10 * (1 + X))])) D2 = some (.lst acc) := by
          rw [upd_ne (ne_of_none g1 hp)]; exact g1
        refine ⟨acc, D6, small16 (by omega), acc ++ [.ref p], upd_same, (g2.new hp).own hD2, ?_, ?_⟩
        · rw [List.length_append]
          show acc.length + 1 ≤ i + 1
          omega
        · have kp2 : Kp H' (upd H' p (.tup [.str z, .str o, .int (10 * (1 + X))])) := Kp.refl.new hp
          have e6 : (upd H' p (.tup [.str z, .str o, .int (10 * (1 + X))])) p = some (.tup (trV (z, o, 10 * (1 + X)))) := upd_same
          generalize upd H' p (.tup [.str z, .str o, .int (10 * (1 + X))]) = H6 at D6 kp2 e6
          have kp3 : Kp H6 (upd H6 D2 (.lst (acc ++ [.ref p]))) := fun b xs e => by
            rw [upd_ne (ne_of e D6 (by intro z; cases z))]
            exact e
          rw [List.take_add_one, hz, Option.toList_some, List.filter_append, List.filter_cons_of_pos (by simpa using hne'), List.map_append]
          exact (g4.kp (kp2.trans kp3)).app (.cons ⟨p, rfl, kp3 _ _ e6⟩ .nil)
      · have heq' : z = o := by simpa using heq
        refine ⟨acc, g1, g2, by omega, ?_⟩
        rw [List.take_add_one, hz, Option.toList_some, List.filter_append, List.filter_cons_of_neg (by simpa using heq'), List.filter_nil, List.append_nil]
        exact g4
    rintro H4 ⟨acc, g1, g2, g3, g4⟩
    have nl : (nmL cs).length ≤ 4 := hE.four
    rw [List.length_map] at g3
    rw [List.length_map, List.take_length] at g4
    refine ⟨D2, acc, rfl, .inl ⟨SqL.of g1, fun p4 hp4 => ?_⟩⟩
    have s5 : Sm [] H4 (upd H4 p4 (.tup acc)) := Sm.refl.new hp4
    have e5 : (upd H4 p4 (.tup acc)) p4 = some (.tup acc) := upd_same
    have g5 := g4.kp s5.kp
    generalize upd H4 p4 (.tup acc) = H5 at s5 e5 g5
    have s25 : Sm [] H H5 := ((s2.trans s3).trans g2).trans s5
    refine cat_is (s25.keep hb) e5 (by rw [hxl]; omega) fun c6 H6 s6 e6 => ?_
    have s26 := s25.trans s6
    have hB6 : Bds H6 c6 (endB cs L o X) := ⟨_, e6, (hxs.kp s26.kp).app (g5.kp s6.kp)⟩
    refine ⟨a, c6, cs, _, rfl, sqt_sm hA s26, hB6, hE.ok', hC.ne, hC.le, fun hneg => ?_, fun _ d H7 s7 hd0 hT => ?_⟩
    · rw [hE.negD'] at hneg
      cases hneg
    -- the row
    obtain ⟨y, hy⟩ : ∃ y : Str → Int, ∀ x ∈ nmL cs, getT (ZM.ltab (nmL cs) (endB cs L o X)) (x, o) = some (y x) :=
      ⟨fun x => (getT (ZM.ltab (nmL cs) (endB cs L o X)) (x, o)).getD 0, fun x hx => by
        obtain ⟨v, e⟩ := hE.entry hx
        show _ = some ((getT (ZM.ltab (nmL cs) (endB cs L o X)) (x, o)).getD 0)
        rw [e]
        rfl⟩
    have s27 := s26.trans s7
    have hA7 := sqt_sm hA s27
    have h0m : ("" : Str) ∈ nmL cs := nmL_mem.mpr List.mem_cons_self
    refine ⟨.ref a, rfl, a, rfl, ⟨_, hA7⟩, fun D3 hD3 => ?_⟩
    refine lc_tup (K := K) (a := a) (xs := cs.map V.str) (fun i H' => H' D3 = some (.lst ((((cs.take i).map fun x => y x - y "")).map V.int)) ∧ Sm [] H7 H') ?_ ?_ ?_ ?_
    · exact ⟨upd_same, Sm.refl.new hD3⟩
    · rintro i H' _ ⟨k1, k2⟩
      exact sqt_sm hA7 k2
    · rintro i x H' hx ⟨k1, k2⟩
      obtain ⟨z, hz, rfl⟩ := str_at hx
      have il : i < cs.length := (List.getElem?_eq_some_iff.mp hz).1
      have hzm : z ∈ nmL cs := nmL_mem.mpr (List.mem_cons_of_mem _ (List.mem_of_getElem? hz))
      refine ⟨rfl, ?_⟩
      refine yes_in ?_
      rw [if_pos rfl]
      refine op_in ?_
      refine get_rd2 (M := ZM.ltab (nmL cs) (endB cs L o X)) (i := z) (j := o) (k2.keep hT) rfl (fun R q => ⟨_, rfl, q⟩) (fun R q => ⟨_, rfl, q⟩) (hy z hzm) fun p8 H8 hp8 e8 => ?_
      have s8 : Sm [] H' H8 := by rw [e8]; exact Sm.refl.new hp8
      refine get_rd2 (M := ZM.ltab (nmL cs) (endB cs L o X)) (i := "") (j := o) (s8.keep (k2.keep hT)) rfl (fun R q => q) (fun R q => ⟨_, rfl, q⟩) (hy "" h0m) fun p9 H9 hp9 e9 => ?_
      have s9 : Sm [] H8 H9 := by rw [e9]; exact Sm.refl.new hp9
      refine ⟨y z, y "", rfl, rfl, _, s9.keep (s8.keep k1), ?_, ?_, ((k2.trans s8).trans s9).own hD3⟩
      · rw [List.length_map, List.length_map, List.length_take]
        have := hC.le
        exact small16 (by omega)
      · rw [upd_same, List.take_add_one, hz, List.map_append, List.map_append]
        rfl
    rintro H8 ⟨k1, k2⟩
    rw [List.length_map, List.take_length] at k1
    refine ⟨D3, _, rfl, .inl ⟨SqL.of k1, fun v hv => ?_⟩⟩
    have hval : ∀ x ∈ nmL cs, val cs (cs.map fun x => y x - y "") x = y x - y "" := fun x hx => val_map (fun x => y x - y "") (by simp) cs x hx
    refine q v (cs.map fun x => y x - y "") _ ((s27.trans k2).new hv) upd_same (by rw [List.length_map]) ?_ fun x k hxo hk => ?_
    · rw [inB_iff]
      intro t ht
      obtain ⟨o1, o2, _⟩ := hO t ht
      have := hE.row hy t ht
      rw [hval _ o1, hval _ o2]
      omega
    · have I := (ZM.ltab_inv hO).dom x o k hk
      have nN : ZM.negD (nmL cs) (ZM.ltab (nmL cs) L) = false := ZM.neg_false (ZM.negD_iff hO) hn
      have ht := hE.tightF (ZM.ltab_cl hO nN) (ZM.ltab_snd hO) hxo hk (hy x I.1)
      have hoo : y o = 0 := by
        have := hy o ho
        rw [ZM.ltab_diag0 hE.ok' hE.negD' ho] at this
        exact (Option.some.inj this).symm
      rw [hval x I.1, hval o ho, ht, hoo]
      omega
end
end K91

namespace ZM
variable {α : Type} [DecidableEq α]
theorem okR_cl {B Z : Br α} {f : Tb α} (c : Cl B f) (s : Snd B f) (hB : ∀ t ∈ B, t.1 ≠ t.2.1) (hZ : ∀ t, t ∈ Z ↔ t.1 ≠ t.2.1 ∧ getT f (t.1, t.2.1) = some t.2.2) (x : α → Int) : okR Z x ↔ okR B x := by
  constructor
  · intro h t ht
    obtain ⟨u, e, hu⟩ := c.bnd t ht
    have := h (t.1, t.2.1, u) ((hZ _).mpr ⟨hB t ht, e⟩)
    simp only at this
    omega
  · intro h t ht
    obtain ⟨n, e⟩ := (hZ t).mp ht
    exact (s _ _ _ n e).row h
end ZM
namespace K91
open PySem PySem.Spec PyProof.Rows L2
open ZM (getT putT)
theorem bok_iff {cs : List Str} {L : List Tr} : ZM.Bok (nmL cs) L ↔ ZM.Bok (("" : Str) :: cs) L := by
  unfold ZM.Bok
  simp only [nmL_mem]
/-- Z is the closed zone of L, as the law has it -/
structure Zon (cs : List Str) (L Z : List Tr) : Prop where
  ok : ZM.Bok (nmL cs) L
  n : ¬ ZM.Neg L
  mem : ∀ t, t ∈ Z ↔ t.1 ≠ t.2.1 ∧ getT (ZM.ltab (nmL cs) L) (t.1, t.2.1) = some t.2.2
  len : Z.length ≤ 16
theorem Zon.bok {cs : List Str} {L Z : List Tr} (h : Zon cs L Z) : ZM.Bok (nmL cs) Z := fun t ht => by
  obtain ⟨n, e⟩ := (h.mem t).mp ht
  obtain ⟨a, b, _⟩ := (ZM.ltab_inv h.ok).dom _ _ _ e
  exact ⟨a, b, n⟩
theorem Zon.neg {cs : List Str} {L Z : List Tr} (h : Zon cs L Z) : ZM.negD (nmL cs) (ZM.ltab (nmL cs) L) = false := ZM.neg_false (ZM.negD_iff h.ok) h.n
theorem Zon.row {cs : List Str} {L Z : List Tr} (h : Zon cs L Z) (r : List Int) : inB cs r Z = inB cs r L := by
  rw [Bool.eq_iff_iff, inB_iff, inB_iff]
  exact ZM.okR_cl (ZM.ltab_cl h.ok h.neg) (ZM.ltab_snd h.ok) h.ok.ne h.mem _
/-- a row pushed beyond an entry that it meets -/
theorem beyond_out {cs : List Str} {L Z : List Tr} (h : Zon cs L Z) (hC : Nms cs) {r : List Int} (hl : cs.length = r.length) {t : Tr} (ht : t ∈ Z) (hk : val cs r t.1 - val cs r t.2.1 = t.2.2) {j : Nat} {c : Str} {v by_ : Int} (hj : cs[j]? = some c)
    (hc : (t.1 ≠ "" ∧ c = t.1 ∧ by_ = 1) ∨ (t.1 = "" ∧ c = t.2.1 ∧ by_ = -1)) (hv : v = valF cs r c + by_) : inB cs (r.take j ++ [v] ++ r.drop (j + 1)) L = false := by
  rw [← h.row]
  obtain ⟨b1, b2, b3⟩ := h.bok t ht
  cases e : inB cs (r.take j ++ [v] ++ r.drop (j + 1)) Z with
  | false => rfl
  | true =>
    have q := inB_iff.mp e t ht
    have hcm : c ∈ cs := List.mem_of_getElem? hj
    have hce : c ≠ "" := fun z => hC.full (by rw [← z]; exact hcm)
    have at_ : ∀ x ∈ nmL cs, val cs (r.take j ++ [v] ++ r.drop (j + 1)) x = if x = c then val cs r c + by_ else val cs r x := fun x hx => by
      unfold val
      rw [if_neg hce]
      by_cases z : x = ""
      · rw [if_pos z, if_pos z, if_neg]
        intro z2
        exact hce (by rw [← z2]; exact z)
      · rw [if_neg z, if_neg z]
        have hx2 : x ∈ cs := by
          rcases List.mem_cons.mp (nmL_mem.mp hx) with w | w
          · exact absurd w z
          · exact w
        rw [valF_set cs r j c v x hC.nd hj hl hx2, hv]
    rw [at_ _ b1, at_ _ b2] at q
    rcases hc with ⟨h1, rfl, rfl⟩ | ⟨h1, rfl, rfl⟩
    · rw [if_pos rfl, if_neg (Ne.symm b3)] at q
      omega
    · rw [if_neg b3, if_pos rfl] at q
      omega
/-- keywords (columns, values, zone) in the parameters' order -/
def kw3 {α : Type} : List α → List α → List α
  | [], [a, b, c] => [a, c, b]
  | _, _ => []
theorem nopart_in {σ : L2.St} {H : Hp} {Q : Option Int → Hp → Prop} (h : Q none H) : tNoPart σ H Q := h
theorem alk_bls {H : Hp} {a b : Addr} {bs : List Bool} (ha : H a = some (.lst (bs.map V.bl))) (hb : H b = some (.lst (bs.map V.bl))) : Alk H 1 (.ref a) (.ref b) := by
  refine .inr ⟨a, b, _, _, rfl, rfl, .inr ⟨ha, hb⟩, rfl, fun i x y hx hy => ?_⟩
  rw [hx] at hy
  obtain rfl := Option.some.inj hy
  obtain ⟨c, _, rfl⟩ := List.mem_map.mp (List.mem_of_getElem? hx)
  exact ⟨rfl, rfl⟩
abbrev sRt : Stmt := topS 24
theorem scRt : FnScope ["deck", "columns", "bounds", "zone", "one", "other", "k", "row", "at", "by", "beyond", "told"] ["deck", "columns", "bounds", "zone"] (defScope sRt) := ⟨rfl, rfl, rfl, by decide +kernel, rfl, by decide +kernel, by decide +kernel⟩
section
variable {P : Program} {w : World} {K : PySem.W.Frag} {mg : Str → Option Value} {base : Heap}
def spRt (K : PySem.W.Frag) : Sp := fun vs H Q _ => ∃ (d c a b z : Addr) (n : Nat) (cs : List Str) (L Z : List Tr), vs = [.ref d, .ref a, .ref b, .ref z] ∧ Deck H d c n ∧ n < 2 ^ 40 ∧ Cols H a cs ∧ Nms cs ∧ Bds H b L ∧ L.length ≤ 16 ∧ Bds H z Z ∧ Zon cs L Z ∧ Z ≠ [] ∧
  ∀ H', Sm [d, c] H H' → Deck H' d c (n + 1) → Q (.bl true) H'
theorem ok_rt {f : Addr} {fd : FuncData} (F : Fun K "_law_is_end_right" "_law_is_end_right" sRt f fd) (B : Bn mg) (cPick : Cal P w K mg base "_law_pick" ["deck", "some"] 2 spPick) (cEr : Cal P w K mg base "_law_end_row" ["columns", "bounds", "one", "other"] 2 (spEr K))
    (cVl : Cal P w K mg base "_law_value" ["columns", "values", "one"] 1 (spVl K)) (cZn : Cal P w K mg base "is_in_zone" ["columns", "zone", "values"] 2 (spZn K)) (kZn : CalK P w K mg base "is_in_zone" ["columns", "zone", "values"] ["columns", "values", "zone"] kw3 2 (spZn K))
    (cSm : Cal P w K mg base "_law_same" ["told", "due"] 2 (spSm 2)) : FnOk P w K mg base CX0 3 f fd ["deck", "columns", "bounds", "zone"] (spRt K) := by
  refine F.ok scRt (fun vs H Q E h => ?_) (fun cdv A outer s H vs Q E hr h => ?_)
  · obtain ⟨d, c, a, b, z, n, cs, L, Z, rfl, _⟩ := h
    rfl
  · obtain ⟨d, c, a, b, z, n, cs, L, Z, rfl, hD, hn, hA, hC, hB, hL, hZ, hz, hne, q⟩ := h
    have nd := scRt.nd
    refine ⟨_, pss_cons (ps_asg (pe_own cPick hr (pa_cons (pv 0) (pa_cons (pv 3) pa_nil))) (pg_tup rfl (pgs_cons (pg_name (i := 4) nd rfl (.inl rfl)) (pgs_cons (pg_name (i := 5) nd rfl (.inl rfl)) (pgs_cons (pg_name (i := 6) nd rfl (.inl rfl)) pgs_nil)))))
      (pss_cons (ps_set (i := 7) nd rfl (.inl rfl) (pe_own cEr hr (pa_cons (pv 1) (pa_cons (pv 2) (pa_cons (pv 4) (pa_cons (pv 5) pa_nil))))))
      (pss_cons (ps_asg (pe_ifExp (pt_cmpR op_ne (pv 4) pe_str (nomark _)) (pe_tup (pa_cons (pe_tix (pv 1) (pa_cons (pv 4) pa_nil)) (pa_cons pe_int pa_nil))) (pe_tup (pa_cons (pe_tix (pv 1) (pa_cons (pv 5) pa_nil)) (pa_cons (pe_un un_neg pe_int) pa_nil))))
          (pg_tup rfl (pgs_cons (pg_name (i := 8) nd rfl (.inl rfl)) (pgs_cons (pg_name (i := 9) nd rfl (.inl rfl)) pgs_nil))))
      (pss_cons (ps_set (i := 10) nd rfl (.inl rfl) (pe_op op_catA (pe_op op_catA (pe_slice sl_tupA (pv 7) po_none (po_some (pv 8))) (pe_tup (pa_cons (pe_op op_add (pe_ix ix_seq (pv 7) (pv 8) (fun _ _ => rfl)) (pv 9)) pa_nil))) (pe_slice sl_tupA (pv 7) (po_some (pe_op op_add (pv 8) pe_int)) po_none)))
      (pss_cons (ps_if (pt_cmpR op_ne (pe_op op_sub (pe_own (cVl.mono (by decide)) hr (pa_cons (pv 1) (pa_cons (pv 7) (pa_cons (pv 4) pa_nil)))) (pe_own (cVl.mono (by decide)) hr (pa_cons (pv 1) (pa_cons (pv 7) (pa_cons (pv 5) pa_nil))))) (pv 6) (nomark _)) (pss_one (ps_ret pe_bl)) pss_nil)
      (pss_cons (ps_set (i := 11) nd rfl (.inl rfl) (pe_lst (pa_cons (pe_own cZn hr (pa_cons (pv 1) (pa_cons (pv 3) (pa_cons (pv 7) pa_nil)))) (pa_cons (pe_ownC kZn hr (pk_cons (pv 1) (pk_cons (pv 7) (pk_cons (pv 2) pk_nil)))) pa_nil))))
      (pss_one (ps_ret (pe_own cSm hr (pa_cons (pe_op op_cat (pv 11) (pe_lst (pa_cons (pe_own cZn hr (pa_cons (pv 1) (pa_cons (pv 2) (pa_cons (pv 10) pa_nil)))) pa_nil))) (pa_cons (pe_lst (pa_cons pe_bl (pa_cons pe_bl (pa_cons pe_bl pa_nil)))) pa_nil)))))))))), ?_⟩
    have hB0 := hB
    have hZ0 := hZ
    obtain ⟨zs, ez, hzs⟩ := hZ
    have hAo : a ∉ [d, c] := hA.out hD
    have zl := hzs.len
    have hz1 : 1 ≤ Z.length := List.length_pos_iff.mpr hne
    have hz16 := hz.len
    refine ⟨.ref d, rfl, .ref z, rfl, d, c, n, .ref z, zs, rfl, hD, hn, .inr (.inl ⟨z, rfl, ez⟩), by omega, by omega, fun i x H1 hx s1 D1 => ?_⟩
    obtain ⟨t, ht, p, rfl, hp⟩ := hzs.get hx
    have htm : t ∈ Z := List.mem_of_getElem? ht
    have bk := hz.bok t htm
    obtain ⟨_, hgt⟩ := (hz.mem t).mp htm
    refine ⟨p, _, rfl, SqT.of (s1.kpD hD.nt _ _ hp), rfl, _, _, rfl, _, _, rfl, _, _, rfl, rfl, ?_⟩
    -- the row
    refine ⟨.ref a, rfl, .ref b, rfl, .str t.1, rfl, .str t.2.1, rfl, a, b, t.1, t.2.1, cs, L, rfl, (hA.sm s1 hAo).sq, hC, hB0.kp (s1.kpD hD.nt), hz.ok, hL, bk.2.1, hz.n, fun v r H2 s2 ev hl hin htight => ?_⟩
    have htt : val cs r t.1 - val cs r t.2.1 = t.2.2 := htight t.1 t.2.2 bk.2.2 hgt
    have s02 : Sm [d, c] H H2 := s1.trans s2.nil
    have D2 := D1.keep s2
    have A2 : Cols H2 a cs := hA.sm s02 hAo
    have hle := hC.le
    obtain ⟨o2, ea2, eo2⟩ := id A2
    refine ⟨.str t.1, rfl, rfl, _, rfl, ite2 (fun hc1 => ?_) (fun hc1 => ?_)⟩
    · have h1 : t.1 ≠ "" := by simpa using hc1
      have hm : t.1 ∈ cs := by
        rcases List.mem_cons.mp (nmL_mem.mp bk.1) with w | w
        · exact absurd w h1
        · exact w
      obtain ⟨j, hj1, hj2, hrj⟩ := valF_at cs r t.1 hm hl
      have jl : j < r.length := (List.getElem?_eq_some_iff.mp hrj).1
      refine ⟨.ref a, rfl, ⟨a, o2, _, rfl, ea2, eo2⟩, .str t.1, rfl, a, cs, t.1, j, rfl, rfl, A2.sq, hj1, hj2, (by show 2 ≤ sizeLine; decide), fun p3 hp3 => ?_⟩
      have s3 : Sm [] H2 (upd H2 p3 (.tup [.int j, .int 1])) := Sm.refl.new hp3
      refine ⟨p3, _, rfl, SqT.of upd_same, rfl, _, _, rfl, _, _, rfl, rfl, ?_⟩
      · have ev3 := s3.keep ev
        have s03 : Sm [d, c] H (upd H2 p3 (.tup [.int j, .int 1])) := s02.trans s3.nil
        have D3 := D2.keep s3
        generalize upd H2 p3 (.tup [.int j, .int 1]) = H3 at s3 ev3 s03 D3
        -- beyond
        refine ⟨.ref v, rfl, .int j, rfl, j, rfl, ?_⟩
        refine cut_is ev3 fun b1 H4 s4 e4 => ?_
        rw [cut_to (by rw [List.length_map]; omega)] at e4
        refine ⟨.ref v, rfl, .int j, rfl, .inr (.inl ⟨v, _, j, .int (valF cs r t.1), rfl, rfl, SqT.of (s4.keep ev3), atI_nat (by rw [List.getElem?_map, hrj]; rfl), .int 1, rfl, valF cs r t.1, 1, rfl, rfl, (by show 1 ≤ sizeLine; decide), fun p5 hp5 => ?_⟩)⟩
        have s5 : Sm [] H4 (upd H4 p5 (.tup [.int (valF cs r t.1 + 1)])) := Sm.refl.new hp5
        have e5 : (upd H4 p5 (.tup [.int (valF cs r t.1 + 1)])) p5 = some (.tup [.int (valF cs r t.1 + 1)]) := upd_same
        generalize upd H4 p5 (.tup [.int (valF cs r t.1 + 1)]) = H5 at s5 e5
        refine cat_is (s5.keep e4) e5 (by rw [List.length_take, List.length_map]; show min j r.length + 1 ≤ 1000; have := hC.le; omega) fun c1 H6 s6 e6 => ?_
        refine ⟨.ref v, rfl, .int j, rfl, j, 1, rfl, rfl, _, rfl, ?_⟩
        have ev6 := s6.keep (s5.keep (s4.keep ev3))
        refine nopart_in ?_
        refine cut_is ev6 fun b2 H7 s7 e7 => ?_
        rw [show ((j : Int) + 1) = ((j + 1 : Nat) : Int) from rfl, cut_from (by rw [List.length_map]; omega)] at e7
        refine cat_is (s7.keep e6) e7 (by rw [List.length_append, List.length_take, List.length_drop, List.length_map]; show min j r.length + 1 + (r.length - (j + 1)) ≤ 1000; have := hC.le; omega) fun c2 H8 s8 e8 => ?_
        have e8' : H8 c2 = some (.tup ((r.take j ++ [valF cs r t.1 + 1] ++ r.drop (j + 1)).map V.int)) := by
          rw [e8, List.map_append, List.map_append, List.map_take, List.map_drop]
          rfl
        have s38 : Sm [] H3 H8 := (((s4.trans s5).trans s6).trans s7).trans s8
        have s08 : Sm [d, c] H H8 := s03.trans s38.nil
        have ev8 := s38.keep ev3
        have A8 : Cols H8 a cs := hA.sm s08 hAo
        have D8 := D3.keep s38
        refine ⟨.ref a, rfl, .ref v, rfl, .str t.1, rfl, a, v, cs, r, t.1, rfl, A8, SqT.of ev8, hl, name_or (nmL_mem.mp bk.1), .ref a, rfl, .ref v, rfl, .str t.2.1, rfl, a, v, cs, r, t.2.1, rfl, A8, SqT.of ev8, hl, name_or (nmL_mem.mp bk.2.1), _, _, rfl, rfl, .int t.2.2, rfl, rfl, _, rfl, ite2 (fun hcne => ?_) (fun _ => ?_)⟩
        · simp [htt] at hcne
        -- told
        have Z8 : Bds H8 z Z := hZ0.kp (s08.kpD hD.nt)
        refine ⟨.ref a, rfl, .ref z, rfl, .ref v, rfl, a, .ref z, v, cs, r, some Z, rfl, A8.sq, hC.nd, .inr ⟨Z, z, rfl, rfl, Z8⟩, ev8, hl, ⟨bok_iff.mp hz.bok, by have := hz.len; omega⟩, fun H9 s9 => ?_⟩
        have A9 : Cols H9 a cs := A8.sm s9 (by simp)
        have s09 := s08.trans s9.nil
        refine ⟨.ref a, rfl, .ref v, rfl, .ref b, rfl, a, .ref b, v, cs, r, some L, rfl, A9.sq, hC.nd, .inr ⟨L, b, rfl, rfl, hB0.kp (s09.kpD hD.nt)⟩, s9.keep ev8, hl, ⟨bok_iff.mp hz.ok, by omega⟩, fun H10 s10 => ?_⟩
        refine ⟨(by show 2 ≤ sizeLine; decide), fun Tl hTl => ?_⟩
        have zb1 : zoneB cs r (some Z) = true := (hz.row r).trans hin
        have zb2 : zoneB cs r (some L) = true := hin
        rw [zb1, zb2]
        have s11 : Sm [] H8 (upd H10 Tl (.lst [.bl true, .bl true])) := (s9.trans s10).new hTl
        have e11 : (upd H10 Tl (.lst [.bl true, .bl true])) Tl = some (.lst [.bl true, .bl true]) := upd_same
        generalize upd H10 Tl (.lst [.bl true, .bl true]) = H11 at s11 e11
        have s011 := s08.trans s11.nil
        have hlr : cs.length = (r.take j ++ [valF cs r t.1 + 1] ++ r.drop (j + 1)).length := by
          rw [List.length_append, List.length_append, List.length_take, List.length_drop]
          show cs.length = min j r.length + 1 + (r.length - (j + 1))
          omega
        refine ⟨.ref Tl, rfl, .ref a, rfl, .ref b, rfl, .ref c2, rfl, a, .ref b, c2, cs, _, some L, rfl, (A8.sm s11 (by simp)).sq, hC.nd, .inr ⟨L, b, rfl, rfl, hB0.kp (s011.kpD hD.nt)⟩, s11.keep e8', hlr, ⟨bok_iff.mp hz.ok, by omega⟩, fun H12 s12 => ?_⟩
        have zb3 : zoneB cs (r.take j ++ [valF cs r t.1 + 1] ++ r.drop (j + 1)) (some L) = false := beyond_out hz hC hl htm htt hj1 (.inl ⟨h1, rfl, rfl⟩) rfl
        rw [zb3]
        refine ⟨(by show 1 ≤ sizeLine; decide), fun p1 hp1 => ?_⟩
        have s13 : Sm [] H12 (upd H12 p1 (.lst [.bl false])) := Sm.refl.new hp1
        have e13 : (upd H12 p1 (.lst [.bl false])) p1 = some (.lst [.bl false]) := upd_same
        generalize upd H12 p1 (.lst [.bl false]) = H13 at s13 e13
        refine ⟨Tl, p1, _, _, rfl, rfl, s13.keep (s12.keep e11), e13, (by show 3 ≤ sizeLine; decide), fun p2 hp2 => ?_⟩
        have s14 : Sm [] H13 (upd H13 p2 (.lst ([.bl true, .bl true] ++ [.bl false]))) := Sm.refl.new hp2
        have e14 : (upd H13 p2 (.lst ([.bl true, .bl true] ++ [.bl false]))) p2 = some (.lst ([true, true, false].map V.bl)) := upd_same
        generalize upd H13 p2 (.lst ([.bl true, .bl true] ++ [.bl false])) = H14 at s14 e14
        refine ⟨(by show 3 ≤ sizeLine; decide), fun p3 hp3 => ?_⟩
        have s15 : Sm [] H14 (upd H14 p3 (.lst [.bl true, .bl true, .bl false])) := Sm.refl.new hp3
        have e15 : (upd H14 p3 (.lst [.bl true, .bl true, .bl false])) p3 = some (.lst ([true, true, false].map V.bl)) := upd_same
        generalize upd H14 p3 (.lst [.bl true, .bl true, .bl false]) = H15 at s15 e15
        refine ⟨.ref p2, .ref p3, 1, rfl, rfl, alk_bls (s15.keep e14) e15, fun H16 s16 => ?_⟩
        have sE : Sm [] H8 H16 := ((((s11.trans s12).trans s13).trans s14).trans s15).trans s16
        exact q H16 (s08.trans sE.nil) (D8.keep sE)
    · have h1 : t.1 = "" := by simpa using hc1
      have hm : t.2.1 ∈ cs := by
        rcases List.mem_cons.mp (nmL_mem.mp bk.2.1) with w | w
        · exact absurd (h1.trans w.symm) bk.2.2
        · exact w
      obtain ⟨j, hj1, hj2, hrj⟩ := valF_at cs r t.2.1 hm hl
      have jl : j < r.length := (List.getElem?_eq_some_iff.mp hrj).1
      refine ⟨.ref a, rfl, ⟨a, o2, _, rfl, ea2, eo2⟩, .str t.2.1, rfl, a, cs, t.2.1, j, rfl, rfl, A2.sq, hj1, hj2, 1, rfl, (by show 2 ≤ sizeLine; decide), fun p3 hp3 => ?_⟩
      have s3 : Sm [] H2 (upd H2 p3 (.tup [.int j, .int (-1)])) := Sm.refl.new hp3
      refine ⟨p3, _, rfl, SqT.of upd_same, rfl, _, _, rfl, _, _, rfl, rfl, ?_⟩
      · have ev3 := s3.keep ev
        have s03 : Sm [d, c] H (upd H2 p3 (.tup [.int j, .int (-1)])) := s02.trans s3.nil
        have D3 := D2.keep s3
        generalize upd H2 p3 (.tup [.int j, .int (-1)]) = H3 at s3 ev3 s03 D3
        -- beyond
        refine ⟨.ref v, rfl, .int j, rfl, j, rfl, ?_⟩
        refine cut_is ev3 fun b1 H4 s4 e4 => ?_
        rw [cut_to (by rw [List.length_map]; omega)] at e4
        refine ⟨.ref v, rfl, .int j, rfl, .inr (.inl ⟨v, _, j, .int (valF cs r t.2.1), rfl, rfl, SqT.of (s4.keep ev3), atI_nat (by rw [List.getElem?_map, hrj]; rfl), .int (-1), rfl, valF cs r t.2.1, (-1), rfl, rfl, (by show 1 ≤ sizeLine; decide), fun p5 hp5 => ?_⟩)⟩
        have s5 : Sm [] H4 (upd H4 p5 (.tup [.int (valF cs r t.2.1 + (-1))])) := Sm.refl.new hp5
        have e5 : (upd H4 p5 (.tup [.int (valF cs r t.2.1 + (-1))])) p5 = some (.tup [.int (valF cs r t.2.1 + (-1))]) := upd_same
        generalize upd H4 p5 (.tup [.int (valF cs r t.2.1 + (-1))]) = H5 at s5 e5
        refine cat_is (s5.keep e4) e5 (by rw [List.length_take, List.length_map]; show min j r.length + 1 ≤ 1000; have := hC.le; omega) fun c1 H6 s6 e6 => ?_
        refine ⟨.ref v, rfl, .int j, rfl, j, 1, rfl, rfl, _, rfl, ?_⟩
        have ev6 := s6.keep (s5.keep (s4.keep ev3))
        refine nopart_in ?_
        refine cut_is ev6 fun b2 H7 s7 e7 => ?_
        rw [show ((j : Int) + 1) = ((j + 1 : Nat) : Int) from rfl, cut_from (by rw [List.length_map]; omega)] at e7
        refine cat_is (s7.keep e6) e7 (by rw [List.length_append, List.length_take, List.length_drop, List.length_map]; show min j r.length + 1 + (r.length - (j + 1)) ≤ 1000; have := hC.le; omega) fun c2 H8 s8 e8 => ?_
        have e8' : H8 c2 = some (.tup ((r.take j ++ [valF cs r t.2.1 + (-1)] ++ r.drop (j + 1)).map V.int)) := by
          rw [e8, List.map_append, List.map_append, List.map_take, List.map_drop]
          rfl
        have s38 : Sm [] H3 H8 := (((s4.trans s5).trans s6).trans s7).trans s8
        have s08 : Sm [d, c] H H8 := s03.trans s38.nil
        have ev8 := s38.keep ev3
        have A8 : Cols H8 a cs := hA.sm s08 hAo
        have D8 := D3.keep s38
        refine ⟨.ref a, rfl, .ref v, rfl, .str t.1, rfl, a, v, cs, r, t.1, rfl, A8, SqT.of ev8, hl, name_or (nmL_mem.mp bk.1), .ref a, rfl, .ref v, rfl, .str t.2.1, rfl, a, v, cs, r, t.2.1, rfl, A8, SqT.of ev8, hl, name_or (nmL_mem.mp bk.2.1), _, _, rfl, rfl, .int t.2.2, rfl, rfl, _, rfl, ite2 (fun hcne => ?_) (fun _ => ?_)⟩
        · simp [htt] at hcne
        -- told
        have Z8 : Bds H8 z Z := hZ0.kp (s08.kpD hD.nt)
        refine ⟨.ref a, rfl, .ref z, rfl, .ref v, rfl, a, .ref z, v, cs, r, some Z, rfl, A8.sq, hC.nd, .inr ⟨Z, z, rfl, rfl, Z8⟩, ev8, hl, ⟨bok_iff.mp hz.bok, by have := hz.len; omega⟩, fun H9 s9 => ?_⟩
        have A9 : Cols H9 a cs := A8.sm s9 (by simp)
        have s09 := s08.trans s9.nil
        refine ⟨.ref a, rfl, .ref v, rfl, .ref b, rfl, a, .ref b, v, cs, r, some L, rfl, A9.sq, hC.nd, .inr ⟨L, b, rfl, rfl, hB0.kp (s09.kpD hD.nt)⟩, s9.keep ev8, hl, ⟨bok_iff.mp hz.ok, by omega⟩, fun H10 s10 => ?_⟩
        refine ⟨(by show 2 ≤ sizeLine; decide), fun Tl hTl => ?_⟩
        have zb1 : zoneB cs r (some Z) = true := (hz.row r).trans hin
        have zb2 : zoneB cs r (some L) = true := hin
        rw [zb1, zb2]
        have s11 : Sm [] H8 (upd H10 Tl (.lst [.bl true, .bl true])) := (s9.trans s10).new hTl
        have e11 : (upd H10 Tl (.lst [.bl true, .bl true])) Tl = some (.lst [.bl true, .bl true]) := upd_same
        generalize upd H10 Tl (.lst [.bl true, .bl true]) = H11 at s11 e11
        have s011 := s08.trans s11.nil
        have hlr : cs.length = (r.take j ++ [valF cs r t.2.1 + (-1)] ++ r.drop (j + 1)).length := by
          rw [List.length_append, List.length_append, List.length_take, List.length_drop]
          show cs.length = min j r.length + 1 + (r.length - (j + 1))
          omega
        refine ⟨.ref Tl, rfl, .ref a, rfl, .ref b, rfl, .ref c2, rfl, a, .ref b, c2, cs, _, some L, rfl, (A8.sm s11 (by simp)).sq, hC.nd, .inr ⟨L, b, rfl, rfl, hB0.kp (s011.kpD hD.nt)⟩, s11.keep e8', hlr, ⟨bok_iff.mp hz.ok, by omega⟩, fun H12 s12 => ?_⟩
        have zb3 : zoneB cs (r.take j ++ [valF cs r t.2.1 + (-1)] ++ r.drop (j + 1)) (some L) = false := beyond_out hz hC hl htm htt hj1 (.inr ⟨h1, rfl, rfl⟩) rfl
        rw [zb3]
        refine ⟨(by show 1 ≤ sizeLine; decide), fun p1 hp1 => ?_⟩
        have s13 : Sm [] H12 (upd H12 p1 (.lst [.bl false])) := Sm.refl.new hp1
        have e13 : (upd H12 p1 (.lst [.bl false])) p1 = some (.lst [.bl false]) := upd_same
        generalize upd H12 p1 (.lst [.bl false]) = H13 at s13 e13
        refine ⟨Tl, p1, _, _, rfl, rfl, s13.keep (s12.keep e11), e13, (by show 3 ≤ sizeLine; decide), fun p2 hp2 => ?_⟩
        have s14 : Sm [] H13 (upd H13 p2 (.lst ([.bl true, .bl true] ++ [.bl false]))) := Sm.refl.new hp2
        have e14 : (upd H13 p2 (.lst ([.bl true, .bl true] ++ [.bl false]))) p2 = some (.lst ([true, true, false].map V.bl)) := upd_same
        generalize upd H13 p2 (.lst ([.bl true, .bl true] ++ [.bl false])) = H14 at s14 e14
        refine ⟨(by show 3 ≤ sizeLine; decide), fun p3 hp3 => ?_⟩
        have s15 : Sm [] H14 (upd H14 p3 (.lst [.bl true, .bl true, .bl false])) := Sm.refl.new hp3
        have e15 : (upd H14 p3 (.lst [.bl true, .bl true, .bl false])) p3 = some (.lst ([true, true, false].map V.bl)) := upd_same
        generalize upd H14 p3 (.lst [.bl true, .bl true, .bl false]) = H15 at s15 e15
        refine ⟨.ref p2, .ref p3, 1, rfl, rfl, alk_bls (s15.keep e14) e15, fun H16 s16 => ?_⟩
        have sE : Sm [] H8 H16 := ((((s11.trans s12).trans s13).trans s14).trans s15).trans s16
        exact q H16 (s08.trans sE.nil) (D8.keep sE)
end
end K91

namespace K91
open PySem PySem.Spec PyProof.Rows L2
open ZM (getT putT)
/-! ### x not in (..), the tuple's items data -/
def rNotInT (K : PySem.W.Frag) : R2 := fun x y H Q => ∃ d ds, Dp K H x d ∧ Dp K H y (.tuple ds) ∧ SeqAt.shaped d = true ∧ SeqAt.shaped (.tuple ds) = true ∧ Q (.bl (!ds.any fun z => PyData.eqv z d)) H
theorem op_notInT {X : Cx} (hu : X.A.units + 65 < cLine) : OpR X (compareOp .NotIn) (rNotInT X.K) := by
  intro pins s σ H x y v u Q I rx ry h
  obtain ⟨d, ds, hd, he, sd, se, q⟩ := h
  obtain ⟨as, r1⟩ := Dp.reads I d x v hd rx
  obtain ⟨bs, r2⟩ := Dp.reads I (.tuple ds) y u he ry
  exact SeqAt.notIn_tuple_reads r2 r1 (SeqAt.canLay_of_shaped se) (SeqAt.canLay_of_shaped sd) (room_in_shaped sd hu) ⟨.bl _, H, I, rfl, q⟩
/-! ### bounds as data -/
theorem TrAll.dp {K : PySem.W.Frag} {H : Hp} : ∀ {vs : List V} {ts : List Tr}, TrAll H vs ts → DpAll K H vs (ts.map trD)
  | _, _, .nil => .nil
  | _, _, .cons ⟨p, e, h⟩ r => by
    subst e
    exact .cons (.tup (SqT.of h) (.cons (.str _) (.cons (.str _) (.cons (.int _) .nil)))) r.dp
theorem Bds.dp {K : PySem.W.Frag} {H : Hp} {a : Addr} {B : List Tr} (h : Bds H a B) : Dp K H (.ref a) (.tuple (B.map trD)) := by
  obtain ⟨xs, e, r⟩ := h
  exact .tup (SqT.of e) r.dp
/-- all its texts are texts -/
def Txs (B : List Tr) : Prop := ∀ t ∈ B, Sp0 t.1 16 ∧ Sp0 t.2.1 16
theorem Txs.shaped {B : List Tr} (h : Txs B) : SeqAt.shaped (.tuple (B.map trD)) = true := by
  have h1 : PyData.canLayAll0 (B.map trD) = true := lay_all fun d hd => by
    obtain ⟨t, ht, rfl⟩ := List.mem_map.mp hd
    obtain ⟨a, b⟩ := h t ht
    have a' := a.lay
    have b' := b.lay
    show (PyData.tuple [.str t.1, .str t.2.1, .int t.2.2]).canLay0 = true
    simp only [PyData.canLay0, PyData.canLayAll0] at a' b' ⊢
    rw [a', b']
    rfl
  have h2 : PyData.depthAll (B.map trD) ≤ 1 := depth_all fun d hd => by
    obtain ⟨t, ht, rfl⟩ := List.mem_map.mp hd
    rw [depth_trD]
    exact Nat.le_refl _
  have h3 : (PyData.tuple (B.map trD)).depth ≤ 64 := by
    simp only [PyData.depth]
    omega
  have h4 : (PyData.tuple (B.map trD)).canLay0 = true := by
    simp only [PyData.canLay0]
    exact h1
  show ((PyData.tuple (B.map trD)).canLay0 && decide ((PyData.tuple (B.map trD)).depth ≤ 64)) = true
  rw [h4, Bool.true_and]
  exact decide_eq_true h3
theorem Sp0.empty {n : Nat} : Sp0 "" n := ⟨Nat.zero_le _, fun c hc => absurd (show c ∈ ([] : List Nat) from hc) (by simp)⟩
theorem txs_of {cs : List Str} {B : List Tr} (h : ∀ x ∈ cs, Sh x) (hB : ZM.Bok (nmL cs) B) : Txs B := fun t ht => by
  have at_ : ∀ x ∈ nmL cs, Sp0 x 16 := fun x hx => by
    rcases List.mem_cons.mp (nmL_mem.mp hx) with rfl | z
    · exact Sp0.empty
    · exact (h x z).sp
  obtain ⟨a, b, _⟩ := hB t ht
  exact ⟨at_ _ a, at_ _ b⟩
/-- a row of n ints -/
def RowIs (H : Hp) (n : Nat) (v : V) : Prop := ∃ p r, v = .ref p ∧ H p = some (.tup ((r : List Int).map V.int)) ∧ r.length = n
theorem RowIs.kp {H H' : Hp} {n : Nat} {v : V} (h : RowIs H n v) (k : Kp H H') : RowIs H' n v := by
  obtain ⟨p, r, e, e2, l⟩ := h
  exact ⟨p, r, e, k _ _ e2, l⟩
end K91

namespace K91
open PySem PySem.Spec PyProof.Rows L2
open ZM (getT putT)
theorem Deck.upd {H : Hp} {d c : Addr} {n : Nat} (D : Deck H d c n) {p : Addr} {o : HO} (h : p ∉ [d, c]) : Deck (L2.upd H p o) d c n := by
  obtain ⟨cells, b, g1, g2, g3⟩ := D.ex
  refine ⟨cells, b, ?_, ?_, g3⟩
  · rw [upd_ne (fun e => h (by rw [← e]; simp))]; exact g1
  · rw [upd_ne (fun e => h (by rw [← e]; simp))]; exact g2
theorem un65_of {k : Nat} {A : Around} (r : Room k A) : A.units + 65 < cLine := by have := r.un; omega
theorem list_kp {H : Hp} {p : Addr} {xs ys : List V} (h : H p = some (.lst xs)) : Kp H (L2.upd H p (.lst ys)) := fun b zs e => by
  rw [upd_ne (ne_of e h (by intro z; cases z))]
  exact e
/-- what is known of the zone that is given: None, or its triples -/
structure ZnO (cs : List Str) (o : Option (List Tr)) : Prop where
  ok : ∀ Z, o = some Z → ZM.Bok (nmL cs) Z ∧ Z.length ≤ 16
abbrev rNotNon : R2 := fun x y H Q => y = .non ∧ Q (.bl (!decide (x = .non))) H
/-- the bounds, and the zone after them if there is one -/
theorem near_iter {K : PySem.W.Frag} {σ : L2.St} {H : Hp} {R : VK} {b : Addr} {z : V} {cs : List Str} {L : List Tr} {o : Option (List Tr)} (h2 : σ[2]? = some (some (.ref b))) (h3 : σ[3]? = some (some z)) (hB : Bds H b L) (hL : L.length ≤ 16) (hZ : BdsO H z o) (hO : ZnO cs o)
    (q : ∀ c0 xs W H2, Sm [] H H2 → H2 c0 = some (.tup xs) → TrAll H2 xs W → xs.length ≤ 32 → R (.ref c0) H2) : tOp (rCatA K) (tVar 2) (tIf (tTest (tOp rNotNon (tVar 3) (tC .non))) (tVar 3) (tTup tNil)) σ H R := by
  obtain ⟨bs, eb, hbs⟩ := hB
  have bl := hbs.len
  refine ⟨.ref b, h2, z, h3, rfl, _, rfl, ?_⟩
  rcases hZ with ⟨rfl, rfl⟩ | ⟨Z, zb, rfl, rfl, zs, ez, hzs⟩
  · refine ite2 (fun w => by simp at w) fun _ => ⟨Nat.zero_le _, fun p2 hp2 => ?_⟩
    have s2 : Sm [] H (upd H p2 (.tup [])) := Sm.refl.new hp2
    refine cat_is (s2.keep eb) upd_same (by show bs.length + 0 ≤ 1000; omega) fun c0 H3 s3 e3 => ?_
    exact q c0 _ L H3 (s2.trans s3) e3 (by rw [List.append_nil]; exact hbs.kp (s2.trans s3).kp) (by rw [List.append_nil]; omega)
  · obtain ⟨_, hzl⟩ := hO.ok Z rfl
    have zl := hzs.len
    refine ite2 (fun _ => ⟨.ref zb, h3, ?_⟩) fun w => absurd (by simp) w
    refine cat_is eb ez (by omega) fun c0 H3 s3 e3 => ?_
    exact q c0 _ (L ++ Z) H3 s3 e3 ((hbs.kp s3.kp).app (hzs.kp s3.kp)) (by rw [List.length_append]; omega)
/-- what the row gives at a name, 0 at the empty name -/
theorem base_rd {K : PySem.W.Frag} {σ : L2.St} {H : Hp} {R : VK} {a Wa : Addr} {cs : List Str} {rw : List Int} {o : Str} (h1 : σ[1]? = some (some (.ref a))) (h7 : σ[7]? = some (some (.str o))) (h10 : σ[10]? = some (some (.ref Wa))) (hA : Cols H a cs) (ho : o ∈ nmL cs)
    (g1 : H Wa = some (.lst (rw.map V.int))) (g2 : rw.length = cs.length) (q : ∀ v, R (.int v) H) : tIf (tTest (tOp rEq (tVar 7) (tC (.str ("" : Str))))) (tC (.int 0)) (tOp (rIx K) (tVar 10) (tTix K (tVar 1) (tCons (tVar 7) tNil))) σ H R := by
  refine ⟨.str o, h7, rfl, _, rfl, ite2 (fun _ => q 0) fun hc => ?_⟩
  have h1' : o ≠ "" := by simpa using hc
  have hm : o ∈ cs := by
    rcases List.mem_cons.mp (nmL_mem.mp ho) with w | w
    · exact absurd w h1'
    · exact w
  obtain ⟨j, hj1, hj2, hrj⟩ := valF_at cs rw o hm g2.symm
  obtain ⟨o2, ea2, eo2⟩ := id hA
  exact ⟨.ref Wa, h10, .ref a, h1, ⟨a, o2, _, rfl, ea2, eo2⟩, .str o, h7, a, cs, o, j, rfl, rfl, hA.sq, hj1, hj2, .inl ⟨Wa, _, j, .int (valF cs rw o), rfl, rfl, SqL.of g1, atI_nat (by rw [List.getElem?_map, hrj]; rfl), q _⟩⟩
theorem ixN_nat {n j : Nat} (h : j < n) : ixN n (j : Int) = some j := by
  unfold ixN
  rw [if_pos (by omega), if_pos (by omega), Int.toNat_natCast]
abbrev sRn : Stmt := topS 28
abbrev nRn : List Str := ["deck", "columns", "bounds", "zone", "rows", "ends", "one", "other", "k", "turn", "row", "base", "column"]
theorem scRn : FnScope ["deck", "columns", "bounds", "zone", "rows", "ends", "one", "other", "k", "turn", "row", "base", "column"] ["deck", "columns", "bounds", "zone"] (defScope sRn) := ⟨rfl, rfl, rfl, by decide +kernel, rfl, by decide +kernel, by decide +kernel⟩
section
variable {P : Program} {w : World} {K : PySem.W.Frag} {mg : Str → Option Value} {base : Heap}
def spRn (K : PySem.W.Frag) : Sp := fun vs H Q _ => ∃ (d c a b : Addr) (z : V) (n : Nat) (cs : List Str) (L : List Tr) (o : Option (List Tr)), vs = [.ref d, .ref a, .ref b, z] ∧ Deck H d c n ∧ n + 200 < 2 ^ 40 ∧ Cols H a cs ∧ Nms cs ∧ (∀ x ∈ cs, Sh x) ∧ Bds H b L ∧ L.length ≤ 16 ∧ BdsO H z o ∧ ZnO cs o ∧
  ∀ l (vs : List V) m H', Sm [d, c] H H' → Deck H' d c m → m ≤ n + 100 → H l = none → H' l = some (.lst vs) → vs.length ≤ 9 → (∀ v ∈ vs, RowIs H' cs.length v) → Q (.ref l) H'
theorem ok_rn {f : Addr} {fd : FuncData} (F : Fun K "_law_rows_near" "_law_rows_near" sRn f fd) (B : Bn mg) (cDraw : Cal P w K mg base "_law_draw" ["deck", "ways"] 1 spDraw) (cPick : Cal P w K mg base "_law_pick" ["deck", "some"] 2 spPick) : FnOk P w K mg base CX0 3 f fd ["deck", "columns", "bounds", "zone"] (spRn K) := by
  refine F.ok scRn (fun vs H Q E h => ?_) (fun cdv A outer s H vs Q E hr h => ?_)
  · obtain ⟨d, c, a, b, z, n, cs, L, o, rfl, _⟩ := h
    rfl
  · obtain ⟨d, c, a, b, z, n, cs, L, o, rfl, hD, hn, hA, hC, hS, hB, hL, hZ, hO, q⟩ := h
    have nd := scRn.nd
    refine ⟨_, pss_cons (ps_asg (pe_tup (pa_cons (pe_lst pa_nil) (pa_cons (pe_lst (pa_cons pe_int pa_nil)) pa_nil))) (pg_tup rfl (pgs_cons (pg_name (i := 4) nd rfl (.inl rfl)) (pgs_cons (pg_name (i := 5) nd rfl (.inr rfl) (.inl rfl)) pgs_nil))))
      (pss_cons (ps_for PassesOwn.never rfl (pi_tup (pe_op op_catA (pv 2) (pe_ifExp (pt_cmpR op_notN (pv 3) pe_non (nomark _)) (pv 3) (pe_tup pa_nil)))) (pg_tup rfl (pgs_cons (pg_name (i := 6) nd rfl (.inl rfl)) (pgs_cons (pg_name (i := 7) nd rfl (.inl rfl)) (pgs_cons (pg_name (i := 8) nd rfl (.inl rfl)) pgs_nil))))
        (pss_one (ps_expr (pe_bm PySem.F.plainAttrs_list PySem.F.slot_list_extend PySem.F.type_list_extend mt_extend (pv 5) (pa_cons (pe_lst (pa_cons (pv 8) (pa_cons (pe_op op_sub pe_int (pv 8)) pa_nil))) pa_nil)))))
      (pss_cons (ps_for PassesOwn.never rfl (pi_range1 (by rfl) B.range (pa_cons pe_int pa_nil)) (pg_name (i := 9) nd rfl (.inl rfl))
        (pss_cons (ps_setLc (i := 10) (own := [("column", 12)]) (g := gName 12) (tt := tYes)
            (te := tOp (rI0 fun i j => .int (i - j)) (tOp (rI0 fun i j => .int (i + j)) (tCall spPick [] E0 (tCons (tVar 0) (tCons (tVar 5) tNil))) (tCall spDraw [] E0 (tCons (tVar 0) (tCons (tC (.int 3)) tNil)))) (tC (.int 1))) rfl nd rfl rfl (by rfl) (pi_tup (pv 1)) (blkOk_by (N := nRn) (sc := defScope sRn) (by decide +kernel))
            (fun _ _ _ _ _ => pg_name (i := 12) nd rfl (.inl rfl)) (fun _ _ _ _ _ => pts_nil)
            (fun _ _ _ _ _ => pe_op op_sub (pe_op op_add (pe_own (cPick.mono (by decide)) hr (pa_cons (pv 0) (pa_cons (pv 5) pa_nil))) (pe_own (cDraw.mono (by decide)) hr (pa_cons (pv 0) (pa_cons pe_int pa_nil)))) pe_int))
        (Evl.pss_cut (ps_if (PW.pt (pw_and (pt_cmpR op_gt (pv 9) pe_int (nomark _)) (pw_and1 (pt_cmpR (op_notInT (un65_of hr)) (pv 3) (pe_tup (pa_cons pe_non (pa_cons (pe_tup pa_nil) pa_nil))) (by rfl)))))
            (pss_cons (ps_asg (pe_own (cPick.mono (by decide)) hr (pa_cons (pv 0) (pa_cons (pv 3) pa_nil))) (pg_tup rfl (pgs_cons (pg_name (i := 6) nd rfl (.inl rfl)) (pgs_cons (pg_name (i := 7) nd rfl (.inl rfl)) (pgs_cons (pg_name (i := 8) nd rfl (.inl rfl)) pgs_nil)))))
            (pss_cons (ps_set (i := 11) nd rfl (.inl rfl) (pe_ifExp (pt_cmpR op_eq (pv 7) pe_str (nomark _)) pe_int (pe_ix ix_seq (pv 10) (pe_tix (pv 1) (pa_cons (pv 7) pa_nil)) (fun _ _ => rfl))))
            (pss_one (ps_if (pt_cmpR op_ne (pv 6) pe_str (nomark _))
              (pss_one (ps_asg (pe_op op_add (pe_op op_add (pv 11) (pv 8)) (pe_own (cDraw.mono (by decide)) hr (pa_cons (pv 0) (pa_cons pe_int pa_nil)))) (pg_sub (pv 10) (pe_tix (pv 1) (pa_cons (pv 6) pa_nil)) set_list (fun _ => rfl)))) pss_nil)))) pss_nil)
        (pss_one (ps_expr (pe_bm PySem.F.plainAttrs_list PySem.F.slot_list_append PySem.F.type_list_append mt_append (pv 4) (pa_cons (pe_callTy call_tuple_of (by rfl) B.tuple boot_tuple (pa_cons (pv 10) pa_nil)) pa_nil)))))))
      (pss_one (ps_ret (pv 4))))), ?_⟩
    have hAo : a ∉ [d, c] := hA.out hD
    have hle := hC.le
    refine ⟨Nat.zero_le _, fun Ra hRa => ⟨(by show 1 ≤ sizeLine; decide), fun Ea hEa => ⟨(by show 2 ≤ sizeLine; decide), fun p0 hp0 => ?_⟩⟩⟩
    have sR : Sm [] H (upd H Ra (.lst [])) := Sm.refl.new hRa
    have sE : Sm [] H (upd (upd H Ra (.lst [])) Ea (.lst [.int 0])) := sR.new hEa
    have nRE : Ra ≠ Ea := fun e => by
      rw [← e, upd_same] at hEa
      cases hEa
    have hEH : H Ea = none := sR.free hEa (by simp)
    have s1 : Sm [] H (upd (upd (upd H Ra (.lst [])) Ea (.lst [.int 0])) p0 (.tup [.ref Ra, .ref Ea])) := sE.new hp0
    have eR1 : (upd (upd (upd H Ra (.lst [])) Ea (.lst [.int 0])) p0 (.tup [.ref Ra, .ref Ea])) Ra = some (.lst []) := by
      have e : (upd (upd H Ra (.lst [])) Ea (.lst [.int 0])) Ra = some (.lst []) := by rw [upd_ne nRE, upd_same]
      rw [upd_ne (ne_of_none e hp0)]
      exact e
    have eE1 : (upd (upd (upd H Ra (.lst [])) Ea (.lst [.int 0])) p0 (.tup [.ref Ra, .ref Ea])) Ea = some (.lst ([(0 : Int)].map V.int)) := by
      rw [upd_ne (ne_of_none (show (upd (upd H Ra (.lst [])) Ea (.lst [.int 0])) Ea = some (.lst [.int 0]) from upd_same) hp0)]
      exact upd_same
    refine ⟨p0, _, rfl, SqT.of upd_same, rfl, _, _, rfl, _, _, rfl, rfl, ?_⟩
    generalize upd (upd (upd H Ra (.lst [])) Ea (.lst [.int 0])) p0 (.tup [.ref Ra, .ref Ea]) = H1 at s1 eR1 eE1
    have nR : Ra ∉ [d, c] := hD.outN hRa
    have nE : Ea ∉ [d, c] := hD.outN hEH
    have D1 := hD.keep s1
    refine near_iter (cs := cs) (L := L) (o := o) rfl rfl (hB.kp s1.kp) hL (hZ.kp s1.kp) hO fun c0 xs W H2 s2 e2 hW hxl => ⟨c0, rfl, ⟨_, SqT.of e2⟩, ?_⟩
    have s12 := s1.trans s2
    refine for_tup (xs := xs) (fun i σ H' => ∃ (y6 y7 y8 : Option V) (es : List Int), σ = [some (.ref d), some (.ref a), some (.ref b), some z, some (.ref Ra), some (.ref Ea), y6, y7, y8, none, none, none, none] ∧ Sm [] H H' ∧ Kp H2 H' ∧ Deck H' d c n ∧ H' Ra = some (.lst []) ∧ H' Ea = some (.lst (es.map V.int)) ∧ es.length = 1 + 2 * i) ?_ ?_ ?_ ?_
    · exact ⟨none, none, none, [0], rfl, s12, Kp.refl, D1.keep s2, s2.keep eR1, s2.keep eE1, rfl⟩
    · rintro i σ H' _ ⟨y6, y7, y8, es, rfl, _, kp, _⟩
      exact SqT.of (kp _ _ e2)
    · rintro i x σ H' hx ⟨y6, y7, y8, es, rfl, s3, kp, D3, eR, eE, hes⟩
      obtain ⟨t, ht, p, rfl, hp⟩ := hW.get hx
      have il : i < xs.length := (List.getElem?_eq_some_iff.mp hx).1
      refine ⟨p, _, rfl, SqT.of (kp _ _ hp), rfl, _, _, rfl, _, _, rfl, _, _, rfl, rfl, ?_⟩
      refine ⟨.ref Ea, rfl, .inl ⟨rfl, _, SqL.of eE⟩, .int t.2.2, rfl, .int t.2.2, rfl, 0, t.2.2, rfl, rfl, (by show 2 ≤ sizeLine; decide), fun p4 hp4 => ?_⟩
      have s4 : Sm [] H' (upd H' p4 (.lst [.int t.2.2, .int (0 - t.2.2)])) := Sm.refl.new hp4
      have e4 : (upd H' p4 (.lst [.int t.2.2, .int (0 - t.2.2)])) p4 = some (.lst [.int t.2.2, .int (0 - t.2.2)]) := upd_same
      generalize upd H' p4 (.lst [.int t.2.2, .int (0 - t.2.2)]) = H4 at s4 e4
      have eE4 := s4.keep eE
      refine ⟨Ea, p4, _, _, rfl, rfl, eE4, e4, ?_, _, _, _, es ++ [t.2.2, 0 - t.2.2], rfl, (s3.trans s4).own hEH, (kp.trans s4.kp).trans (list_kp eE4), (D3.keep s4).upd nE, ?_, ?_, ?_⟩
      · rw [List.length_map, hes]
        show 1 + 2 * i + 2 ≤ sizeLine
        have : (1000 : Nat) ≤ sizeLine := by decide
        omega
      · rw [upd_ne nRE]
        exact s4.keep eR
      · rw [upd_same, List.map_append]
        rfl
      · rw [List.length_append, hes]
        show 1 + 2 * i + 2 = 1 + 2 * (i + 1)
        omega
    rintro σ H3 ⟨y6, y7, y8, es, rfl, s3, _, D3, eR3, eE3, hes⟩
    -- the nine rows
    refine ⟨9, rfl, by decide, by decide, for_range (fun i σ H' => ∃ (y6 y7 y8 y9 y10 y11 : Option V) (rl : List V) (m : Nat), σ = [some (.ref d), some (.ref a), some (.ref b), some z, some (.ref Ra), some (.ref Ea), y6, y7, y8, y9, y10, y11, none] ∧ Sm [d, c] H H' ∧ Deck H' d c m ∧ m ≤ n + 8 * i ∧ H' Ra = some (.lst rl) ∧ rl.length = i ∧ (∀ v ∈ rl, RowIs H' cs.length v) ∧ H' Ea = some (.lst (es.map V.int))) ?_ ?_ ?_⟩
    · exact ⟨y6, y7, y8, none, none, none, [], n, rfl, s3.nil, D3, by omega, eR3, rfl, fun v h => absurd h (by simp), eE3⟩
    · rintro i σ H' hi ⟨y6, y7, y8, y9, y10, y11, rl, m, rfl, s4, D4, hm, eR, hrl, hrows, eE⟩
      have hi9 : i < 9 := hi
      have el : 1 ≤ es.length := by omega
      have el2 : es.length ≤ 65 := by omega
      -- row
      refine ⟨.ref a, rfl, a, rfl, ⟨_, (hA.sm s4 hAo).sq⟩, fun Wa hWa => ?_⟩
      have nW : Wa ∉ [d, c] := D4.outN hWa
      have hWH : H Wa = none := s4.free hWa nW
      have nWR : Ra ≠ Wa := ne_of_none eR hWa
      have nWE : Ea ≠ Wa := ne_of_none eE hWa
      refine lc_tup (K := K) (a := a) (xs := cs.map V.str) (fun j H5 => ∃ (rw : List Int) (m2 : Nat), H5 Wa = some (.lst (rw.map V.int)) ∧ rw.length = j ∧ Sm [d, c] H H5 ∧ Deck H5 d c m2 ∧ m2 ≤ m + 2 * j ∧ H5 Ra = some (.lst rl) ∧ H5 Ea = some (.lst (es.map V.int)) ∧ Kp H' H5) ?_ ?_ ?_ ?_
      · refine ⟨[], m, upd_same, rfl, s4.own hWH, D4.upd nW, Nat.le_refl _, ?_, ?_, Kp.refl.new hWa⟩
        · rw [upd_ne nWR]; exact eR
        · rw [upd_ne nWE]; exact eE
      · rintro j H5 _ ⟨rw, m2, _, _, s5, _⟩
        exact (hA.sm s5 hAo).sq
      · rintro j x H5 hx ⟨rw, m2, g1, g2, s5, D5, hm2, eR5, eE5, kp5⟩
        have jl : j < cs.length := by
          have := (List.getElem?_eq_some_iff.mp hx).1
          rw [List.length_map] at this
          exact this
        refine ⟨rfl, .ref d, rfl, .ref Ea, rfl, d, c, m2, .ref Ea, _, rfl, D5, by omega, .inl ⟨Ea, rfl, eE5, nE⟩, by rw [List.length_map]; exact el, by rw [List.length_map]; omega, fun i6 x6 H6 hx6 s6 D6 => ?_⟩
        obtain ⟨e, he, rfl⟩ : ∃ e, es[i6]? = some e ∧ x6 = .int e := by
          rw [List.getElem?_map] at hx6
          cases q2 : es[i6]? with
          | none => rw [q2] at hx6; cases hx6
          | some e =>
            rw [q2] at hx6
            exact ⟨e, rfl, (Option.some.inj hx6).symm⟩
        refine ⟨.ref d, rfl, d, c, m2 + 1, 3, rfl, D6, by omega, by omega, by omega, fun r7 H7 _ _ s7 D7 => ?_⟩
        have s57 : Sm [d, c] H5 H7 := s6.trans s7
        refine ⟨e, r7, rfl, rfl, e + r7, 1, rfl, rfl, _, s57 _ _ g1 nW, by rw [List.length_map]; exact small16 (by omega), rw ++ [e + r7 - 1], m2 + 2, ?_, ?_, (s5.trans s57).own hWH, D7.upd nW, by omega, ?_, ?_, ?_⟩
        · rw [upd_same, List.map_append]
          rfl
        · rw [List.length_append, g2]
          rfl
        · rw [upd_ne nWR]
          exact s57 _ _ eR5 nR
        · rw [upd_ne nWE]
          exact s57 _ _ eE5 nE
        · exact (kp5.trans (s57.kpD D5.nt)).trans (list_kp (s57 _ _ g1 nW))
      rintro H5 ⟨rw, m2, g1, g2, s5, D5, hm2, eR5, eE5, kp5⟩
      rw [List.length_map] at g2 hm2
      have rows5 : ∀ v ∈ rl, RowIs H5 cs.length v := fun v hv => (hrows v hv).kp kp5
      have slot9 : (0 : Int) + (i : Int) = (i : Int) := Int.zero_add _
      refine ⟨fun σ' H6 => ∃ (y6 y7 y8 y11 : Option V) (rw : List Int) (m3 : Nat), σ' = [some (.ref d), some (.ref a), some (.ref b), some z, some (.ref Ra), some (.ref Ea), y6, y7, y8, some (.int (0 + i)), some (.ref Wa), y11, none] ∧ H6 Wa = some (.lst (rw.map V.int)) ∧ rw.length = cs.length ∧ Sm [d, c] H H6 ∧ Deck H6 d c m3 ∧ m3 ≤ m + 2 * cs.length + 2 ∧ H6 Ra = some (.lst rl) ∧ H6 Ea = some (.lst (es.map V.int)) ∧ ∀ v ∈ rl, RowIs H6 cs.length v, ?_, ?_⟩
      · -- if turn > 4 and ..
        refine ⟨.int (0 + i), rfl, _, _, rfl, rfl, _, rfl, ite2 (fun _ => ?_) (fun _ => ite2 (fun w => by cases w) fun _ => ?_)⟩
        rotate_left
        · exact ⟨_, _, _, _, rw, m2, rfl, g1, g2, s5, D5, by omega, eR5, eE5, rows5⟩
        have same : ∀ {H6 : Hp} {y6 y7 y8 y11 : Option V} {rw2 : List Int} {m3 : Nat}, Sm [d, c] H5 H6 → Deck H6 d c m3 → m3 ≤ m + 2 * cs.length + 2 → H6 Wa = some (.lst (rw2.map V.int)) → rw2.length = cs.length →
            ∃ (y6' y7' y8' y11' : Option V) (rw : List Int) (m3 : Nat), [some (V.ref d), some (.ref a), some (.ref b), some z, some (.ref Ra), some (.ref Ea), y6, y7, y8, some (.int (0 + i)), some (.ref Wa), y11, none] = [some (.ref d), some (.ref a), some (.ref b), some z, some (.ref Ra), some (.ref Ea), y6', y7', y8', some (.int (0 + i)), some (.ref Wa), y11', none] ∧ H6 Wa = some (.lst (rw.map V.int)) ∧ rw.length = cs.length ∧ Sm [d, c] H H6 ∧ Deck H6 d c m3 ∧ m3 ≤ m + 2 * cs.length + 2 ∧ H6 Ra = some (.lst rl) ∧ H6 Ea = some (.lst (es.map V.int)) ∧ ∀ v ∈ rl, RowIs H6 cs.length v :=
          fun {H6 y6 y7 y8 y11 rw2 m3} s D hm3 gW gl => ⟨_, _, _, _, rw2, m3, rfl, gW, gl, s5.trans s, D, hm3, s _ _ eR5 nR, s _ _ eE5 nE, fun v hv => (rows5 v hv).kp (s.kpD D5.nt)⟩
        refine ⟨z, rfl, Nat.zero_le _, fun p6 hp6 => ?_⟩
        have s6 : Sm [] H5 (upd H5 p6 (.tup [])) := Sm.refl.new hp6
        have e6 : (upd H5 p6 (.tup [])) p6 = some (.tup []) := upd_same
        generalize upd H5 p6 (.tup []) = H6 at s6 e6
        refine ⟨(by show 2 ≤ sizeLine; decide), fun p7 hp7 => ?_⟩
        have s7 : Sm [] H6 (upd H6 p7 (.tup [.non, .ref p6])) := Sm.refl.new hp7
        have e7 : (upd H6 p7 (.tup [.non, .ref p6])) p7 = some (.tup [.non, .ref p6]) := upd_same
        generalize upd H6 p7 (.tup [.non, .ref p6]) = H7 at s7 e7
        have s57 : Sm [] H5 H7 := s6.trans s7
        have dp2 : Dp K H7 (.ref p7) (.tuple [.none, .tuple []]) := .tup (SqT.of e7) (.cons .non (.cons (.tup (SqT.of (s7.keep e6)) .nil) .nil))
        have g17 := s57.keep g1
        have D7 := D5.keep s57
        rcases hZ with ⟨rfl, rfl⟩ | ⟨Z, zb, rfl, rfl, hZb⟩
        · refine ⟨.none, _, .non, dp2, by decide, by decide, _, rfl, ?_⟩
          have : (!([PyData.none, .tuple []].any fun z => PyData.eqv z .none)) = false := by simp [PyData.eqv]
          rw [this]
          refine ite2 (fun w => by cases w) fun _ => ?_
          exact same s57.nil D7 (by omega) g17 g2
        · obtain ⟨hzo, hzl⟩ := hO.ok Z rfl
          have hZ7 : Bds H7 zb Z := hZb.kp ((s5.trans s57.nil).kpD hD.nt)
          refine ⟨.tuple (Z.map trD), _, hZ7.dp, dp2, (txs_of hS hzo).shaped, by decide, _, rfl, ?_⟩
          have : (!([PyData.none, .tuple []].any fun z => PyData.eqv z (.tuple (Z.map trD)))) = !Z.isEmpty := by
            cases Z <;> simp [PyData.eqv, PyData.eqvAll]
          rw [this]
          cases hze : Z.isEmpty with
          | true =>
            refine ite2 (fun w => by cases w) fun _ => ?_
            exact same s57.nil D7 (by omega) g17 g2
          | false =>
            refine ite2 (fun _ => ?_) fun w => absurd rfl w
            obtain ⟨zs, ez, hzs⟩ := hZ7
            have zl := hzs.len
            have hz1 : 1 ≤ Z.length := by
              cases Z with
              | nil => cases hze
              | cons _ _ => simp
            refine ⟨.ref d, rfl, .ref zb, rfl, d, c, m2, .ref zb, zs, rfl, D7, by omega, .inr (.inl ⟨zb, rfl, ez⟩), by omega, by omega, fun i8 x8 H8 hx8 s8 D8 => ?_⟩
            obtain ⟨t, ht, p8, rfl, hp8⟩ := hzs.get hx8
            obtain ⟨b1, b2, b3⟩ := hzo t (List.mem_of_getElem? ht)
            refine ⟨p8, _, rfl, SqT.of (s8.kpD D7.nt _ _ hp8), rfl, _, _, rfl, _, _, rfl, _, _, rfl, rfl, ?_⟩
            have s58 : Sm [d, c] H5 H8 := s57.nil.trans s8
            have g18 : H8 Wa = some (.lst (rw.map V.int)) := s8 _ _ g17 nW
            have A8 : Cols H8 a cs := hA.sm (s5.trans s58) hAo
            refine base_rd (Wa := Wa) (rw := rw) (o := t.2.1) rfl rfl rfl A8 b2 g18 g2 fun vb => ?_
            refine ⟨.str t.1, rfl, rfl, _, rfl, ite2 (fun hne => ?_) (fun _ => ?_)⟩
            · have h1 : t.1 ≠ "" := by simpa using hne
              have hm1 : t.1 ∈ cs := by
                rcases List.mem_cons.mp (nmL_mem.mp b1) with w | w
                · exact absurd w h1
                · exact w
              obtain ⟨j, hj1, hj2, hrj⟩ := valF_at cs rw t.1 hm1 g2.symm
              have jl : j < rw.length := (List.getElem?_eq_some_iff.mp hrj).1
              refine ⟨.int vb, rfl, .int t.2.2, rfl, vb, t.2.2, rfl, rfl, .ref d, rfl, d, c, m2 + 1, 2, rfl, D8, by omega, by omega, by omega, fun r9 H9 _ _ s9 D9 => ?_⟩
              have A9 : Cols H9 a cs := hA.sm (s5.trans (s58.trans s9)) hAo
              obtain ⟨o2, ea2, eo2⟩ := id A9
              have g19 : H9 Wa = some (.lst (rw.map V.int)) := s9 _ _ g18 nW
              refine ⟨vb + t.2.2, r9, rfl, rfl, .ref Wa, rfl, .ref a, rfl, ⟨a, o2, _, rfl, ea2, eo2⟩, .str t.1, rfl, a, cs, t.1, j, rfl, rfl, A9.sq, hj1, hj2, Wa, _, _, j, rfl, rfl, g19, ixN_nat (by rw [List.length_map]; exact jl), ?_⟩
              have s59 : Sm [d, c] H5 H9 := s58.trans s9
              refine ⟨_, _, _, _, rw.set j (vb + t.2.2 + r9), m2 + 1 + 1, rfl, ?_, by rw [List.length_set]; exact g2, (s5.trans s59).own hWH, D9.upd nW, by omega, ?_, ?_, fun v hv => ?_⟩
              · rw [upd_same, List.map_set]
              · rw [upd_ne nWR]
                exact s59 _ _ eR5 nR
              · rw [upd_ne nWE]
                exact s59 _ _ eE5 nE
              · exact (rows5 v hv).kp ((s59.kpD D5.nt).trans (list_kp g19))
            · exact same s58 D8 (by omega) g18 g2
      · rintro σ' H6 ⟨y6, y7, y8, y11, rw, m3, rfl, g1, g2, s6, D6, hm3, eR6, eE6, rows6⟩
        refine ⟨.ref Ra, rfl, .inl ⟨rfl, _, SqL.of eR6⟩, .ref Wa, rfl, Wa, _, rfl, .inl ⟨SqL.of g1, fun p hp => ?_⟩⟩
        have s7 : Sm [] H6 (upd H6 p (.tup (rw.map V.int))) := Sm.refl.new hp
        have e7 : (upd H6 p (.tup (rw.map V.int))) p = some (.tup (rw.map V.int)) := upd_same
        generalize upd H6 p (.tup (rw.map V.int)) = H7 at s7 e7
        have eR7 := s7.keep eR6
        refine ⟨Ra, rl, .ref p, rfl, rfl, eR7, by rw [hrl]; exact small16 (by omega), _, _, _, _, _, _, rl ++ [.ref p], m3, rfl, (s6.trans s7.nil).own hRa, (D6.keep s7).upd nR, by omega, upd_same, by rw [List.length_append, hrl]; rfl, fun v hv => ?_, ?_⟩
        · rcases List.mem_append.mp hv with hv | hv
          · exact (rows6 v hv).kp (s7.kp.trans (list_kp eR7))
          · rw [List.mem_singleton] at hv
            subst hv
            exact ⟨p, rw, rfl, list_kp eR7 _ _ e7, g2⟩
        · rw [upd_ne nRE.symm]
          exact s7.keep eE6
    · rintro σ H4 ⟨y6, y7, y8, y9, y10, y11, rl, m, rfl, s4, D4, hm, eR, hrl, hrows, eE⟩
      exact ⟨.ref Ra, rfl, q Ra rl m H4 s4 D4 (by omega) hRa eR (by omega) hrows⟩
end
end K91

namespace K91
open PySem PySem.Spec PyProof.Rows L2
open ZM (getT putT)
/-! ### repr of data -/
def rRepr (K : PySem.W.Frag) : List V → Hp → VK → Prop := fun xs H Q => ∃ (a : Addr) (d : PyData), xs = [.ref a] ∧ Dp K H (.ref a) d ∧ d.showable = true ∧ d.hasDict = false ∧ d.depth ≤ 60 ∧ d.shown.length ≤ sizeLine ∧ Q (.str d.shown) H
theorem call_repr {X : Cx} (hg : X.A.guards = some []) (hu : X.A.units + 65 < cLine) : CallR X (.builtin "repr") (rRepr X.K) := by
  intro pins s σ H xs us Q I r h
  obtain ⟨a, d, rfl, hd, h1, h2, h3, h4, q⟩ := h
  obtain ⟨u, rfl, rx⟩ := vals1 r
  obtain ⟨as, rd⟩ := Dp.reads I d (V.ref a) u hd rx
  cases (show u = Value.ref a from rx)
  exact repr_of_reads' rd h1 (fun z => by rw [h2] at z; cases z) hg (by omega) (fun _ _ e => e) (fun h' u tk k => ⟨.str d.shown, H, I.kept (t' := tk) k, ⟨u, rfl⟩, q⟩) h4
/-- the pair (columns, bounds) as data -/
def cbD (cs : List Str) (L : List Tr) : PyData := .tuple [.tuple (cs.map .str), .tuple (L.map trD)]
theorem strs_dp {K : PySem.W.Frag} {H : Hp} : ∀ cs : List Str, DpAll K H (cs.map V.str) (cs.map PyData.str)
  | [] => .nil
  | c :: cs => .cons (.str c) (strs_dp cs)
theorem all_of {p : PyData → Bool} {pa : List PyData → Bool} (h0 : pa [] = true) (hc : ∀ x xs, pa (x :: xs) = (p x && pa xs)) : ∀ xs : List PyData, (∀ x ∈ xs, p x = true) → pa xs = true
  | [], _ => h0
  | x :: xs, h => by
    rw [hc, h x List.mem_cons_self, all_of h0 hc xs fun y hy => h y (List.mem_cons_of_mem _ hy)]
    rfl
theorem weight_all {n : Nat} : ∀ {ds : List PyData}, (∀ d ∈ ds, d.weight ≤ n) → PyData.weightAll ds ≤ ds.length * (n + 1)
  | [], _ => by simp [PyData.weightAll]
  | d :: ds, h => by
    have h1 := h d List.mem_cons_self
    have h2 := weight_all (ds := ds) fun x hx => h x (List.mem_cons_of_mem _ hx)
    simp only [PyData.weightAll, List.length_cons]
    rw [Nat.add_mul, Nat.one_mul]
    omega
theorem cbD_ok {cs : List Str} {L : List Tr} (hc : cs.length ≤ 3) (hs : ∀ x ∈ cs, Sh x) (hL : L.length ≤ 16) (hT : Txs L) (hX : ∀ t ∈ L, -bigB ≤ t.2.2 ∧ t.2.2 ≤ bigB) :
    (cbD cs L).showable = true ∧ (cbD cs L).hasDict = false ∧ (cbD cs L).depth ≤ 60 ∧ (cbD cs L).shown.length ≤ sizeLine := by
  have lt31 : ∀ t ∈ L, t.2.2.natAbs < 2 ^ 31 := fun t ht => by
    obtain ⟨a, b⟩ := hX t ht
    unfold bigB at a b
    omega
  have log : ∀ t ∈ L, t.2.2.natAbs.log2 < 31 := fun t ht => by
    by_cases h0 : t.2.2.natAbs = 0
    · rw [h0]; decide
    · exact (Nat.log2_lt h0).mpr (lt31 t ht)
  have tr1 : ∀ t ∈ L, (trD t).showable = true := fun t ht => by
    have := log t ht
    simp only [trD, PyData.showable, PyData.showableAll, Bool.true_and, Bool.and_true, decide_eq_true_eq]
    omega
  have tr2 : ∀ t ∈ L, (trD t).canLay0 = true := fun t ht => by
    obtain ⟨a, b⟩ := hT t ht
    have a' := a.lay
    have b' := b.lay
    simp only [trD, PyData.canLay0, PyData.canLayAll0] at a' b' ⊢
    rw [a', b']
    rfl
  have tr3 : ∀ t ∈ L, (trD t).weight ≤ 100 := fun t ht => by
    obtain ⟨a, b⟩ := hT t ht
    have a' : t.1.cps.size ≤ 16 := a.len
    have b' : t.2.1.cps.size ≤ 16 := b.len
    have := log t ht
    simp only [trD, PyData.weight, PyData.weightAll]
    split <;> omega
  have tr4 : ∀ t ∈ L, (trD t).intsShort 13 = true := fun t ht => by
    obtain ⟨a, b⟩ := hX t ht
    unfold bigB at a b
    have := intsShort_of_noneOrIn (lo := -999999999999) (hi := 999999999999) (by decide) (by decide) (.int t.2.2) (by
      simp only [noneOrIn, Bool.and_eq_true, decide_eq_true_eq]
      omega)
    simp only [trD, PyData.intsShort, PyData.intsShortAll] at this ⊢
    rw [this]
    rfl
  have mapT : ∀ {p : PyData → Bool}, (∀ t ∈ L, p (trD t) = true) → ∀ x ∈ L.map trD, p x = true := fun h x hx => by
    obtain ⟨t, ht, rfl⟩ := List.mem_map.mp hx
    exact h t ht
  have mapS : ∀ {p : PyData → Bool}, (∀ z ∈ cs, p (.str z) = true) → ∀ x ∈ cs.map PyData.str, p x = true := fun h x hx => by
    obtain ⟨t, ht, rfl⟩ := List.mem_map.mp hx
    exact h t ht
  refine ⟨?_, ?_, ?_, ?_⟩
  · have a := all_of (p := PyData.showable) (pa := PyData.showableAll) (by simp [PyData.showableAll]) (fun x xs => by simp [PyData.showableAll]) _ (mapT tr1)
    have b := all_of (p := PyData.showable) (pa := PyData.showableAll) (by simp [PyData.showableAll]) (fun x xs => by simp [PyData.showableAll]) (cs.map PyData.str) (mapS fun z _ => by simp [PyData.showable])
    simp only [cbD, PyData.showable, PyData.showableAll]
    rw [a, b]
    rfl
  · have a := all_of (p := fun d => !d.hasDict) (pa := fun ds => !PyData.hasDictAll ds) (by simp [PyData.hasDictAll]) (fun x xs => by simp [PyData.hasDictAll]) (L.map trD) (mapT fun t _ => by simp [trD, PyData.hasDict, PyData.hasDictAll])
    have b := all_of (p := fun d => !d.hasDict) (pa := fun ds => !PyData.hasDictAll ds) (by simp [PyData.hasDictAll]) (fun x xs => by simp [PyData.hasDictAll]) (cs.map PyData.str) (mapS fun z _ => by simp [PyData.hasDict])
    simp only [Bool.not_eq_true'] at a b
    simp only [cbD, PyData.hasDict, PyData.hasDictAll]
    rw [a, b]
    rfl
  · have a := depth_all (n := 1) (ds := L.map trD) fun d hd => by
      obtain ⟨t, _, rfl⟩ := List.mem_map.mp hd
      rw [depth_trD]
      exact Nat.le_refl _
    have b := depth_all (n := 1) (ds := cs.map PyData.str) fun d hd => by
      obtain ⟨t, _, rfl⟩ := List.mem_map.mp hd
      simp [PyData.depth]
    simp only [cbD, PyData.depth, PyData.depthAll]
    omega
  · have hl : PyData.layable0 (cbD cs L) = true := by
      have a := all_of (p := PyData.canLay0) (pa := PyData.canLayAll0) (by simp [PyData.canLayAll0]) (fun x xs => by simp [PyData.canLayAll0]) _ (mapT tr2)
      have b := all_of (p := PyData.canLay0) (pa := PyData.canLayAll0) (by simp [PyData.canLayAll0]) (fun x xs => by simp [PyData.canLayAll0]) (cs.map PyData.str) (mapS fun z hz => (hs z hz).sp.lay)
      have h1 : (cbD cs L).canLay0 = true := by
        simp only [cbD, PyData.canLay0, PyData.canLayAll0]
        rw [a, b]
        rfl
      have d1 := depth_all (n := 1) (ds := L.map trD) fun d hd => by
        obtain ⟨t, _, rfl⟩ := List.mem_map.mp hd
        rw [depth_trD]
        exact Nat.le_refl _
      have d2 := depth_all (n := 1) (ds := cs.map PyData.str) fun d hd => by
        obtain ⟨t, _, rfl⟩ := List.mem_map.mp hd
        simp [PyData.depth]
      have h2 : (cbD cs L).depth ≤ 64 := by
        simp only [cbD, PyData.depth, PyData.depthAll]
        omega
      have w1 := weight_all (n := 100) (ds := L.map trD) fun d hd => by
        obtain ⟨t, ht, rfl⟩ := List.mem_map.mp hd
        exact tr3 t ht
      have w2 := weight_all (n := 16) (ds := cs.map PyData.str) fun d hd => by
        obtain ⟨z, hz, rfl⟩ := List.mem_map.mp hd
        have : z.cps.size ≤ 16 := (hs z hz).sp.len
        simp only [PyData.weight]
        exact this
      rw [List.length_map] at w1 w2
      have h3 : (cbD cs L).weight ≤ 2 ^ 20 := by
        simp only [cbD, PyData.weight, PyData.weightAll]
        have : (2 : Nat) ^ 20 = 1048576 := by decide
        omega
      show ((cbD cs L).canLay0 && decide ((cbD cs L).depth ≤ 64) && decide ((cbD cs L).weight ≤ 2 ^ 20)) = true
      rw [h1, decide_eq_true h2, decide_eq_true h3]
      rfl
    have hi : (cbD cs L).intsShort 13 = true := by
      have a := all_of (p := PyData.intsShort 13) (pa := PyData.intsShortAll 13) (by simp [PyData.intsShortAll]) (fun x xs => by simp [PyData.intsShortAll]) _ (mapT tr4)
      have b := all_of (p := PyData.intsShort 13) (pa := PyData.intsShortAll 13) (by simp [PyData.intsShortAll]) (fun x xs => by simp [PyData.intsShortAll]) (cs.map PyData.str) (mapS fun z _ => by simp [PyData.intsShort])
      simp only [cbD, PyData.intsShort, PyData.intsShortAll]
      rw [a, b]
      rfl
    have := PyData.shown_le_of_layable0 hl hi
    have big : (15728653 : Nat) ≤ sizeLine := by decide
    omega
end K91

namespace K91
open PySem PySem.Spec PyProof.Rows L2
open ZM (getT putT)
theorem neg_mem {L L' : List Tr} (h : ∀ t, t ∈ L' ↔ t ∈ L) : ZM.Neg L' ↔ ZM.Neg L :=
  ⟨fun ⟨i, v, w, hv⟩ => ⟨i, v, w.mono fun t ht => .one ((h t).mp ht), hv⟩, fun ⟨i, v, w, hv⟩ => ⟨i, v, w.mono fun t ht => .one ((h t).mpr ht), hv⟩⟩
theorem closed_same {cs : List Str} {L L' : List Tr} (hO : ZM.Bok (nmL cs) L) (hm : ∀ t, t ∈ L' ↔ t ∈ L) : closedO cs L' = tightO cs L := by
  have hO' : ZM.Bok (("" : Str) :: cs) L' := fun t ht => bok_iff.mp hO t ((hm t).mp ht)
  unfold closedO tightO
  by_cases n : ZM.Neg L
  · rw [if_pos ((ZM.negP_iff hO').mpr ((neg_mem hm).mpr n)), if_pos ((ZM.negD_iff hO).mpr n)]
  · have n' : ¬ ZM.Neg L' := fun z => n ((neg_mem hm).mp z)
    rw [if_neg (fun z => n' ((ZM.negP_iff hO').mp z)), if_neg (fun z => n ((ZM.negD_iff hO).mp z))]
    rw [sortT_uniq (ZM.tabs_perm hO' hO n' fun t => (hm t).symm)]
theorem zon_of {cs : List Str} {L Z : List Tr} (hO : ZM.Bok (nmL cs) L) (h3 : cs.length ≤ 3) (h : tightO cs L = some Z) : Zon cs L Z := by
  unfold tightO at h
  by_cases n : ZM.Neg L
  · rw [if_pos ((ZM.negD_iff hO).mpr n)] at h
    cases h
  · rw [if_neg (fun z => n ((ZM.negD_iff hO).mp z))] at h
    have e := Option.some.inj h
    have I := ZM.ltab_inv hO
    have p : Z.Perm (ZM.trs (ZM.offD (ZM.ltab (nmL cs) L))) := by
      rw [← e]
      exact sortT_perm _
    refine ⟨hO, n, fun t => ?_, ?_⟩
    · rw [p.mem_iff, ZM.mem_trs (ZM.offD_nod I.nod), ZM.offD_get]
      by_cases q : t.1 = t.2.1
      · rw [if_pos q]
        exact ⟨fun z => (by cases z), fun z => absurd q z.1⟩
      · rw [if_neg q]
        exact ⟨fun z => ⟨q, z⟩, fun z => z.2⟩
    · rw [p.length_eq]
      have l := inv_len I (by rw [nmL_len]; omega)
      unfold ZM.trs ZM.offD
      rw [List.length_map]
      exact Nat.le_trans (List.length_filter_le _ _) l
theorem tight_none {cs : List Str} {L : List Tr} (hO : ZM.Bok (nmL cs) L) (h : tightO cs L = none) : ZM.Neg L := by
  unfold tightO at h
  by_cases n : ZM.Neg L
  · exact n
  · rw [if_neg (fun z => n ((ZM.negD_iff hO).mp z))] at h
    cases h
theorem closed_rev {cs : List Str} {L Z : List Tr} (hO : ZM.Bok (nmL cs) L) (h3 : cs.length ≤ 3) (h : tightO cs L = some Z) : closedO cs Z.reverse = some Z := by
  have hz := zon_of hO h3 h
  have mem : ∀ t, t ∈ Z.reverse ↔ t.1 ≠ t.2.1 ∧ getT (ZM.ltab (nmL cs) L) (t.1, t.2.1) = some t.2.2 := fun t => by rw [List.mem_reverse]; exact hz.mem t
  have hO' : ZM.Bok (("" : Str) :: cs) Z.reverse := fun t ht => bok_iff.mp hz.bok t (List.mem_reverse.mp ht)
  have c := ZM.ltab_cl hO hz.neg
  have cZ : ZM.Cl Z.reverse (ZM.ltab (nmL cs) L) := ⟨fun t ht => ⟨_, ((mem t).mp ht).2, Int.le_refl _⟩, c.tri, c.nc⟩
  have sZ : ZM.Snd Z.reverse (ZM.ltab (nmL cs) L) := fun i j v n e => .one ((mem (i, j, v)).mpr ⟨n, e⟩)
  have nZ := cZ.noNeg hO'.ne
  have I := ZM.ltab_inv hO
  have I' := ZM.ctab_inv hO'
  have p : (ZM.trs (ZM.ctab (("" : Str) :: cs) Z.reverse)).Perm (ZM.trs (ZM.offD (ZM.ltab (nmL cs) L))) := ZM.perm_trs I'.nod (ZM.offD_nod I.nod) fun i j => by
    rw [ZM.offD_get]
    by_cases e : i = j
    · rw [if_pos e]
      cases q : getT (ZM.ctab (("" : Str) :: cs) Z.reverse) (i, j) with
      | none => rfl
      | some v =>
        rcases (I'.dom _ _ _ q).2.2 with z | z
        · cases z
        · exact absurd e z
    · rw [if_neg e]
      exact (ZM.ctab_cl hO' (ZM.neg_false (ZM.negP_iff hO') nZ)).uniq (ZM.ctab_snd hO') cZ sZ hO'.ne e
  unfold closedO
  rw [if_neg (fun z => nZ ((ZM.negP_iff hO').mp z)), sortT_uniq p]
  unfold tightO at h
  rw [if_neg (by rw [hz.neg]; simp)] at h
  exact h
theorem zone_row {cs : List Str} {L : List Tr} (hO : ZM.Bok (nmL cs) L) (h3 : cs.length ≤ 3) (r : List Int) : zoneB cs r (tightO cs L) = inB cs r L := by
  cases e : tightO cs L with
  | none =>
    have n := tight_none hO e
    cases q : inB cs r L with
    | false => rfl
    | true => exact absurd (inB_iff.mp q) (n.row _)
  | some Z => exact (zon_of hO h3 e).row r
theorem zno_of {cs : List Str} {L : List Tr} (hO : ZM.Bok (nmL cs) L) (h3 : cs.length ≤ 3) : ZnO cs (tightO cs L) := ⟨fun Z e => ⟨(zon_of hO h3 e).bok, (zon_of hO h3 e).len⟩⟩
theorem zoneOk_of {cs : List Str} {L : List Tr} (hO : ZM.Bok (nmL cs) L) (h3 : cs.length ≤ 3) : zoneOk cs (tightO cs L) := by
  cases e : tightO cs L with
  | none => trivial
  | some Z =>
    have := (zon_of hO h3 e).len
    exact ⟨bok_iff.mp (zon_of hO h3 e).bok, by omega⟩
/-! ### alike, from the triples -/
theorem Alk.up {H : Hp} : ∀ {n : Nat} {x y : V}, Alk H n x y → Alk H (n + 1) x y
  | 0, x, y, h => .inl h
  | n + 1, x, y, h => by
    rcases h with h | ⟨a, b, xs, ys, e1, e2, h, hl, hi⟩
    · exact .inl h
    · exact .inr ⟨a, b, xs, ys, e1, e2, h, hl, fun i x y hx hy => (hi i x y hx hy).up⟩
theorem alk_eqs {H : Hp} {a b : Addr} {xs : List V} (ha : H a = some (.tup xs)) (hb : H b = some (.tup xs)) (hf : ∀ x ∈ xs, flatV' x = true) : Alk H 1 (.ref a) (.ref b) :=
  .inr ⟨a, b, xs, xs, rfl, rfl, .inl ⟨ha, hb⟩, rfl, fun i x y hx hy => by
    rw [hx] at hy
    obtain rfl := Option.some.inj hy
    exact ⟨rfl, hf x (List.mem_of_getElem? hx)⟩⟩
theorem alk_tr {H : Hp} {x y : V} {t : Tr} (hx : TrAt H x t) (hy : TrAt H y t) : Alk H 1 x y := by
  obtain ⟨p, rfl, h1⟩ := hx
  obtain ⟨q, rfl, h2⟩ := hy
  refine alk_eqs h1 h2 fun v hv => ?_
  simp only [trV, List.mem_cons, List.not_mem_nil, or_false] at hv
  rcases hv with rfl | rfl | rfl <;> rfl
theorem alk_bds {H : Hp} {a b : Addr} {Z : List Tr} (ha : Bds H a Z) (hb : Bds H b Z) : Alk H 2 (.ref a) (.ref b) := by
  obtain ⟨xs, e1, r1⟩ := ha
  obtain ⟨ys, e2, r2⟩ := hb
  refine .inr ⟨a, b, xs, ys, rfl, rfl, .inl ⟨e1, e2⟩, by rw [r1.len, r2.len], fun i x y hx hy => ?_⟩
  obtain ⟨t, ht, h1⟩ := r1.get hx
  obtain ⟨u, hu, h2⟩ := r2.get hy
  rw [ht] at hu
  obtain rfl := Option.some.inj hu
  exact alk_tr h1 h2
theorem alk_bdsO {H : Hp} {x y : V} {o : Option (List Tr)} (hx : BdsO H x o) (hy : BdsO H y o) : Alk H 2 x y := by
  rcases hx with ⟨rfl, rfl⟩ | ⟨Z, a, rfl, rfl, h1⟩
  · rcases hy with ⟨_, rfl⟩ | ⟨Z, a, e, _, _⟩
    · exact .inl ⟨rfl, rfl⟩
    · cases e
  · rcases hy with ⟨e, _⟩ | ⟨Z', b, e, rfl, h2⟩
    · cases e
    · cases e
      exact alk_bds h1 h2
theorem alk_two {H : Hp} {a b : Addr} {x y u v : V} {n : Nat} (ha : H a = some (.lst [x, y])) (hb : H b = some (.lst [u, v])) (h1 : Alk H n x u) (h2 : Alk H n y v) : Alk H (n + 1) (.ref a) (.ref b) :=
  .inr ⟨a, b, _, _, rfl, rfl, .inr ⟨ha, hb⟩, rfl, fun i p q hp hq => by
    match i, hp, hq with
    | 0, hp, hq =>
      cases hp
      cases hq
      exact h1
    | 1, hp, hq =>
      cases hp
      cases hq
      exact h2
    | i + 2, hp, hq => simp at hp⟩
/-! ### as any values -/
theorem av_tr {D : List Addr} {H : Hp} {v : V} {t : Tr} (h : TrAt H v t) : Av D H v (trD t) := by
  obtain ⟨p, rfl, e⟩ := h
  exact .tup e (by show 3 ≤ 1000; decide) (.cons (.str _) (.cons (.str _) (.cons (.int _) .nil)))
theorem av_all {D : List Addr} {H : Hp} : ∀ {vs : List V} {ts : List Tr}, TrAll H vs ts → AvAll D H vs (ts.map trD)
  | _, _, .nil => .nil
  | _, _, .cons a r => .cons (av_tr a) (av_all r)
theorem av_bds {D : List Addr} {H : Hp} {a : Addr} {L : List Tr} (h : Bds H a L) (hl : L.length ≤ 16) : Av D H (.ref a) (.tuple (L.map trD)) := by
  obtain ⟨xs, e, r⟩ := h
  exact .tup e (by rw [r.len]; omega) (av_all r)
theorem sml_bds {L : List Tr} (hl : L.length ≤ 16) (hT : Txs L) (hX : ∀ t ∈ L, -bigB ≤ t.2.2 ∧ t.2.2 ≤ bigB) : Sml 2 (.tuple (L.map trD)) := by
  refine ⟨by rw [List.length_map]; omega, fun d hd => ?_⟩
  obtain ⟨t, ht, rfl⟩ := List.mem_map.mp hd
  obtain ⟨a, b⟩ := hT t ht
  obtain ⟨k1, k2⟩ := hX t ht
  unfold bigB at k1 k2
  refine ⟨by show 3 ≤ 100; decide, fun e he => ?_⟩
  have he' : e ∈ [PyData.str t.1, .str t.2.1, .int t.2.2] := he
  simp only [List.mem_cons, List.not_mem_nil, or_false] at he'
  rcases he' with rfl | rfl | rfl
  · exact a
  · exact b
  · exact ⟨by omega, by omega⟩
end K91

namespace K91
open PySem PySem.Spec PyProof.Rows L2
open ZM (getT putT)
/-- keywords (values, zone, columns) in the parameters' order -/
def kwV {α : Type} : List α → List α → List α
  | [], [v, z, c] => [c, z, v]
  | _, _ => []
/-- two keywords, the other way round -/
def kw2 {α : Type} : List α → List α → List α
  | [], [b, c] => [c, b]
  | _, _ => []
abbrev sLw : Stmt := topS 29
abbrev nLw : List Str := ["script", "deck", "turn", "columns", "bounds", "due", "kept", "told", "other", "at", "row", "here", "heard", "things", "thing", "go"]
theorem scLw : FnScope ["script", "deck", "turn", "columns", "bounds", "due", "kept", "told", "other", "at", "row", "here", "heard", "things", "thing", "go"] ["script"] (defScope sLw) := ⟨rfl, rfl, rfl, by decide +kernel, rfl, by decide +kernel, by decide +kernel⟩
section
variable {P : Program} {w : World} {K : PySem.W.Frag} {mg : Str → Option Value} {base : Heap}
def spAb' (K : PySem.W.Frag) : Sp := fun vs H Q E => ∃ (a : Addr) (v : V) (cs : List Str) (D : List Addr) (d : PyData), vs = [.ref a, v] ∧ SqT K H a (cs.map V.str) ∧ Av D H v d ∧ NTs D H ∧ ∀ H', Sm [] H H' → Q (.bl (areB cs d)) H'
/-- all the defs, as the law calls them -/
structure All (P : Program) (w : World) (K : PySem.W.Frag) (mg : Str → Option Value) (base : Heap) : Prop where
  dk : Cal P w K mg base "_law_deck" ["script", "salt"] 1 (spDeck K)
  draw : Cal P w K mg base "_law_draw" ["deck", "ways"] 1 spDraw
  pick : Cal P w K mg base "_law_pick" ["deck", "some"] 2 spPick
  order : Cal P w K mg base "_law_order" ["deck", "some"] 2 spOrder
  nm : Cal P w K mg base "_law_names" ["deck", "many"] 3 spNm
  lb : Cal P w K mg base "_law_bounds" ["deck", "columns", "many", "far"] 3 (spLb K)
  ti : Cal P w K mg base "_law_tight" ["columns", "bounds"] 2 (spTi K)
  cl : Cal P w K mg base "closed" ["columns", "bounds"] 2 (spCl K)
  clK : CalK P w K mg base "closed" ["columns", "bounds"] ["bounds", "columns"] kw2 2 (spCl K)
  sm : ∀ n, Cal P w K mg base "_law_same" ["told", "due"] n (spSm n)
  is : Cal P w K mg base "_law_is_in" ["columns", "bounds", "values"] 2 (spIs K)
  zn : Cal P w K mg base "is_in_zone" ["columns", "zone", "values"] 2 (spZn K)
  znK : CalK P w K mg base "is_in_zone" ["columns", "zone", "values"] ["values", "zone", "columns"] kwV 2 (spZn K)
  rt : Cal P w K mg base "_law_is_end_right" ["deck", "columns", "bounds", "zone"] 3 (spRt K)
  rn : Cal P w K mg base "_law_rows_near" ["deck", "columns", "bounds", "zone"] 3 (spRn K)
  bt : Cal P w K mg base "_law_bent" ["deck", "columns", "it"] 6 (spBt K 3)
  ab : Cal P w K mg base "are_bounds" ["columns", "thing"] 3 (spAb' K)
  abK : CalK P w K mg base "are_bounds" ["columns", "thing"] ["thing", "columns"] kw2 3 (spAb' K)
  so : Cal P w K mg base "_law_are_bounds_so" ["columns", "thing"] 1 (spSo K)
def spLw (K : PySem.W.Frag) : Sp := fun vs H Q _ => ∃ (a : Addr) (ns : List Int), vs = [.ref a] ∧ SqL K H a (ns.map V.int) ∧ ns.length ≤ 63 ∧ ∀ H', Q (.bl true) H'
/-- what stands through a turn -/
structure Tn (H : Hp) (d c a b : Addr) (cs : List Str) (L : List Tr) (v : V) (m : Nat) : Prop where
  deck : Deck H d c m
  cols : Cols H a cs
  bds : Bds H b L
  due : BdsO H v (tightO cs L)
theorem Tn.sm {H H' : Hp} {d c a b : Addr} {cs : List Str} {L : List Tr} {v : V} {m m' : Nat} (T : Tn H d c a b cs L v m) (s : Sm [d, c] H H') (D : Deck H' d c m') : Tn H' d c a b cs L v m' :=
  ⟨D, T.cols.sm s (T.cols.out T.deck), T.bds.kp (s.kpD T.deck.nt), T.due.kp (s.kpD T.deck.nt)⟩
theorem Tn.keep {H H' : Hp} {d c a b : Addr} {cs : List Str} {L : List Tr} {v : V} {m : Nat} (T : Tn H d c a b cs L v m) (s : Sm [] H H') : Tn H' d c a b cs L v m := T.sm s.nil (T.deck.keep s)
abbrev Lt (a d : Addr) (y2 y3 y4 y5 y6 y7 y8 y9 y10 y11 y12 y13 y14 : Option V) : L2.St := [some (.ref a), some (.ref d), y2, y3, y4, y5, y6, y7, y8, y9, y10, y11, y12, y13, y14, none]
/-- one of two, either way the same -/
theorem told_rd {K : PySem.W.Frag} {t : TT} {σ : L2.St} {H : Hp} {R : VK} {a b : Addr} {cs : List Str} {L : List Tr} (h3 : σ[3]? = some (some (.ref a))) (h4 : σ[4]? = some (some (.ref b))) (ht : ∀ Q : Bool → Hp → Prop, (∀ b, Q b H) → t σ H Q)
    (hA : SqT K H a (cs.map V.str)) (hB : Bds H b L) (hO : ZM.Bok (nmL cs) L) (hl : cs.length ≤ 3) (q : ∀ v H', Sm [] H H' → BdsO H' v (tightO cs L) → R v H') :
    tIf t (tCall (spCl K) [] E0 (tCons (tVar 3) (tCons (tVar 4) tNil))) (tCallK (spCl K) kw2 E0 tNil (tCons (tVar 4) (tCons (tVar 3) tNil))) σ H R := by
  have e : closedO cs L = tightO cs L := closed_same hO fun t => Iff.rfl
  have S : spCl K [.ref a, .ref b] H R E0 := ⟨a, b, cs, L, rfl, hA, hB, bok_iff.mp hO, hl, fun v H' s h => q v H' s (by rw [← e]; exact h)⟩
  refine ht _ fun x => ?_
  cases x with
  | true => exact ⟨.ref a, h3, .ref b, h4, S⟩
  | false => exact ⟨.ref b, h4, .ref a, h3, S⟩
theorem ab_rd {K : PySem.W.Frag} {t : TT} {σ : L2.St} {H : Hp} {R : VK} {a : Addr} {x : V} (h3 : σ[3]? = some (some (.ref a))) (h14 : σ[14]? = some (some x)) (M : Hp → Prop) (ht : ∀ Q : Bool → Hp → Prop, (∀ b H', M H' → Q b H') → t σ H Q)
    (q : ∀ H', M H' → spAb' K [.ref a, x] H' R E0) :
    tIf t (tCall (spAb' K) [] E0 (tCons (tVar 3) (tCons (tVar 14) tNil))) (tCallK (spAb' K) kw2 E0 tNil (tCons (tVar 14) (tCons (tVar 3) tNil))) σ H R := by
  refine ht _ fun y H' hM => ?_
  cases y with
  | true => exact ⟨.ref a, h3, x, h14, q H' hM⟩
  | false => exact ⟨x, h14, .ref a, h3, q H' hM⟩
theorem Tn.put {H : Hp} {d c a b p : Addr} {cs : List Str} {L : List Tr} {v : V} {m : Nat} {xs ys : List V} (T : Tn H d c a b cs L v m) (h : H p = some (.lst xs)) (n : p ∉ [d, c]) : Tn (upd H p (.lst ys)) d c a b cs L v m := by
  refine ⟨T.deck.upd n, ?_, T.bds.kp (list_kp h), T.due.kp (list_kp h)⟩
  obtain ⟨o, e, ho⟩ := T.cols
  exact ⟨o, by rw [upd_ne (ne_of e h (by intro z; cases z))]; exact e, ho⟩
mutual
theorem Av.putL {D : List Addr} {H : Hp} {p : Addr} {xs ys : List V} (hp : H p = some (.lst xs)) : ∀ {v : V} {d : PyData}, Av D H v d → Av D (upd H p (.lst ys)) v d
  | _, _, .non => .non
  | _, _, .bl b => .bl b
  | _, _, .int b => .int b
  | _, _, .str b => .str b
  | _, _, .tup h l r => .tup (list_kp hp _ _ h) l (AvAll.putL hp r)
  | _, _, .lst (a := a) (xs := zs) h l => by
    by_cases e : a = p
    · subst e
      exact .lst upd_same l
    · exact .lst (by rw [upd_ne e]; exact h) l
  | _, _, .dK h l => .dK (by rw [upd_ne (ne_of h hp (by intro z; cases z))]; exact h) l
theorem AvAll.putL {D : List Addr} {H : Hp} {p : Addr} {xs ys : List V} (hp : H p = some (.lst xs)) : ∀ {vs : List V} {ds : List PyData}, AvAll D H vs ds → AvAll D (upd H p (.lst ys)) vs ds
  | _, _, .nil => .nil
  | _, _, .cons h r => .cons (Av.putL hp h) (AvAll.putL hp r)
end
theorem av_bdsO {D : List Addr} {H : Hp} {v : V} {o : Option (List Tr)} (h : BdsO H v o) (hl : ∀ Z, o = some Z → Z.length ≤ 16) : ∃ p, Av D H v p := by
  rcases h with ⟨_, rfl⟩ | ⟨Z, a, e, rfl, hB⟩
  · exact ⟨.none, .non⟩
  · exact ⟨_, av_bds hB (hl Z e)⟩
abbrev tC0 (K : PySem.W.Frag) : TE := tOp (rIx K) (tVar 3) (tC (.int 0))
abbrev thingsT (K : PySem.W.Frag) : TA := tCons (tVar 4) (tCons (tVar 5) (tCons (tTup tNil) (tCons (tOp (rCatA K) (tVar 4) (tTup (tCons (tTup (tCons (tC0 K) (tCons (tC0 K) (tCons (tC (.int 1)) tNil)))) tNil)))
  (tCons (tTup (tCons (tTup (tCons (tC0 K) (tCons (tC (.str ("" : Str))) (tCons (tC (.int 0)) tNil)))) tNil)) (tCons (tCB (rListOf K) (tCons (tVar 4) tNil)) tNil)))))
abbrev moreT (K : PySem.W.Frag) : TA := tCons (tC (.int 0)) (tCons (tC (.str ("" : Str))) (tCons tDNewK (tCons (tTup (tCons (tTup tNil) tNil)) (tCons (tTup (tCons (tC (.str ("" : Str))) (tCons (tC (.str ("" : Str))) (tCons (tC (.int 0)) tNil))))
  (tCons (tTup (tCons (tTup (tCons (tC0 K) (tCons (tC (.str ("" : Str))) (tCons (tC (.bl true)) tNil)))) tNil)) tNil)))))
theorem c0_av {D : List Addr} {σ : L2.St} {H : Hp} {K : PySem.W.Frag} {a : Addr} {cs : List Str} (h1 : σ[3]? = some (some (.ref a))) (hA : SqT K H a (cs.map V.str)) (hc : cs ≠ []) : AvE D σ H (tC0 K) := fun H1 s1 R q => by
  obtain ⟨c, r, rfl⟩ := List.exists_cons_of_ne_nil hc
  exact ⟨.ref a, h1, .inr (.inl ⟨a, _, 0, .str c, rfl, rfl, sqt_sm hA s1, atI_nat (j := 0) rfl, q _ _ H1 Sm.refl (.str c)⟩)⟩
theorem things_av {D : List Addr} {σ : L2.St} {H : Hp} {K : PySem.W.Frag} {a b : Addr} {v : V} {p : PyData} {cs : List Str} {L : List Tr} (hN : NTs D H) (h3 : σ[3]? = some (some (.ref a))) (h4 : σ[4]? = some (some (.ref b))) (h5 : σ[5]? = some (some v)) (hA : SqT K H a (cs.map V.str)) (hc : cs ≠ [])
    (hB : Bds H b L) (hl : L.length ≤ 16) (hv : Av D H v p) : AvT D σ H 6 (thingsT K) := by
  have bE : AvE D σ H (tVar 4) := AvE.var hN h4 (av_bds hB hl)
  refine AvT.cons hN bE ?_
  refine AvT.cons hN (AvE.var hN h5 hv) ?_
  refine AvT.cons hN (AvE.tup hN AvT.nil (by decide)) ?_
  refine AvT.cons hN (fun H2 s2 R q => ?_) ?_
  · obtain ⟨bs, eb, hbs⟩ := hB
    have N2 := hN.sm s2
    have lb := hbs.len
    have ct : AvT D σ H2 1 (tCons (tTup (tCons (tC0 K) (tCons (tC0 K) (tCons (tC (.int 1)) tNil)))) tNil) := by
      have cE := c0_av (D := D) h3 (sqt_sm hA s2) hc
      exact AvT.cons N2 (AvE.tup N2 (AvT.cons N2 cE (AvT.cons N2 cE (AvT.cons N2 (AvE.val fun _ => .int _) AvT.nil))) (by decide)) AvT.nil
    refine ⟨.ref b, h4, ct H2 Sm.refl _ fun xs ds H3 s3 hx hxs => ⟨by rw [hx]; decide, fun p5 hp5 => ?_⟩⟩
    have s5 : Sm [] H3 (upd H3 p5 (.tup xs)) := Sm.refl.new hp5
    have e5 : (upd H3 p5 (.tup xs)) p5 = some (.tup xs) := upd_same
    generalize upd H3 p5 (.tup xs) = H5 at s5 e5
    have N3 := N2.sm s3
    have s25 := s3.trans s5
    refine catA_rd (N3.sm s5) (s25.keep (s2.keep eb)) e5 ((av_all (hbs.kp (s2.trans s25).kp))) (hxs.keep s5 N3) (by rw [hx]; omega) fun c2 gs H6 s6 ec hc2 => ?_
    exact q (.ref c2) (.tuple gs) H6 (s25.trans s6) (.tup ec (by rw [List.length_append, hx]; omega) hc2)
  refine AvT.cons hN (AvE.tup hN (AvT.cons hN (AvE.tup hN (AvT.cons hN (c0_av h3 hA hc) (AvT.cons hN (AvE.val fun _ => .str _) (AvT.cons hN (AvE.val fun _ => .int _) AvT.nil))) (by decide)) AvT.nil) (by decide)) ?_
  refine AvT.cons hN (fun H2 s2 R q => ?_) AvT.nil
  obtain ⟨bs, eb, hbs⟩ := hB
  exact ⟨.ref b, h4, b, bs, rfl, .inr (SqT.of (s2.keep eb)), fun l2 hl2 => q (.ref l2) (.list []) _ (Sm.refl.new hl2) (.lst upd_same ((hN.sm s2).out hl2))⟩
theorem more_av {D : List Addr} {σ : L2.St} {H : Hp} {K : PySem.W.Frag} {a : Addr} {cs : List Str} (hN : NTs D H) (h3 : σ[3]? = some (some (.ref a))) (hA : SqT K H a (cs.map V.str)) (hc : cs ≠ []) : AvT D σ H 6 (moreT K) := by
  refine AvT.cons hN (AvE.val fun _ => .int _) ?_
  refine AvT.cons hN (AvE.val fun _ => .str _) ?_
  refine AvT.cons hN (AvE.dict hN) ?_
  refine AvT.cons hN (AvE.tup hN (AvT.cons hN (AvE.tup hN AvT.nil (by decide)) AvT.nil) (by decide)) ?_
  refine AvT.cons hN (AvE.tup hN (AvT.cons hN (AvE.val fun _ => .str _) (AvT.cons hN (AvE.val fun _ => .str _) (AvT.cons hN (AvE.val fun _ => .int _) AvT.nil))) (by decide)) ?_
  exact AvT.cons hN (AvE.tup hN (AvT.cons hN (AvE.tup hN (AvT.cons hN (c0_av h3 hA hc) (AvT.cons hN (AvE.val fun _ => .str _) (AvT.cons hN (AvE.val fun _ => .bl _) AvT.nil))) (by decide)) AvT.nil) (by decide)) AvT.nil
/-- what the nine turns give, behind a list -/
theorem grow1 {D : List Addr} {σ : L2.St} {H : Hp} {n : Nat} {t : TA} {R : VK} {i : Nat} {p : Addr} {xs : List V} {ds : List PyData} (hN : NTs D H) (h3 : σ[i]? = some (some (.ref p))) (hp : H p = some (.lst xs)) (hx : AvAll D H xs ds) (x2 : xs.length ≤ 16) (b : AvT D σ H n t) (hn : n ≤ 16)
    (q : ∀ p4 ys es H4, Sm [] H H4 → H p4 = none → H4 p4 = some (.lst ys) → AvAll D H4 ys es → ys.length ≤ 32 → R (.ref p4) H4) : tOp rCat (tVar i) (tLst t) σ H R := by
  refine ⟨.ref p, h3, ?_⟩
  refine list_rd hN b hn fun p2 xs2 ds2 H2 s2 hp2 e2 h2 hl => ?_
  have big : (100 : Nat) ≤ sizeLine := by decide
  refine ⟨p, p2, xs, xs2, rfl, rfl, s2.keep hp, e2, by omega, fun p4 hp4 => ?_⟩
  have s4 : Sm [] H2 (upd H2 p4 (.lst (xs ++ xs2))) := Sm.refl.new hp4
  exact q p4 _ _ _ (s2.trans s4) (s2.free hp4 (by simp)) upd_same ((hx.keep (s2.trans s4) hN).app (h2.keep s4 (hN.sm s2))) (by rw [List.length_append]; omega)
theorem law_body (B : Bn mg) (C : All P w K mg base) {cdv : Value} {A : Around} {outer : List Env} {s : Shared} {H : Hp} {vs : List V} {Q : VK} {E : XK} {f : Addr} (hg : A.guards = some []) (hr : Room 6 (A.deeper (envOfC "law" (defScope sLw) s.heap.objs.size f cdv))) (h : spLw K vs H Q E) :
    ∃ t, PSs (cxOf CX0 P w K mg base ["script", "deck", "turn", "columns", "bounds", "due", "kept", "told", "other", "at", "row", "here", "heard", "things", "thing", "go"] "law" (defScope sLw) f cdv A outer s H E).nox (defBody sLw) t ∧ t { nx := fun _ H' => Q .non H', rt := Q } (start ["script", "deck", "turn", "columns", "bounds", "due", "kept", "told", "other", "at", "row", "here", "heard", "things", "thing", "go"] vs) H := by
  obtain ⟨a, ns, rfl, hS, hl, q⟩ := h
  have nd := scLw.nd
  refine ⟨_, pss_cons (ps_set (i := 1) nd rfl (.inr rfl) (pe_own (C.dk.mono (by decide)) hr (pa_cons (pv 0) (pa_cons pe_int pa_nil))))
    (pss_cons (ps_for PassesOwn.never rfl (pi_range1 (by rfl) B.range (pa_cons pe_int pa_nil)) (pg_name (i := 2) nd rfl (.inl rfl))
      (pss_cons (ps_set (i := 3) nd rfl (.inr rfl) (pe_callTy call_tupF (by rfl) B.tuple boot_tuple (pa_cons (pe_own (C.nm.mono (by decide)) hr (pa_cons (pv 1) (pa_cons (pe_op op_add pe_int (pe_own (C.draw.mono (by decide)) hr (pa_cons (pv 1) (pa_cons pe_int pa_nil)))) pa_nil))) pa_nil)))
      (pss_cons (ps_set (i := 4) nd rfl (.inr rfl) (pe_own (C.lb.mono (by decide)) hr (pa_cons (pv 1) (pa_cons (pv 3) (pa_cons (pe_own (C.draw.mono (by decide)) hr (pa_cons (pv 1) (pa_cons pe_int pa_nil)))
          (pa_cons (pe_own (C.pick.mono (by decide)) hr (pa_cons (pv 1) (pa_cons (pe_lst (pa_cons pe_int (pa_cons pe_int (pa_cons pe_int (pa_cons pe_int (pa_cons (pe_op op_mul pe_int (pe_op op_pow pe_int pe_int)) pa_nil)))))) pa_nil))) pa_nil))))))
      (pss_cons (ps_par (i := 5) (j := 6) rfl nd rfl rfl (by decide) rfl rfl (pa_cons (pe_own (C.ti.mono (by decide)) hr (pa_cons (pv 3) (pa_cons (pv 4) pa_nil))) (pa_cons (pe_callB (call_repr hg (un65_of hr)) (by rfl) B.repr boot_repr (pa_cons (pe_tup (pa_cons (pv 3) (pa_cons (pv 4) pa_nil))) pa_nil)) pa_nil)) (by rfl))
      (pss_cons (ps_set (i := 7) nd rfl (.inl rfl) (pe_ifExp (pt_cmpR op_eq (pe_op op_mod (pv 2) pe_int) pe_int (nomark _)) (pe_own (C.cl.mono (by decide)) hr (pa_cons (pv 3) (pa_cons (pv 4) pa_nil))) (pe_ownC (C.clK.mono (by decide)) hr (pk_cons (pv 4) (pk_cons (pv 3) pk_nil)))))
      (pss_cons (ps_set (i := 8) nd rfl (.inl rfl) (pe_callTy call_tuple_of (by rfl) B.tuple boot_tuple (pa_cons (pe_own (C.order.mono (by decide)) hr (pa_cons (pv 1) (pa_cons (pe_op op_catA (pv 4) (pe_slice sl_tupA (pv 4) po_none (po_some pe_int))) pa_nil))) pa_nil)))
      (pss_cons (ps_if (pt_not (pt_val (pe_own ((C.sm 4).mono (by decide)) hr (pa_cons (pe_lst (pa_cons (pv 7) (pa_cons (pe_own (C.cl.mono (by decide)) hr (pa_cons (pv 3) (pa_cons (pv 8) pa_nil))) pa_nil))) (pa_cons (pe_lst (pa_cons (pv 5) (pa_cons (pv 5) pa_nil))) pa_nil))))) (pss_one (ps_ret pe_bl)) pss_nil)
      (Evl.pss_cut (ps_if (PW.pt (pw_and (pt_cmpR op_notN (pv 5) pe_non (nomark _)) (pw_and1 (pt_not (pt_val (pe_own ((C.sm 4).mono (by decide)) hr (pa_cons (pe_own (C.cl.mono (by decide)) hr (pa_cons (pv 3) (pa_cons (pe_revT (pv 5)) pa_nil))) (pa_cons (pv 5) pa_nil)))))))) (pss_one (ps_ret pe_bl)) pss_nil)
      (pss_cons (ps_for PassesOwn.never rfl (pi_enum (by rfl) B.enumerate (pa_cons (pe_own (C.rn.mono (by decide)) hr (pa_cons (pv 1) (pa_cons (pv 3) (pa_cons (pv 4) (pa_cons (pv 5) pa_nil))))) pa_nil)) (pg_tup rfl (pgs_cons (pg_name (i := 9) nd rfl (.inl rfl)) (pgs_cons (pg_name (i := 10) nd rfl (.inl rfl)) pgs_nil)))
        (pss_cons (ps_set (i := 11) nd rfl (.inl rfl) (pe_own (C.is.mono (by decide)) hr (pa_cons (pv 3) (pa_cons (pv 4) (pa_cons (pv 10) pa_nil)))))
        (pss_cons (ps_set (i := 12) nd rfl (.inl rfl) (pe_lst (pa_cons (pe_own (C.zn.mono (by decide)) hr (pa_cons (pv 3) (pa_cons (pv 4) (pa_cons (pv 10) pa_nil)))) (pa_cons (pe_ownC (C.znK.mono (by decide)) hr (pk_cons (pv 10) (pk_cons (pv 5) (pk_cons (pv 3) pk_nil)))) pa_nil))))
        (pss_one (ps_if (PW.pt (pw_or (pt_not (pt_val (pe_own ((C.sm 2).mono (by decide)) hr (pa_cons (pv 12) (pa_cons (pe_lst (pa_cons (pv 11) (pa_cons (pv 11) pa_nil))) pa_nil))))) (pw_or1 (pt_cmpR op_isnot_bl (pe_own (C.zn.mono (by decide)) hr (pa_cons (pv 3) (pa_cons pe_non (pa_cons (pv 10) pa_nil)))) pe_bl (nomark _))))) (pss_one (ps_ret pe_bl)) pss_nil)))))
      (Evl.pss_cut (ps_if (PW.pt (pw_and (pt_cmpR (op_notInT (un65_of hr)) (pv 5) (pe_tup (pa_cons pe_non (pa_cons (pe_tup pa_nil) pa_nil))) (by rfl)) (pw_and1 (pt_not (pt_val (pe_own (C.rt.mono (by decide)) hr (pa_cons (pv 1) (pa_cons (pv 3) (pa_cons (pv 4) (pa_cons (pv 5) pa_nil)))))))))) (pss_one (ps_ret pe_bl)) pss_nil)
      (pss_cons (ps_set (i := 13) nd rfl (.inl rfl) (pe_lst (pa_cons (pv 4) (pa_cons (pv 5) (pa_cons (pe_tup pa_nil) (pa_cons (pe_op op_catA (pv 4) (pe_tup (pa_cons (pe_tup (pa_cons (pe_ix ix_seq (pv 3) pe_int (fun _ _ => rfl)) (pa_cons (pe_ix ix_seq (pv 3) pe_int (fun _ _ => rfl)) (pa_cons pe_int pa_nil)))) pa_nil)))
          (pa_cons (pe_tup (pa_cons (pe_tup (pa_cons (pe_ix ix_seq (pv 3) pe_int (fun _ _ => rfl)) (pa_cons pe_str (pa_cons pe_int pa_nil)))) pa_nil)) (pa_cons (pe_callTy call_list_of (by rfl) B.list boot_list (pa_cons (pv 4) pa_nil)) pa_nil))))))))
      (pss_cons (ps_set (i := 13) nd rfl (.inl rfl) (pe_op op_cat (pv 13) (pe_lc (own := [("go", 15)]) (g := gName 15) (tt := tYes) (te := tCall (spBt K 3) [] E0 (tCons (tVar 1) (tCons (tVar 3) (tCons (tVar 4) tNil)))) rfl nd (pi_range1 (by rfl) B.range (pa_cons pe_int pa_nil)) (blkOk_by (N := nLw) (sc := defScope sLw) (by decide +kernel))
            (fun _ _ _ _ _ => pg_name (i := 15) nd rfl (.inl rfl)) (fun _ _ _ _ _ => pts_nil) (fun _ _ _ _ _ => pe_own C.bt hr (pa_cons (pv 1) (pa_cons (pv 3) (pa_cons (pv 4) pa_nil)))))))
      (pss_cons (ps_for PassesOwn.never rfl (pi_list (pe_op op_cat (pv 13) (pe_lst (pa_cons pe_int (pa_cons pe_str (pa_cons pe_dnewK (pa_cons (pe_tup (pa_cons (pe_tup pa_nil) pa_nil)) (pa_cons (pe_tup (pa_cons pe_str (pa_cons pe_str (pa_cons pe_int pa_nil)))) (pa_cons (pe_tup (pa_cons (pe_tup (pa_cons (pe_ix ix_seq (pv 3) pe_int (fun _ _ => rfl)) (pa_cons pe_str (pa_cons pe_bl pa_nil)))) pa_nil)) pa_nil))))))))) (pg_name (i := 14) nd rfl (.inl rfl))
        (pss_cons (ps_if (pt_cmpR op_isN (pv 14) pe_non (nomark _)) (pss_one ps_continue) pss_nil)
        (pss_cons (ps_set (i := 7) nd rfl (.inl rfl) (pe_ifExp (pt_cmpR op_eq (pe_own (C.draw.mono (by decide)) hr (pa_cons (pv 1) (pa_cons pe_int pa_nil))) pe_int (nomark _)) (pe_own (C.ab.mono (by decide)) hr (pa_cons (pv 3) (pa_cons (pv 14) pa_nil))) (pe_ownC (C.abK.mono (by decide)) hr (pk_cons (pv 14) (pk_cons (pv 3) pk_nil)))))
        (pss_one (ps_if (pt_not (pt_val (pe_own ((C.sm 1).mono (by decide)) hr (pa_cons (pv 7) (pa_cons (pe_own (C.so.mono (by decide)) hr (pa_cons (pv 3) (pa_cons (pv 14) pa_nil))) pa_nil))))) (pss_one (ps_ret pe_bl)) pss_nil)))))
      (pss_one (ps_if (pt_cmpR op_ne (pe_callB (call_repr hg (un65_of hr)) (by rfl) B.repr boot_repr (pa_cons (pe_tup (pa_cons (pv 3) (pa_cons (pv 4) pa_nil))) pa_nil)) (pv 6) (nomark _)) (pss_one (ps_ret pe_bl)) pss_nil)))))))))))))))
    (pss_one (ps_ret pe_bl))), ?_⟩
  -- the deck
  refine ⟨.ref a, rfl, a, ns, 91, rfl, hS, hl, by decide, by decide, fun d c H0 _ D0 => ?_⟩
  refine ⟨4, rfl, by decide, by decide, for_range (fun i σ H' => ∃ (y2 y3 y4 y5 y6 y7 y8 y9 y10 y11 y12 y13 y14 : Option V) (m : Nat), σ = Lt a d y2 y3 y4 y5 y6 y7 y8 y9 y10 y11 y12 y13 y14 ∧ Deck H' d c m ∧ m ≤ 400 * i) ?_ ?_ ?_⟩
  · exact ⟨none, none, none, none, none, none, none, none, none, none, none, none, none, 0, rfl, D0, Nat.le_refl _⟩
  · rintro i σ H1 hi ⟨y2, y3, y4, y5, y6, y7, y8, y9, y10, y11, y12, y13, y14, m, rfl, D1, hm⟩
    have hi4 : i < 4 := hi
    -- columns
    refine ⟨.ref d, rfl, .ref d, rfl, d, c, m, 3, rfl, D1, by omega, by omega, by omega, fun r1 H2 r1a r1b s2 D2 => ?_⟩
    refine ⟨1, r1, rfl, rfl, d, c, m + 1, 1 + r1, rfl, D2, by omega, by omega, by omega, fun l cs H3 s3 D3 _ el hC hS => ?_⟩
    refine ⟨l, cs.map V.str, rfl, SqL.of el, fun a2 ob ha2 hob => ?_⟩
    have A4 : Cols (upd H3 a2 (.frz ob (.tup (cs.map V.str)))) a2 cs := ⟨ob, upd_same, hob⟩
    have D4 : Deck (upd H3 a2 (.frz ob (.tup (cs.map V.str)))) d c (m + 1 + 10) := D3.keep (Sm.refl.new ha2)
    generalize upd H3 a2 (.frz ob (.tup (cs.map V.str))) = H4 at A4 D4
    have hle := hC.le
    -- bounds
    refine ⟨.ref d, rfl, .ref a2, rfl, .ref d, rfl, d, c, m + 1 + 10, 10, rfl, D4, by omega, by omega, by omega, fun rm H5 rm0 rm1 s5 D5 => ?_⟩
    have A5 := A4.sm s5 (A4.out D4)
    refine ⟨.ref d, rfl, 10, 8, rfl, rfl, ⟨by decide, by decide, by decide⟩, 5, _, rfl, rfl, .inl ⟨by decide, by decide⟩, (by show 5 ≤ sizeLine; decide), fun lp hlp => ?_⟩
    have s6 : Sm [] H5 (upd H5 lp (.lst [.int 3, .int 8, .int 8, .int 20, .int (5 * 10 ^ (8 : Int).toNat)])) := Sm.refl.new hlp
    have e6 : (upd H5 lp (.lst [.int 3, .int 8, .int 8, .int 20, .int (5 * 10 ^ (8 : Int).toNat)])) lp = some (.lst [.int 3, .int 8, .int 8, .int 20, .int (5 * 10 ^ (8 : Int).toNat)]) := upd_same
    have nlp := D5.outN hlp
    generalize upd H5 lp (.lst [.int 3, .int 8, .int 8, .int 20, .int (5 * 10 ^ (8 : Int).toNat)]) = H6 at s6 e6
    have D6 := D5.keep s6
    have A6 := A5.sm s6 (by simp)
    refine ⟨d, c, m + 1 + 10 + 1, .ref lp, _, rfl, D6, by omega, .inl ⟨lp, rfl, e6, nlp⟩, by simp, (by show 5 < 1073741824; decide), fun i7 x7 H7 hx7 s7 D7 => ?_⟩
    obtain ⟨far, rfl, f0, f1⟩ : ∃ far : Int, x7 = .int far ∧ 3 ≤ far ∧ far ≤ 500000000 := by
      have hm := List.mem_of_getElem? hx7
      simp only [List.mem_cons, List.not_mem_nil, or_false] at hm
      rcases hm with rfl | rfl | rfl | rfl | rfl
      · exact ⟨3, rfl, by decide, by decide⟩
      · exact ⟨8, rfl, by decide, by decide⟩
      · exact ⟨8, rfl, by decide, by decide⟩
      · exact ⟨20, rfl, by decide, by decide⟩
      · exact ⟨_, rfl, by decide, by decide⟩
    have A7 := A6.sm s7 (A6.out D6)
    refine ⟨d, c, a2, _, rm, far, cs, rfl, D7, by omega, A7, hC, rm0, by omega, f0, f1, fun b L m8 H8 s8 D8 hm8 hB8 hO hL9 hX => ?_⟩
    have A8 := A7.sm s8 (A7.out D7)
    have hT : Txs L := txs_of hS hO
    -- due, kept
    refine ⟨.ref a2, rfl, .ref b, rfl, a2, b, cs, L, rfl, A8.sq, hB8, hO, hC.ne, hle, fun v H9 s9 hv => ?_⟩
    have T9 : Tn H9 d c a2 b cs L v m8 := ⟨D8.keep s9, A8.sm s9 (by simp), hB8.kp s9.kp, hv⟩
    refine ⟨.ref a2, rfl, .ref b, rfl, (by show 2 ≤ sizeLine; decide), fun p10 hp10 => ?_⟩
    have s10 : Sm [] H9 (upd H9 p10 (.tup [.ref a2, .ref b])) := Sm.refl.new hp10
    have e10 : (upd H9 p10 (.tup [.ref a2, .ref b])) p10 = some (.tup [.ref a2, .ref b]) := upd_same
    generalize upd H9 p10 (.tup [.ref a2, .ref b]) = H10 at s10 e10
    have T10 := T9.keep s10
    have cb := cbD_ok hle hS (by omega) hT hX
    have rep : ∀ {H' : Hp} {p : Addr}, Cols H' a2 cs → Bds H' b L → H' p = some (.tup [.ref a2, .ref b]) → Dp K H' (.ref p) (cbD cs L) := fun hA hB e => .tup (SqT.of e) (.cons (.tup hA.sq (strs_dp cs)) (.cons hB.dp .nil))
    refine ⟨p10, cbD cs L, rfl, rep T10.cols T10.bds e10, cb.1, cb.2.1, cb.2.2.1, cb.2.2.2, _, _, rfl, ?_⟩
    -- told
    dsimp only
    refine seq_in (asg_in ?_)
    refine told_rd (cs := cs) (L := L) rfl rfl (fun Q hQ => ⟨_, rfl, _, 2, rfl, rfl, (show (0 : Int) < 2 by decide), rfl, _, rfl, hQ _⟩) T10.cols.sq T10.bds hO hle fun v11 H11 s11 hv11 => ?_
    have T11 := T10.keep s11
    -- other
    obtain ⟨bs, eb, hbs⟩ := id T11.bds
    refine ⟨.ref d, rfl, .ref b, rfl, .ref b, rfl, 2, rfl, ?_⟩
    refine cut_is eb fun b12 H12 s12 e12 => ?_
    have lcut := cutV_length bs none (some 2)
    have lbs := hbs.len
    refine cat_is (s12.keep eb) e12 (by omega) fun c13 H13 s13 e13 => ?_
    have T13 := (T11.keep s12).keep s13
    have s1113 := s12.trans s13
    refine ⟨d, c, c13, _, _, rfl, T13.deck, by rw [List.length_append]; omega, e13, by rw [List.length_append]; omega, fun ys l14 H14 hperm s14 _ el14 D14 => ?_⟩
    have T14 := T13.sm s14 D14
    refine ⟨l14, ys, rfl, .inl ⟨SqL.of el14, fun o15 ho15 => ?_⟩⟩
    have s15 : Sm [] H14 (upd H14 o15 (.tup ys)) := Sm.refl.new ho15
    have e15 : (upd H14 o15 (.tup ys)) o15 = some (.tup ys) := upd_same
    generalize upd H14 o15 (.tup ys) = H15 at s15 e15
    have T15 := T14.keep s15
    -- its triples
    obtain ⟨L', hB15, hmem⟩ : ∃ L' : List Tr, Bds H15 o15 L' ∧ ∀ t, t ∈ L' ↔ t ∈ L := by
      have k1115 : Kp H11 H15 := (s1113.kp.trans (s14.kpD T13.deck.nt)).trans s15.kp
      obtain ⟨hmap, hat⟩ := (hbs.kp k1115).map
      have hcutm : ∀ x ∈ cutV bs none (some 2), x ∈ bs := fun x hx => List.mem_of_mem_drop (List.mem_of_mem_take hx)
      have hy : ∀ x, x ∈ ys ↔ x ∈ bs := fun x => by
        rw [hperm.mem_iff, List.mem_append]
        exact ⟨fun h => h.elim id (hcutm x), .inl⟩
      refine ⟨ys.map (trOf H15), ⟨ys, e15, TrAll.of fun x hx => hat x ((hy x).mp hx)⟩, fun t => ?_⟩
      rw [← hmap, List.mem_map, List.mem_map]
      exact ⟨fun ⟨x, h1, h2⟩ => ⟨x, (hy x).mp h1, h2⟩, fun ⟨x, h1, h2⟩ => ⟨x, (hy x).mpr h1, h2⟩⟩
    have hv15 : BdsO H15 v11 (tightO cs L) := hv11.kp ((s1113.kp.trans (s14.kpD T13.deck.nt)).trans s15.kp)
    refine ⟨v11, rfl, .ref a2, rfl, .ref o15, rfl, a2, o15, cs, L', rfl, T15.cols.sq, hB15, fun t ht => bok_iff.mp hO t ((hmem t).mp ht), hle, fun v16 H16 s16 hv16 => ?_⟩
    rw [closed_same hO hmem] at hv16
    refine ⟨(by show 2 ≤ sizeLine; decide), fun p17 hp17 => ?_⟩
    have s17 : Sm [] H16 (upd H16 p17 (.lst [v11, v16])) := Sm.refl.new hp17
    have e17 : (upd H16 p17 (.lst [v11, v16])) p17 = some (.lst [v11, v16]) := upd_same
    generalize upd H16 p17 (.lst [v11, v16]) = H17 at s17 e17
    refine ⟨v, rfl, v, rfl, (by show 2 ≤ sizeLine; decide), fun p18 hp18 => ?_⟩
    have s18 : Sm [] H17 (upd H17 p18 (.lst [v, v])) := Sm.refl.new hp18
    have e18 : (upd H17 p18 (.lst [v, v])) p18 = some (.lst [v, v]) := upd_same
    generalize upd H17 p18 (.lst [v, v]) = H18 at s18 e18
    have s1618 := s17.trans s18
    have T18 := (T15.keep s16).keep s1618
    have al : Alk H18 3 (.ref p17) (.ref p18) := alk_two (s18.keep e17) e18 (alk_bdsO ((hv15.kp s16.kp).kp s1618.kp) T18.due) (alk_bdsO (hv16.kp s1618.kp) T18.due)
    refine ⟨.ref p17, .ref p18, 3, rfl, rfl, al, fun H19 s19 => ⟨_, rfl, ite2 (fun z => by cases z) fun _ => ?_⟩⟩
    have T19 := T18.keep s19
    -- through the rest of the turn
    obtain ⟨m14, hm14, T19⟩ : ∃ m14, m14 ≤ m + 100 ∧ Tn H19 d c a2 b cs L v m14 := ⟨_, by rw [List.length_append]; omega, T19⟩
    clear al e18 s18 e17 s17 s1618 T18 hv16 s16 hv15 hmem hB15 e15 s15 T15 el14 T14 D14 s14 hperm T13 e13 s13 e12 s12 s1113 hv11 T11 s11 e10 s10 T10 T9 s9 hv D8 A8 s8 D7 A7 s7
    clear hB8 hm8
    refine ⟨fun σ' H' => σ' = Lt a d (some (.int (0 + i))) (some (.ref a2)) (some (.ref b)) (some v) (some (.str (cbD cs L).shown)) (some v11) (some (.ref o15)) y9 y10 y11 y12 y13 y14 ∧ Tn H' d c a2 b cs L v m14, ?_, ?_⟩
    · rcases T19.due with ⟨_, hv⟩ | ⟨Z, z, hZ, hv, hB⟩
      · subst hv
        exact ⟨.non, rfl, rfl, _, rfl, ite2 (fun w => by simp at w) fun _ => ite2 (fun w => by cases w) fun _ => ⟨rfl, T19⟩⟩
      · subst hv
        refine ⟨.ref z, rfl, rfl, _, rfl, ite2 (fun _ => ?_) (fun w => absurd (by simp) w)⟩
        obtain ⟨zs, ez, hzs⟩ := id hB
        refine ⟨.ref a2, rfl, .ref z, rfl, z, zs, rfl, SqT.of ez, fun p20 hp20 => ?_⟩
        have s20 : Sm [] H19 (upd H19 p20 (.tup zs.reverse)) := Sm.refl.new hp20
        have e20 : (upd H19 p20 (.tup zs.reverse)) p20 = some (.tup zs.reverse) := upd_same
        generalize upd H19 p20 (.tup zs.reverse) = H20 at s20 e20
        have hz := zon_of hO hle hZ
        refine ⟨a2, p20, cs, Z.reverse, rfl, (T19.cols.sm s20 (by simp)).sq, ⟨_, e20, (hzs.kp s20.kp).rev⟩, fun t ht => bok_iff.mp hz.bok t (List.mem_reverse.mp ht), hle, fun v21 H21 s21 hv21 => ?_⟩
        rw [closed_rev hO hle hZ, ← hZ] at hv21
        have T21 := T19.keep (s20.trans s21)
        exact ⟨.ref z, rfl, v21, .ref z, 3, rfl, rfl, (alk_bdsO hv21 T21.due).up, fun H22 s22 => ⟨_, rfl, ite2 (fun w => by cases w) fun _ => ⟨rfl, T21.keep s22⟩⟩⟩
    clear T19
    rintro σ H20 ⟨rfl, T20⟩
    -- the rows
    refine ⟨.ref d, rfl, .ref a2, rfl, .ref b, rfl, v, rfl, d, c, a2, b, v, m14, cs, L, tightO cs L, rfl, T20.deck, by omega, T20.cols, hC, hS, T20.bds, by omega, T20.due, zno_of hO hle, fun l21 vs21 m21 H21 s21 D21 hm21 _ el21 hlen21 hrows21 => ⟨l21, vs21, rfl, SqL.of el21, ?_⟩⟩
    have T21 := T20.sm s21 D21
    refine for_it (walk_enum (xs := vs21)) (fun j σ H' => ∃ (y9 y10 y11 y12 : Option V), σ = Lt a d (some (.int (0 + i))) (some (.ref a2)) (some (.ref b)) (some v) (some (.str (cbD cs L).shown)) (some v11) (some (.ref o15)) y9 y10 y11 y12 y13 y14 ∧ Tn H' d c a2 b cs L v m21 ∧ H' l21 = some (.lst vs21) ∧ ∀ v ∈ vs21, RowIs H' cs.length v) ?_ ?_ ?_ ?_
    · exact ⟨y9, y10, y11, y12, rfl, T21, el21, hrows21⟩
    · rintro j σ H' _ ⟨_, _, _, _, rfl, _, e, _⟩
      exact SqL.of e
    · rintro j x σ H22 H23 hj ⟨y9, y10, y11, y12, rfl, T22, el22, hrows⟩ ⟨Tp, x1, x2, rfl, hTp, rfl, hx1, hx2⟩
      have s23 : Sm [] H22 (upd H22 Tp (.tup [x1, x2])) := Sm.refl.new hTp
      have e23 : (upd H22 Tp (.tup [x1, x2])) Tp = some (.tup [x1, x2]) := upd_same
      generalize upd H22 Tp (.tup [x1, x2]) = H23 at s23 e23
      have T23 := T22.keep s23
      obtain ⟨p, r, rfl, er, hlr⟩ := (hrows x2 (List.mem_of_getElem? hx2)).kp s23.kp
      refine ⟨Tp, _, rfl, SqT.of e23, rfl, _, _, rfl, _, _, rfl, rfl, ?_⟩
      -- here
      refine ⟨.ref a2, rfl, .ref b, rfl, .ref p, rfl, a2, b, p, cs, r, L, rfl, T23.cols, T23.bds, er, hlr.symm, bok_iff.mp hO, ?_⟩
      -- heard
      refine ⟨.ref a2, rfl, .ref b, rfl, .ref p, rfl, a2, .ref b, p, cs, r, some L, rfl, T23.cols.sq, hC.nd, .inr ⟨L, b, rfl, rfl, T23.bds⟩, er, hlr.symm, ⟨bok_iff.mp hO, by omega⟩, fun H24 s24 => ?_⟩
      have T24 := T23.keep s24
      refine ⟨.ref p, rfl, v, rfl, .ref a2, rfl, a2, v, p, cs, r, tightO cs L, rfl, T24.cols.sq, hC.nd, T24.due, s24.keep er, hlr.symm, zoneOk_of hO hle, fun H25 s25 => ?_⟩
      have T25 := T24.keep s25
      refine ⟨(by show 2 ≤ sizeLine; decide), fun l26 hl26 => ?_⟩
      have z1 : zoneB cs r (some L) = inB cs r L := rfl
      rw [z1, zone_row hO hle r]
      have s26 : Sm [] H25 (upd H25 l26 (.lst [.bl (inB cs r L), .bl (inB cs r L)])) := Sm.refl.new hl26
      have e26 : (upd H25 l26 (.lst [.bl (inB cs r L), .bl (inB cs r L)])) l26 = some (.lst ([inB cs r L, inB cs r L].map V.bl)) := upd_same
      generalize upd H25 l26 (.lst [.bl (inB cs r L), .bl (inB cs r L)]) = H26 at s26 e26
      have T26 := T25.keep s26
      refine ⟨.ref l26, rfl, .bl (inB cs r L), rfl, .bl (inB cs r L), rfl, (by show 2 ≤ sizeLine; decide), fun l27 hl27 => ?_⟩
      have s27 : Sm [] H26 (upd H26 l27 (.lst [.bl (inB cs r L), .bl (inB cs r L)])) := Sm.refl.new hl27
      have e27 : (upd H26 l27 (.lst [.bl (inB cs r L), .bl (inB cs r L)])) l27 = some (.lst ([inB cs r L, inB cs r L].map V.bl)) := upd_same
      generalize upd H26 l27 (.lst [.bl (inB cs r L), .bl (inB cs r L)]) = H27 at s27 e27
      refine ⟨.ref l26, .ref l27, 1, rfl, rfl, alk_bls (s27.keep e26) e27, fun H28 s28 => ⟨_, rfl, ite2 (fun w => by cases w) fun _ => ?_⟩⟩
      have s2328 : Sm [] H23 H28 := (((s24.trans s25).trans s26).trans s27).trans s28
      have T28 := T23.keep s2328
      refine ⟨.ref a2, rfl, .ref p, rfl, a2, .non, p, cs, r, none, rfl, T28.cols.sq, hC.nd, .inl ⟨rfl, rfl⟩, s2328.keep er, hlr.symm, trivial, fun H29 s29 => ?_⟩
      refine ⟨false, false, rfl, rfl, _, rfl, ite2 (fun w => by simp at w) fun _ => ?_⟩
      have s2229 : Sm [] H22 H29 := (s23.trans s2328).trans s29
      exact ⟨_, _, _, _, rfl, T28.keep s29, s2229.keep el22, fun v hv => (hrows v hv).kp s2229.kp⟩
    clear T21 hrows21 el21 T20 s21 D21
    rintro σ H22 ⟨y9, y10, y11, y12, rfl, T22, _, _⟩
    -- the end
    refine ⟨fun σ' H' => σ' = Lt a d (some (.int (0 + i))) (some (.ref a2)) (some (.ref b)) (some v) (some (.str (cbD cs L).shown)) (some v11) (some (.ref o15)) y9 y10 y11 y12 y13 y14 ∧ ∃ m', m' ≤ m21 + 1 ∧ Tn H' d c a2 b cs L v m', ?_, ?_⟩
    · refine ⟨v, rfl, Nat.zero_le _, fun p6 hp6 => ?_⟩
      have s6 : Sm [] H22 (upd H22 p6 (.tup [])) := Sm.refl.new hp6
      have e6 : (upd H22 p6 (.tup [])) p6 = some (.tup []) := upd_same
      generalize upd H22 p6 (.tup []) = H6 at s6 e6
      refine ⟨(by show 2 ≤ sizeLine; decide), fun p7 hp7 => ?_⟩
      have s7 : Sm [] H6 (upd H6 p7 (.tup [.non, .ref p6])) := Sm.refl.new hp7
      have e7 : (upd H6 p7 (.tup [.non, .ref p6])) p7 = some (.tup [.non, .ref p6]) := upd_same
      generalize upd H6 p7 (.tup [.non, .ref p6]) = H7 at s7 e7
      have dp2 : Dp K H7 (.ref p7) (.tuple [.none, .tuple []]) := .tup (SqT.of e7) (.cons .non (.cons (.tup (SqT.of (s7.keep e6)) .nil) .nil))
      have T7 := T22.keep (s6.trans s7)
      rcases T7.due with ⟨_, hv⟩ | ⟨Z, z, hZ, hv, hB⟩
      · subst hv
        refine ⟨.none, _, .non, dp2, by decide, by decide, _, rfl, ?_⟩
        have : (!([PyData.none, .tuple []].any fun z => PyData.eqv z .none)) = false := by simp [PyData.eqv]
        rw [this]
        exact ite2 (fun w => by cases w) fun _ => ite2 (fun w => by cases w) fun _ => ⟨rfl, m21, by omega, T7⟩
      · subst hv
        have hz := zon_of hO hle hZ
        refine ⟨.tuple (Z.map trD), _, hB.dp, dp2, (txs_of hS hz.bok).shaped, by decide, _, rfl, ?_⟩
        have : (!([PyData.none, .tuple []].any fun z => PyData.eqv z (.tuple (Z.map trD)))) = !Z.isEmpty := by
          cases Z <;> simp [PyData.eqv, PyData.eqvAll]
        rw [this]
        cases hze : Z.isEmpty with
        | true => exact ite2 (fun w => by cases w) fun _ => ite2 (fun w => by cases w) fun _ => ⟨rfl, m21, by omega, T7⟩
        | false =>
          refine ite2 (fun _ => ?_) fun w => absurd rfl w
          refine ⟨.ref d, rfl, .ref a2, rfl, .ref b, rfl, .ref z, rfl, d, c, a2, b, z, m21, cs, L, Z, rfl, T7.deck, by omega, T7.cols, hC, T7.bds, by omega, hB, hz, (fun q => by rw [q] at hze; cases hze), fun H8 s8 D8 => ⟨_, rfl, ite2 (fun w => by cases w) fun _ => ⟨rfl, m21 + 1, Nat.le_refl _, T7.sm s8 D8⟩⟩⟩
    clear T22
    rintro σ H30 ⟨rfl, m30, hm30, T30⟩
    -- things
    refine seq_in (asg_in ?_)
    have N30 := T30.deck.nts
    obtain ⟨pv5, hpv5⟩ := av_bdsO (D := [d, c]) T30.due fun Z e => (zon_of hO hle e).len
    refine list_rd (D := [d, c]) (n := 6) N30 (things_av N30 rfl rfl rfl T30.cols.sq hC.ne T30.bds (by omega) hpv5) (by decide) fun l31 xs31 ds31 H31 s31 hl31 e31 h31 hlen31 => ?_
    have T31 := T30.keep s31
    have n31 : l31 ∉ [d, c] := T30.deck.outN hl31
    refine ⟨.ref l31, rfl, 9, rfl, by decide, by decide, fun D32 hD32 => ?_⟩
    have n32 : D32 ∉ [d, c] := T31.deck.outN hD32
    have ne32 : l31 ≠ D32 := ne_of_none e31 hD32
    have T32 : Tn (upd H31 D32 (.lst [])) d c a2 b cs L v m30 := T31.keep (Sm.refl.new hD32)
    have sml : Sml 2 (.tuple (L.map trD)) := sml_bds (by omega) hT hX
    refine lc_it (walk_range (lo := 0) (n := 9)) (fun j H' => ∃ acc ds m', H' D32 = some (.lst acc) ∧ acc.length = j ∧ AvAll [d, c] H' acc ds ∧ Tn H' d c a2 b cs L v m' ∧ m' ≤ m30 + 6 * j ∧ H' l31 = some (.lst xs31) ∧ AvAll [d, c] H' xs31 ds31) ?_ ?_ ?_ ?_
    · refine ⟨[], [], m30, upd_same, rfl, .nil, T32, Nat.le_refl _, ?_, h31.keep (Sm.refl.new hD32) T31.deck.nts⟩
      rw [upd_ne ne32]
      exact e31
    · intros
      trivial
    · rintro j x H' H'' hj ⟨acc, ds, m', g1, g2, g3, g4, g5, g6, g7⟩ ⟨rfl, rfl⟩
      refine ⟨rfl, .ref d, rfl, .ref a2, rfl, .ref b, rfl, d, c, a2, m', .ref b, cs, _, 2, rfl, by decide, rfl, g4.deck, by omega, g4.cols, hC.ne, av_bds g4.bds (by omega), sml, fun r p' n' H36 s36 D36 hn36 hr36 => ?_⟩
      have N := g4.deck.nts
      have T36 := g4.sm s36 D36
      have e36 : H36 D32 = some (.lst acc) := s36 _ _ g1 n32
      have al36 : H36 l31 = some (.lst xs31) := s36 _ _ g6 n31
      refine ⟨acc, e36, small16 (by omega), acc ++ [r], ds ++ [p'], n', upd_same, by rw [List.length_append, g2]; rfl, ?_, T36.put e36 n32, by omega, ?_, ?_⟩
      · exact AvAll.putL e36 ((g3.sm s36 N.nt).app (.cons hr36 .nil))
      · rw [upd_ne ne32]
        exact al36
      · exact AvAll.putL e36 (g7.sm s36 N.nt)
    rintro H33 ⟨acc, ds, m33, g1, g2, g3, T33, hm33, g6, g7⟩
    have big : (100 : Nat) ≤ sizeLine := by decide
    refine ⟨l31, D32, xs31, acc, rfl, rfl, g6, g1, by omega, fun p33 hp33 => ?_⟩
    have s34 : Sm [] H33 (upd H33 p33 (.lst (xs31 ++ acc))) := Sm.refl.new hp33
    have e34 : (upd H33 p33 (.lst (xs31 ++ acc))) p33 = some (.lst (xs31 ++ acc)) := upd_same
    generalize upd H33 p33 (.lst (xs31 ++ acc)) = H34 at s34 e34
    have T34 := T33.keep s34
    have h34 := (g7.app g3).keep s34 T33.deck.nts
    clear g7 g3 g6 g1 T32 T31 h31 e31 s31
    -- the loop over them
    refine grow1 (D := [d, c]) (n := 6) T34.deck.nts rfl e34 h34 (by rw [List.length_append]; omega) (more_av T34.deck.nts rfl T34.cols.sq hC.ne) (by decide) fun p35 ys35 es35 H35 s35 hp35 e35 h35 hlen35 => ⟨p35, rfl, ⟨ys35, SqL.of e35⟩, ?_⟩
    have T35 := T34.keep s35
    have n35 : p35 ∉ [d, c] := T34.deck.outN hp35
    refine for_list (xs := ys35) (fun j σ H' => ∃ (y7 y14 : Option V) (m' : Nat), σ = Lt a d (some (.int (0 + i))) (some (.ref a2)) (some (.ref b)) (some v) (some (.str (cbD cs L).shown)) y7 (some (.ref o15)) y9 y10 y11 y12 (some (.ref p33)) y14 ∧ Tn H' d c a2 b cs L v m' ∧ m' ≤ m33 + j ∧ H' p35 = some (.lst ys35) ∧ AvAll [d, c] H' ys35 es35) ?_ ?_ ?_ ?_
    · exact ⟨some v11, y14, m33, rfl, T35, Nat.le_refl _, e35, h35⟩
    · rintro j σ H' _ ⟨_, _, _, rfl, _, _, e, _⟩
      exact SqL.of e
    · rintro j x σ H36 hx ⟨y7, y14, m36, rfl, T36, hm36, e36, h36⟩
      have jl : j < ys35.length := (List.getElem?_eq_some_iff.mp hx).1
      obtain ⟨p, hp, hxv⟩ := h36.get hx
      refine ⟨x, rfl, rfl, _, rfl, ite2 (fun _ => ?_) (fun _ => ?_)⟩
      · exact ⟨_, _, m36, rfl, T36, by omega, e36, h36⟩
      refine next_in ?_
      dsimp only
      refine seq_in (asg_in ?_)
      have N36 := T36.deck.nts
      refine ab_rd rfl rfl (fun H' => Sm [d, c] H36 H' ∧ Deck H' d c (m36 + 1)) (fun Q hQ => ⟨.ref d, rfl, d, c, m36, 2, rfl, T36.deck, by omega, by omega, by omega, fun r H' _ _ s D => ⟨rfl, _, rfl, hQ _ _ ⟨s, D⟩⟩⟩) fun H37 hM => ?_
      obtain ⟨s37, D37⟩ := hM
      have T37 := T36.sm s37 D37
      have v37 := hxv.sm s37 N36.nt
      have N37 := D37.nts
      refine ⟨a2, x, cs, [d, c], p, rfl, T37.cols.sq, v37, N37, fun H38 s38 => ?_⟩
      have T38 := T37.keep s38
      have v38 := v37.keep s38 N37.nt
      refine ⟨.bl (areB cs p), rfl, .ref a2, rfl, x, rfl, a2, x, cs, [d, c], p, rfl, T38.cols.sq, hC.ne, hle, v38, N37.sm s38, fun H39 s39 => ?_⟩
      refine ⟨.bl (areB cs p), .bl (areB cs p), 0, rfl, rfl, ⟨rfl, rfl⟩, fun H40 s40 => ⟨_, rfl, ite2 (fun w => by cases w) fun _ => ?_⟩⟩
      have s3740 := (s38.trans s39).trans s40
      exact ⟨_, _, m36 + 1, rfl, T37.keep s3740, by omega, s3740.keep (s37 _ _ e36 n35), (h36.sm s37 N36.nt).keep s3740 N37⟩
    rintro σ H41 ⟨y7, y14, m41, rfl, T41, hm41, _, _⟩
    -- repr again
    refine ⟨.ref a2, rfl, .ref b, rfl, (by show 2 ≤ sizeLine; decide), fun p42 hp42 => ?_⟩
    have s42 : Sm [] H41 (upd H41 p42 (.tup [.ref a2, .ref b])) := Sm.refl.new hp42
    have e42 : (upd H41 p42 (.tup [.ref a2, .ref b])) p42 = some (.tup [.ref a2, .ref b]) := upd_same
    generalize upd H41 p42 (.tup [.ref a2, .ref b]) = H42 at s42 e42
    have T42 := T41.keep s42
    refine ⟨p42, cbD cs L, rfl, rep T42.cols T42.bds e42, cb.1, cb.2.1, cb.2.2.1, cb.2.2.2, .str (cbD cs L).shown, rfl, rfl, _, rfl, ite2 (fun w => by simp at w) fun _ => ?_⟩
    exact ⟨_, _, _, _, _, _, _, _, _, _, _, _, _, m41, rfl, T42.deck, by omega⟩
  · rintro σ H' ⟨y2, y3, y4, y5, y6, y7, y8, y9, y10, y11, y12, y13, y14, m, rfl, D1, hm⟩
    exact q H'
end
end K91

namespace K91
open PySem PySem.Spec PyProof.Rows L2
/-- what a def promises, wherever nothing is being shown -/
def FnG (P : Program) (w : World) (K : PySem.W.Frag) (mg : Str → Option Value) (base : Heap) (k : Nat) (f : Addr) (fd : FuncData) (ps : List Str) (sp : Sp) : Prop :=
  ∀ (A : Around) (outer : List Env) (s : Shared) (H : Hp) (args : Args) (us : List Value) (vs : List V) (Q : VK) (E : XK), A.guards = some [] → Room k A → Env0 P w K mg base A outer s H → BindsTo s fd args (ps.zip us) → Vals vs us → sp vs H Q E →
    codeAny (model P w) A (.call (.ref f) args) (CR CX0 outer P w H s Q E) s
section
variable {P : Program} {w : World} {K : PySem.W.Frag} {mg : Str → Option Value} {base : Heap}
/-- by its body -/
theorem fnG_of {x qual : Str} {st : Stmt} {f : Addr} {fd : FuncData} {N ps : List Str} {k : Nat} {sp : Sp} (F : Fun K x qual st f fd) (S : FnScope N ps (defScope st)) (len : ∀ vs H Q E, sp vs H Q E → vs.length = ps.length)
    (hb : ∀ (cdv : Value) (A : Around) (outer : List Env) (s : Shared) (H : Hp) (vs : List V) (Q : VK) (E : XK), A.guards = some [] → Room k (A.deeper (envOfC qual (defScope st) s.heap.objs.size f cdv)) → sp vs H Q E →
      ∃ t, PSs (cxOf CX0 P w K mg base N qual (defScope st) f cdv A outer s H E).nox (defBody st) t ∧ t { nx := fun _ H' => Q .non H', rt := Q } (start N vs) H) : FnG P w K mg base (k + 1) f fd ps sp := by
  obtain ⟨oc, od, kV, doc, pm, an, cdv, ct, osl, rfl, lk, hcd⟩ := F.ex
  intro A outer s H args us vs Q E hg hr e0 hbd r hsp
  have hl := len _ _ _ _ hsp
  have keepB : ∀ b o, base.get? b = some o → s.heap.get? b = some o := fun b o e => (e0.bs b o e).1
  have KX : K.In s.heap := e0.mod.kin.keeps keepB
  have kinds : ∀ y ∈ ps.zip us, (defScope st).names.lookup y.1 = some .local ∨ ((defScope st).names.lookup y.1 = some .cell ∧ ((cellsFrom (s.heap.objs.size + 1) (defScope st).names []).lookup y.1).isSome = true) := fun ⟨n, v⟩ hy =>
    (S.par n (List.of_mem_zip hy).1).elim .inl fun q => .inr ⟨q, PySem.W.cellsFrom_some _ _ _ (.inl q)⟩
  refine codeAny_call_function hr.depth (KX _ _ lk) rfl S.co S.gen rfl (PySem.W.codeRec_of KX hcd) (hbd _ _ _ _ (wpAny_newFunctionEnv_cells S.kind kinds fun env he s1 x => ?_))
  subst he
  refine ⟨(e0.mod.nolimit.keeps keepB).keeps x.toInCall.keep, codeAny_func ?_⟩
  obtain ⟨t, ht, hq⟩ := hb cdv A outer s H vs Q E hg (hr.deeper _) hsp
  refine wpAny_mono (ht.nox.run [] s1 (start N vs) H _ (inv_start S hr.hd e0 hl r x) hq) (fun fl s' hs => ?_) fun e s' hs => hs
  cases fl with
  | ret u =>
    obtain ⟨v, σ', H', J, rv, q⟩ := hs
    exact ⟨v, H', J.os, J.bare, J.base, J.hok, rv, q⟩
  | next =>
    obtain ⟨σ', H', J, q⟩ := hs
    exact ⟨V.non, H', J.os, J.bare, J.base, J.hok, rfl, q⟩
  | brk =>
    obtain ⟨_, _, _, q⟩ := hs
    exact False.elim q
  | cont =>
    obtain ⟨_, _, _, q⟩ := hs
    exact False.elim q
/-- the heap of which the script alone is known -/
def only (a : Addr) (o : HO) : Hp := fun b => if b = a then some o else none
/-- from a heap in which at most the script is tracked -/
theorem callG_core {k : Nat} {fa a : Addr} {fd : FuncData} {x : Str} {sp : Sp} {mb : Str → Option Value} {s₁ : Shared} {vs : List Value} {ns : List Int} (KX : K.In s₁.heap) (hns : s₁.heap.Ns mainGlobals mg) (hbn : s₁.heap.Ns builtinsNs mb)
    (hbb : ∀ x : Str, x ≠ "__name__" → mb x = bootBuiltins x) (hlim : s₁.heap.NoLimit) (hgen : s₁.gens = #[]) (ha : s₁.heap.get? a = some { cls := .type "list", data := .seq vs.toArray }) (hr : Room k callerA)
    (F : ∀ base : Heap, K.In base → base.Ns mainGlobals mg → FnG P w K mg base k fa fd [x] sp) (hbind : ∀ (s : Shared) (u : Value), BindsTo s fd ⟨[u], []⟩ [(x, u)]) (H : Hp) (hok : HOk P w H s₁.heap) (hA : ∀ b, H b ≠ none → b = a ∧ K.lookup a = none)
    (hfr : ∀ b, H b = none ∨ ∃ o xs, H b = some (.frz o (.lst xs))) (hsp : sp [.ref a] H (fun v _ => v = .bl true) fun _ _ _ => False) :
    codeAny (model P w) callerA (.call (.ref fa) ⟨[.ref a], []⟩) (fun r s' => r = .ok (.ret (.bool true)) ∧ OldK s₁.heap s'.heap ∧ s'.os = s₁.os ∧ AllBare s'.gens) s₁ := by
  -- what is not the script's own list is not hidden
  have see : ∀ {b : Addr} {o : Obj}, s₁.heap.get? b = some o → (b ≠ a ∨ H b = none) → (hidT s₁.heap H).get? b = some o := fun {b o} e n => by
    refine hidT_get e ?_
    rcases n with n | n
    · exact Classical.byContradiction fun z => n (hA b z).1
    · exact n
  have nsK : ∀ {b : Addr} {m : Str → Option Value}, s₁.heap.Ns b m → (hidT s₁.heap H).Ns b m := fun {b m} ⟨o, es, ep, e, d, rest⟩ => by
    refine ⟨o, es, ep, see e (.inl fun z => ?_), d, rest⟩
    subst z
    rw [ha] at e
    cases e
    cases (show Data.seq vs.toArray _ = Data.dict es ep from d)
  have kin : K.In (hidT s₁.heap H) := fun b o e => see (KX b o e) (by
    by_cases z : H b = none
    · exact .inr z
    · obtain ⟨h1, h2⟩ := hA b z
      rw [h1, h2] at e
      cases e)
  obtain ⟨mc, l1, l2⟩ := hlim
  have e0 : Env0 P w K mg (hidT s₁.heap H) callerA [] s₁ H := ⟨rfl, ⟨kin, nsK hns, ⟨mb, nsK hbn, hbb⟩, ⟨mc, nsK l1, l2⟩⟩, fun b o e => of_hidT e, Nat.le_of_eq (hidT_size _ _), trivial, fun b hb => absurd (show b ∈ ([] : List Addr) from hb) (by simp), hok, .of_eq hgen⟩
  refine codeAny_mono (F _ kin (nsK hns) callerA [] s₁ H ⟨[.ref a], []⟩ [.ref a] [.ref a] _ _ rfl hr e0 (hbind s₁ (.ref a)) (.cons rfl .nil) hsp) fun r s' h => ?_
  match r, h with
  | .error e, h => exact False.elim h
  | .ok .next, h => exact False.elim h
  | .ok .brk, h => exact False.elim h
  | .ok .cont, h => exact False.elim h
  | .ok (.ret u), h =>
    obtain ⟨v, H', os, bare, un, hok', rv, q⟩ := h
    cases (show v = V.bl true from q)
    cases (show u = Value.bool true from rv)
    refine ⟨rfl, OldK.of_keep fun b o e => ?_, os, bare⟩
    rcases hfr b with z | ⟨ob, xs, z⟩
    · exact un.keep b o e z (fun w => absurd (show b ∈ ([] : List Addr) from w) (by simp)) (by simp)
    · have e1 := (hok b _ z).1
      have e2 := (hok' b _ (un.frzs b ob _ z)).1
      rw [e] at e1
      cases e1
      exact e2
/-- the law's call at the heap behind the top -/
theorem callG {k : Nat} {fa a : Addr} {fd : FuncData} {x : Str} {sp : Sp} {mb : Str → Option Value} {s₁ : Shared} {vs : List Value} {ns : List Int} (KX : K.In s₁.heap) (hns : s₁.heap.Ns mainGlobals mg) (hbn : s₁.heap.Ns builtinsNs mb)
    (hbb : ∀ x : Str, x ≠ "__name__" → mb x = bootBuiltins x) (hlim : s₁.heap.NoLimit) (hgen : s₁.gens = #[]) (ha : s₁.heap.get? a = some { cls := .type "list", data := .seq vs.toArray }) (hi : IntsAre vs ns) (hl : ns.length ≤ sizeLine) (hr : Room k callerA)
    (F : ∀ base : Heap, K.In base → base.Ns mainGlobals mg → FnG P w K mg base k fa fd [x] sp) (hbind : ∀ (s : Shared) (u : Value), BindsTo s fd ⟨[u], []⟩ [(x, u)])
    (hsp : ∀ H : Hp, SqL K H a (ns.map V.int) → sp [.ref a] H (fun v _ => v = .bl true) fun _ _ _ => False) :
    codeAny (model P w) callerA (.call (.ref fa) ⟨[.ref a], []⟩) (fun r s' => r = .ok (.ret (.bool true)) ∧ OldK s₁.heap s'.heap ∧ s'.os = s₁.os ∧ AllBare s'.gens) s₁ := by
  have rv := vals_ints hi
  cases hk : K.lookup a with
  | some o =>
    have e := KX a o hk
    rw [ha] at e
    cases e
    refine callG_core (ns := ns) KX hns hbn hbb hlim hgen ha hr F hbind (fun _ => none) (fun b u z => by cases (show (none : Option HO) = some u from z)) (fun b z => absurd rfl z) (fun _ => .inl rfl) (hsp _ (.inr ⟨_, vs.toArray, _, hk, rfl, rfl, rfl, ?_, by simpa using rv⟩))
    rw [List.size_toArray, hi.length]
    exact hl
  | none =>
    have at_ : ∀ b, only a (.frz { cls := .type "list", data := .seq vs.toArray } (.lst (ns.map V.int))) b = if b = a then some (.frz { cls := .type "list", data := .seq vs.toArray } (.lst (ns.map V.int))) else none := fun b => rfl
    refine callG_core (ns := ns) KX hns hbn hbb hlim hgen ha hr F hbind (only a (.frz { cls := .type "list", data := .seq vs.toArray } (.lst (ns.map V.int)))) (fun b u z => ?_) (fun b z => ?_) (fun b => ?_) (hsp _ (.inl (.inr ⟨_, if_pos rfl⟩)))
    · rw [at_] at z
      by_cases hb : b = a
      · rw [if_pos hb] at z
        cases z
        subst hb
        exact ⟨ha, by rw [List.length_map]; exact hl, vs, _, rv, ha⟩
      · rw [if_neg hb] at z
        cases z
    · refine ⟨Classical.byContradiction fun hb => z ?_, hk⟩
      rw [at_, if_neg hb]
    · rw [at_]
      by_cases hb : b = a
      · rw [if_pos hb]
        exact .inr ⟨_, _, rfl⟩
      · rw [if_neg hb]
        exact .inl rfl
end
/-- the goal that k_head leaves -/
theorem walkG {l : PySem.W.OpenLaw} {n k : Nat} {q : Program} {loose : List Str} {XP : (Str → Option Value) → Heap → Prop} {YP : World → Heap → Prop} {d : DefRec} {K : Params → PySem.W.Frag} {sp : PySem.W.Frag → Sp} {x : Str}
    (hn : l.most = some n) (hn2 : n ≤ sizeLine) (hdf : d.params.defaults = []) (hr : Room k callerA) (hY : ∀ (w : World) (h : Heap), YP w h → (K w.params).In h)
    (F : ∀ (w : World) (mg : Str → Option Value) (fa : Addr) (h : Heap), (K w.params).In h → h.Ns mainGlobals mg → mg d.name = some (.ref fa) →
      ∃ fd : FuncData, (∀ (s : Shared) (u : Value), BindsTo s fd ⟨[u], []⟩ [(x, u)]) ∧ ∀ base : Heap, (K w.params).In base → base.Ns mainGlobals mg → FnG l.prog w (K w.params) mg base k fa fd [x] (sp (K w.params)))
    (hsp : ∀ (K : PySem.W.Frag) (H : Hp) (a : Addr) (ns : List Int), ns.length ≤ n → SqL K H a (ns.map V.int) → sp K [.ref a] H (fun v _ => v = .bl true) fun _ _ _ => False) :
    PySem.W.WalkO q loose XP YP l.row.toRowW d [] (fun f vs => PySem.call f vs) := by
  refine Att.attach_call hn hdf fun w s₀ s₁ mg mb fa o pm cd doc a vs ns G Y ho hd hcd hmg hobj hints hlen hg => ?_
  have KX := hY w _ Y
  obtain ⟨fd, hb, hF⟩ := F w mg fa _ KX G.T.g hmg
  exact callG KX G.T.g G.T.b G.T.builtins G.T.nolimit hg hobj hints (Nat.le_trans hlen hn2) hr hF hb fun H hS => hsp _ H a ns hlen hS
end K91

namespace K91
open PySem PySem.Spec PyProof.Rows L2
/-- where a def stands -/
structure At (K : PySem.W.Frag) (nm : Str) (st : Stmt) (f : Addr) (oc kV doc pm cdv ct : Value) (od an : Option Addr) (osl : Array (Option Value)) : Prop where
  a : PySem.W.nsIn K mainGlobals nm = some (some (.ref f))
  l : K.lookup f = some ⟨oc, od, .func (PySem.W.fnOf nm nm (defArgs st) (defBody st) (defScope st) .none kV doc pm an cdv ct), osl⟩
  c : PySem.W.codeIn K cdv nm = true
  k : PySem.W.keepIn K (.ref f) = true
section
variable {P : Program} {w : World} {K : PySem.W.Frag} {h : Heap} {mg : Str → Option Value} {base : Heap} {nm : Str} {st : Stmt} {f : Addr} {oc kV doc pm cdv ct : Value} {od an : Option Addr} {osl : Array (Option Value)}
theorem At.fn (A : At K nm st f oc kV doc pm cdv ct od an osl) : Fun K nm nm st f (PySem.W.fnOf nm nm (defArgs st) (defBody st) (defScope st) .none kV doc pm an cdv ct) := fun_mk A.l A.c A.k
theorem At.gl (A : At K nm st f oc kV doc pm cdv ct od an osl) (X : K.In h) (G : h.Ns mainGlobals mg) : mg nm = some (.ref f) := PySem.W.mg_of X G A.a
theorem At.cal {ps : List Str} {k : Nat} {sp : Sp} (A : At K nm st f oc kV doc pm cdv ct od an osl) (X : K.In h) (G : h.Ns mainGlobals mg) (hb : Binds K (PySem.W.fnOf nm nm (defArgs st) (defBody st) (defScope st) .none kV doc pm an cdv ct) ps [])
    (F : FnOk P w K mg base CX0 k f (PySem.W.fnOf nm nm (defArgs st) (defBody st) (defScope st) .none kV doc pm an cdv ct) ps sp) : Cal P w K mg base nm ps k sp := ⟨⟨f, _, F, A.gl X G, A.k, hb⟩⟩
theorem kb2 {fd : FuncData} {p q : Str} (H : ∀ b c : Value, bindArgs fd ⟨[], [q, p].zip [b, c]⟩ = pure ([p, q].zip [c, b])) : KBinds K fd [p, q] [q, p] kw2 kw2 := by
  refine ⟨fun s us ws _ hl => ?_, fun {vs us zs ws} r rz => ?_⟩
  · match us, ws, hl with
    | [], [b, c], _ => exact .of_eq (H b c)
    | [], [], hl => cases hl
    | [], [_], hl => cases hl
    | [], _ :: _ :: _ :: _, hl => cases hl
    | _ :: _, _, hl => cases hl
  · cases r with
    | cons _ _ => exact .nil
    | nil =>
      cases rz with
      | nil => exact .nil
      | cons h1 rz =>
        cases rz with
        | nil => exact .nil
        | cons h2 rz =>
          cases rz with
          | cons _ _ => exact .nil
          | nil => exact .cons h2 (.cons h1 .nil)
theorem kb3 {fd : FuncData} {p q r : Str} (H : ∀ a b c : Value, bindArgs fd ⟨[], [p, r, q].zip [a, b, c]⟩ = pure ([p, q, r].zip [a, c, b])) : KBinds K fd [p, q, r] [p, r, q] kw3 kw3 := by
  refine ⟨fun s us ws _ hl => ?_, fun {vs us zs ws} r rz => ?_⟩
  · match us, ws, hl with
    | [], [a, b, c], _ => exact .of_eq (H a b c)
    | [], [], hl => cases hl
    | [], [_], hl => cases hl
    | [], [_, _], hl => cases hl
    | [], _ :: _ :: _ :: _ :: _, hl => cases hl
    | _ :: _, _, hl => cases hl
  · cases r with
    | cons _ _ => exact .nil
    | nil =>
      cases rz with
      | nil => exact .nil
      | cons h1 rz =>
        cases rz with
        | nil => exact .nil
        | cons h2 rz =>
          cases rz with
          | nil => exact .nil
          | cons h3 rz =>
            cases rz with
            | cons _ _ => exact .nil
            | nil => exact .cons h1 (.cons h3 (.cons h2 .nil))
theorem kbV {fd : FuncData} {p q r : Str} (H : ∀ a b c : Value, bindArgs fd ⟨[], [r, q, p].zip [a, b, c]⟩ = pure ([p, q, r].zip [c, b, a])) : KBinds K fd [p, q, r] [r, q, p] kwV kwV := by
  refine ⟨fun s us ws _ hl => ?_, fun {vs us zs ws} r rz => ?_⟩
  · match us, ws, hl with
    | [], [a, b, c], _ => exact .of_eq (H a b c)
    | [], [], hl => cases hl
    | [], [_], hl => cases hl
    | [], [_, _], hl => cases hl
    | [], _ :: _ :: _ :: _ :: _, hl => cases hl
    | _ :: _, _, hl => cases hl
  · cases r with
    | cons _ _ => exact .nil
    | nil =>
      cases rz with
      | nil => exact .nil
      | cons h1 rz =>
        cases rz with
        | nil => exact .nil
        | cons h2 rz =>
          cases rz with
          | nil => exact .nil
          | cons h3 rz =>
            cases rz with
            | cons _ _ => exact .nil
            | nil => exact .cons h3 (.cons h2 (.cons h1 .nil))
end
theorem all_mk {P : Program} {w : World} {K : PySem.W.Frag} {h : Heap} {mg : Str → Option Value} {fa : Addr} (X : K.In h) (G : h.Ns mainGlobals mg) (hfa : mg "law" = some (.ref fa))
    {f1 : Addr} {oc1 kV1 dc1 pm1 cd1 ct1 : Value} {od1 an1 : Option Addr} {sl1 : Array (Option Value)} (a1 : PySem.W.nsIn K mainGlobals "is_integer" = some (some (.ref f1))) (l1 : K.lookup f1 = some ⟨oc1, od1, .func (PySem.W.fnOf "is_integer" "is_integer" (defArgs sInt) (defBody sInt) (defScope sInt) .none kV1 dc1 pm1 an1 cd1 ct1), sl1⟩) (c1 : PySem.W.codeIn K cd1 "is_integer" = true) (k1 : PySem.W.keepIn K (.ref f1) = true)
    {f5 : Addr} {oc5 kV5 dc5 pm5 cd5 ct5 : Value} {od5 an5 : Option Addr} {sl5 : Array (Option Value)} (a5 : PySem.W.nsIn K mainGlobals "is_bound" = some (some (.ref f5))) (l5 : K.lookup f5 = some ⟨oc5, od5, .func (PySem.W.fnOf "is_bound" "is_bound" (defArgs sIb) (defBody sIb) (defScope sIb) .none kV5 dc5 pm5 an5 cd5 ct5), sl5⟩) (c5 : PySem.W.codeIn K cd5 "is_bound" = true) (k5 : PySem.W.keepIn K (.ref f5) = true)
    {f6 : Addr} {oc6 kV6 dc6 pm6 cd6 ct6 : Value} {od6 an6 : Option Addr} {sl6 : Array (Option Value)} (a6 : PySem.W.nsIn K mainGlobals "are_bounds" = some (some (.ref f6))) (l6 : K.lookup f6 = some ⟨oc6, od6, .func (PySem.W.fnOf "are_bounds" "are_bounds" (defArgs sAb) (defBody sAb) (defScope sAb) .none kV6 dc6 pm6 an6 cd6 ct6), sl6⟩) (c6 : PySem.W.codeIn K cd6 "are_bounds" = true) (k6 : PySem.W.keepIn K (.ref f6) = true)
    {f7 : Addr} {oc7 kV7 dc7 pm7 cd7 ct7 : Value} {od7 an7 : Option Addr} {sl7 : Array (Option Value)} (a7 : PySem.W.nsIn K mainGlobals "closed_table" = some (some (.ref f7))) (l7 : K.lookup f7 = some ⟨oc7, od7, .func (PySem.W.fnOf "closed_table" "closed_table" (defArgs sCt) (defBody sCt) (defScope sCt) .none kV7 dc7 pm7 an7 cd7 ct7), sl7⟩) (c7 : PySem.W.codeIn K cd7 "closed_table" = true) (k7 : PySem.W.keepIn K (.ref f7) = true)
    {f8 : Addr} {oc8 kV8 dc8 pm8 cd8 ct8 : Value} {od8 an8 : Option Addr} {sl8 : Array (Option Value)} (a8 : PySem.W.nsIn K mainGlobals "closed" = some (some (.ref f8))) (l8 : K.lookup f8 = some ⟨oc8, od8, .func (PySem.W.fnOf "closed" "closed" (defArgs sCl) (defBody sCl) (defScope sCl) .none kV8 dc8 pm8 an8 cd8 ct8), sl8⟩) (c8 : PySem.W.codeIn K cd8 "closed" = true) (k8 : PySem.W.keepIn K (.ref f8) = true)
    {f9 : Addr} {oc9 kV9 dc9 pm9 cd9 ct9 : Value} {od9 an9 : Option Addr} {sl9 : Array (Option Value)} (a9 : PySem.W.nsIn K mainGlobals "value_in" = some (some (.ref f9))) (l9 : K.lookup f9 = some ⟨oc9, od9, .func (PySem.W.fnOf "value_in" "value_in" (defArgs sVi) (defBody sVi) (defScope sVi) .none kV9 dc9 pm9 an9 cd9 ct9), sl9⟩) (c9 : PySem.W.codeIn K cd9 "value_in" = true) (k9 : PySem.W.keepIn K (.ref f9) = true)
    {f10 : Addr} {oc10 kV10 dc10 pm10 cd10 ct10 : Value} {od10 an10 : Option Addr} {sl10 : Array (Option Value)} (a10 : PySem.W.nsIn K mainGlobals "is_in_zone" = some (some (.ref f10))) (l10 : K.lookup f10 = some ⟨oc10, od10, .func (PySem.W.fnOf "is_in_zone" "is_in_zone" (defArgs sZn) (defBody sZn) (defScope sZn) .none kV10 dc10 pm10 an10 cd10 ct10), sl10⟩) (c10 : PySem.W.codeIn K cd10 "is_in_zone" = true) (k10 : PySem.W.keepIn K (.ref f10) = true)
    {f12 : Addr} {oc12 kV12 dc12 pm12 cd12 ct12 : Value} {od12 an12 : Option Addr} {sl12 : Array (Option Value)} (a12 : PySem.W.nsIn K mainGlobals "_law_deck" = some (some (.ref f12))) (l12 : K.lookup f12 = some ⟨oc12, od12, .func (PySem.W.fnOf "_law_deck" "_law_deck" (defArgs sDeck) (defBody sDeck) (defScope sDeck) .none kV12 dc12 pm12 an12 cd12 ct12), sl12⟩) (c12 : PySem.W.codeIn K cd12 "_law_deck" = true) (k12 : PySem.W.keepIn K (.ref f12) = true)
    {f13 : Addr} {oc13 kV13 dc13 pm13 cd13 ct13 : Value} {od13 an13 : Option Addr} {sl13 : Array (Option Value)} (a13 : PySem.W.nsIn K mainGlobals "_law_draw" = some (some (.ref f13))) (l13 : K.lookup f13 = some ⟨oc13, od13, .func (PySem.W.fnOf "_law_draw" "_law_draw" (defArgs sDraw) (defBody sDraw) (defScope sDraw) .none kV13 dc13 pm13 an13 cd13 ct13), sl13⟩) (c13 : PySem.W.codeIn K cd13 "_law_draw" = true) (k13 : PySem.W.keepIn K (.ref f13) = true)
    {f14 : Addr} {oc14 kV14 dc14 pm14 cd14 ct14 : Value} {od14 an14 : Option Addr} {sl14 : Array (Option Value)} (a14 : PySem.W.nsIn K mainGlobals "_law_pick" = some (some (.ref f14))) (l14 : K.lookup f14 = some ⟨oc14, od14, .func (PySem.W.fnOf "_law_pick" "_law_pick" (defArgs sPick) (defBody sPick) (defScope sPick) .none kV14 dc14 pm14 an14 cd14 ct14), sl14⟩) (c14 : PySem.W.codeIn K cd14 "_law_pick" = true) (k14 : PySem.W.keepIn K (.ref f14) = true)
    {f15 : Addr} {oc15 kV15 dc15 pm15 cd15 ct15 : Value} {od15 an15 : Option Addr} {sl15 : Array (Option Value)} (a15 : PySem.W.nsIn K mainGlobals "_law_order" = some (some (.ref f15))) (l15 : K.lookup f15 = some ⟨oc15, od15, .func (PySem.W.fnOf "_law_order" "_law_order" (defArgs sOrder) (defBody sOrder) (defScope sOrder) .none kV15 dc15 pm15 an15 cd15 ct15), sl15⟩) (c15 : PySem.W.codeIn K cd15 "_law_order" = true) (k15 : PySem.W.keepIn K (.ref f15) = true)
    {f16 : Addr} {oc16 kV16 dc16 pm16 cd16 ct16 : Value} {od16 an16 : Option Addr} {sl16 : Array (Option Value)} (a16 : PySem.W.nsIn K mainGlobals "_law_names" = some (some (.ref f16))) (l16 : K.lookup f16 = some ⟨oc16, od16, .func (PySem.W.fnOf "_law_names" "_law_names" (defArgs sNm) (defBody sNm) (defScope sNm) .none kV16 dc16 pm16 an16 cd16 ct16), sl16⟩) (c16 : PySem.W.codeIn K cd16 "_law_names" = true) (k16 : PySem.W.keepIn K (.ref f16) = true)
    {f17 : Addr} {oc17 kV17 dc17 pm17 cd17 ct17 : Value} {od17 an17 : Option Addr} {sl17 : Array (Option Value)} (a17 : PySem.W.nsIn K mainGlobals "_law_same" = some (some (.ref f17))) (l17 : K.lookup f17 = some ⟨oc17, od17, .func (PySem.W.fnOf "_law_same" "_law_same" (defArgs sSm) (defBody sSm) (defScope sSm) .none kV17 dc17 pm17 an17 cd17 ct17), sl17⟩) (c17 : PySem.W.codeIn K cd17 "_law_same" = true) (k17 : PySem.W.keepIn K (.ref f17) = true)
    {f18 : Addr} {oc18 kV18 dc18 pm18 cd18 ct18 : Value} {od18 an18 : Option Addr} {sl18 : Array (Option Value)} (a18 : PySem.W.nsIn K mainGlobals "_law_table_of" = some (some (.ref f18))) (l18 : K.lookup f18 = some ⟨oc18, od18, .func (PySem.W.fnOf "_law_table_of" "_law_table_of" (defArgs sTo) (defBody sTo) (defScope sTo) .none kV18 dc18 pm18 an18 cd18 ct18), sl18⟩) (c18 : PySem.W.codeIn K cd18 "_law_table_of" = true) (k18 : PySem.W.keepIn K (.ref f18) = true)
    {f19 : Addr} {oc19 kV19 dc19 pm19 cd19 ct19 : Value} {od19 an19 : Option Addr} {sl19 : Array (Option Value)} (a19 : PySem.W.nsIn K mainGlobals "_law_tight" = some (some (.ref f19))) (l19 : K.lookup f19 = some ⟨oc19, od19, .func (PySem.W.fnOf "_law_tight" "_law_tight" (defArgs sTi) (defBody sTi) (defScope sTi) .none kV19 dc19 pm19 an19 cd19 ct19), sl19⟩) (c19 : PySem.W.codeIn K cd19 "_law_tight" = true) (k19 : PySem.W.keepIn K (.ref f19) = true)
    {f20 : Addr} {oc20 kV20 dc20 pm20 cd20 ct20 : Value} {od20 an20 : Option Addr} {sl20 : Array (Option Value)} (a20 : PySem.W.nsIn K mainGlobals "_law_value" = some (some (.ref f20))) (l20 : K.lookup f20 = some ⟨oc20, od20, .func (PySem.W.fnOf "_law_value" "_law_value" (defArgs sVl) (defBody sVl) (defScope sVl) .none kV20 dc20 pm20 an20 cd20 ct20), sl20⟩) (c20 : PySem.W.codeIn K cd20 "_law_value" = true) (k20 : PySem.W.keepIn K (.ref f20) = true)
    {f21 : Addr} {oc21 kV21 dc21 pm21 cd21 ct21 : Value} {od21 an21 : Option Addr} {sl21 : Array (Option Value)} (a21 : PySem.W.nsIn K mainGlobals "_law_is_in" = some (some (.ref f21))) (l21 : K.lookup f21 = some ⟨oc21, od21, .func (PySem.W.fnOf "_law_is_in" "_law_is_in" (defArgs sIs) (defBody sIs) (defScope sIs) .none kV21 dc21 pm21 an21 cd21 ct21), sl21⟩) (c21 : PySem.W.codeIn K cd21 "_law_is_in" = true) (k21 : PySem.W.keepIn K (.ref f21) = true)
    {f22 : Addr} {oc22 kV22 dc22 pm22 cd22 ct22 : Value} {od22 an22 : Option Addr} {sl22 : Array (Option Value)} (a22 : PySem.W.nsIn K mainGlobals "_law_bounds" = some (some (.ref f22))) (l22 : K.lookup f22 = some ⟨oc22, od22, .func (PySem.W.fnOf "_law_bounds" "_law_bounds" (defArgs sLb) (defBody sLb) (defScope sLb) .none kV22 dc22 pm22 an22 cd22 ct22), sl22⟩) (c22 : PySem.W.codeIn K cd22 "_law_bounds" = true) (k22 : PySem.W.keepIn K (.ref f22) = true)
    {f23 : Addr} {oc23 kV23 dc23 pm23 cd23 ct23 : Value} {od23 an23 : Option Addr} {sl23 : Array (Option Value)} (a23 : PySem.W.nsIn K mainGlobals "_law_end_row" = some (some (.ref f23))) (l23 : K.lookup f23 = some ⟨oc23, od23, .func (PySem.W.fnOf "_law_end_row" "_law_end_row" (defArgs sEr) (defBody sEr) (defScope sEr) .none kV23 dc23 pm23 an23 cd23 ct23), sl23⟩) (c23 : PySem.W.codeIn K cd23 "_law_end_row" = true) (k23 : PySem.W.keepIn K (.ref f23) = true)
    {f24 : Addr} {oc24 kV24 dc24 pm24 cd24 ct24 : Value} {od24 an24 : Option Addr} {sl24 : Array (Option Value)} (a24 : PySem.W.nsIn K mainGlobals "_law_is_end_right" = some (some (.ref f24))) (l24 : K.lookup f24 = some ⟨oc24, od24, .func (PySem.W.fnOf "_law_is_end_right" "_law_is_end_right" (defArgs sRt) (defBody sRt) (defScope sRt) .none kV24 dc24 pm24 an24 cd24 ct24), sl24⟩) (c24 : PySem.W.codeIn K cd24 "_law_is_end_right" = true) (k24 : PySem.W.keepIn K (.ref f24) = true)
    {f25 : Addr} {oc25 kV25 dc25 pm25 cd25 ct25 : Value} {od25 an25 : Option Addr} {sl25 : Array (Option Value)} (a25 : PySem.W.nsIn K mainGlobals "_law_are_bounds_so" = some (some (.ref f25))) (l25 : K.lookup f25 = some ⟨oc25, od25, .func (PySem.W.fnOf "_law_are_bounds_so" "_law_are_bounds_so" (defArgs sSo) (defBody sSo) (defScope sSo) .none kV25 dc25 pm25 an25 cd25 ct25), sl25⟩) (c25 : PySem.W.codeIn K cd25 "_law_are_bounds_so" = true) (k25 : PySem.W.keepIn K (.ref f25) = true)
    {f26 : Addr} {oc26 kV26 dc26 pm26 cd26 ct26 : Value} {od26 an26 : Option Addr} {sl26 : Array (Option Value)} (a26 : PySem.W.nsIn K mainGlobals "_law_odd" = some (some (.ref f26))) (l26 : K.lookup f26 = some ⟨oc26, od26, .func (PySem.W.fnOf "_law_odd" "_law_odd" (defArgs sOd) (defBody sOd) (defScope sOd) .none kV26 dc26 pm26 an26 cd26 ct26), sl26⟩) (c26 : PySem.W.codeIn K cd26 "_law_odd" = true) (k26 : PySem.W.keepIn K (.ref f26) = true)
    {f27 : Addr} {oc27 kV27 dc27 pm27 cd27 ct27 : Value} {od27 an27 : Option Addr} {sl27 : Array (Option Value)} (a27 : PySem.W.nsIn K mainGlobals "_law_bent" = some (some (.ref f27))) (l27 : K.lookup f27 = some ⟨oc27, od27, .func (PySem.W.fnOf "_law_bent" "_law_bent" (defArgs sBt) (defBody sBt) (defScope sBt) .none kV27 dc27 pm27 an27 cd27 ct27), sl27⟩) (c27 : PySem.W.codeIn K cd27 "_law_bent" = true) (k27 : PySem.W.keepIn K (.ref f27) = true)
    {f28 : Addr} {oc28 kV28 dc28 pm28 cd28 ct28 : Value} {od28 an28 : Option Addr} {sl28 : Array (Option Value)} (a28 : PySem.W.nsIn K mainGlobals "_law_rows_near" = some (some (.ref f28))) (l28 : K.lookup f28 = some ⟨oc28, od28, .func (PySem.W.fnOf "_law_rows_near" "_law_rows_near" (defArgs sRn) (defBody sRn) (defScope sRn) .none kV28 dc28 pm28 an28 cd28 ct28), sl28⟩) (c28 : PySem.W.codeIn K cd28 "_law_rows_near" = true) (k28 : PySem.W.keepIn K (.ref f28) = true)
    {f29 : Addr} {oc29 kV29 dc29 pm29 cd29 ct29 : Value} {od29 an29 : Option Addr} {sl29 : Array (Option Value)} (a29 : PySem.W.nsIn K mainGlobals "law" = some (some (.ref f29))) (l29 : K.lookup f29 = some ⟨oc29, od29, .func (PySem.W.fnOf "law" "law" (defArgs sLw) (defBody sLw) (defScope sLw) .none kV29 dc29 pm29 an29 cd29 ct29), sl29⟩) (c29 : PySem.W.codeIn K cd29 "law" = true) (k29 : PySem.W.keepIn K (.ref f29) = true)
    {tN tP : Tok} (gN : PySem.W.nsIn K mainGlobals "NOTHING" = some (some (.str ("" : Str) tN))) (gP : PySem.W.nsIn K mainGlobals "BOUND_PARTS" = some (some (.int 3 tP)))
    (z_isinstance : PySem.W.nsIn K mainGlobals "isinstance" = some none)
    (z_int : PySem.W.nsIn K mainGlobals "int" = some none)
    (z_bool : PySem.W.nsIn K mainGlobals "bool" = some none)
    (z_tuple : PySem.W.nsIn K mainGlobals "tuple" = some none)
    (z_list : PySem.W.nsIn K mainGlobals "list" = some none)
    (z_dict : PySem.W.nsIn K mainGlobals "dict" = some none)
    (z_str : PySem.W.nsIn K mainGlobals "str" = some none)
    (z_len : PySem.W.nsIn K mainGlobals "len" = some none)
    (z_all : PySem.W.nsIn K mainGlobals "all" = some none)
    (z_min : PySem.W.nsIn K mainGlobals "min" = some none)
    (z_max : PySem.W.nsIn K mainGlobals "max" = some none)
    (z_abs : PySem.W.nsIn K mainGlobals "abs" = some none)
    (z_sorted : PySem.W.nsIn K mainGlobals "sorted" = some none)
    (z_zip : PySem.W.nsIn K mainGlobals "zip" = some none)
    (z_range : PySem.W.nsIn K mainGlobals "range" = some none)
    (z_repr : PySem.W.nsIn K mainGlobals "repr" = some none)
    (z_enumerate : PySem.W.nsIn K mainGlobals "enumerate" = some none)
    : ∃ fd : FuncData, (∀ (s : Shared) (v : Value), BindsTo s fd ⟨[v], []⟩ [("script", v)]) ∧ ∀ base : Heap, K.In base → base.Ns mainGlobals mg → FnG P w K mg base 7 fa fd ["script"] (spLw K) := by
  have e := hfa.symm.trans (PySem.W.mg_of X G a29)
  obtain rfl : f29 = fa := (Value.ref.inj (Option.some.inj e)).symm
  have B : Bn mg := ⟨PySem.W.mg_none_of X G z_isinstance, PySem.W.mg_none_of X G z_int, PySem.W.mg_none_of X G z_bool, PySem.W.mg_none_of X G z_tuple, PySem.W.mg_none_of X G z_list, PySem.W.mg_none_of X G z_dict, PySem.W.mg_none_of X G z_str, PySem.W.mg_none_of X G z_len, PySem.W.mg_none_of X G z_all, PySem.W.mg_none_of X G z_min, PySem.W.mg_none_of X G z_max, PySem.W.mg_none_of X G z_abs, PySem.W.mg_none_of X G z_sorted, PySem.W.mg_none_of X G z_zip, PySem.W.mg_none_of X G z_range, PySem.W.mg_none_of X G z_repr, PySem.W.mg_none_of X G z_enumerate⟩
  have N : Gn mg := ⟨⟨tN, PySem.W.mg_of X G gN⟩, ⟨tP, PySem.W.mg_of X G gP⟩⟩
  have A1 : At K "is_integer" sInt f1 oc1 kV1 dc1 pm1 cd1 ct1 od1 an1 sl1 := ⟨a1, l1, c1, k1⟩
  have A5 : At K "is_bound" sIb f5 oc5 kV5 dc5 pm5 cd5 ct5 od5 an5 sl5 := ⟨a5, l5, c5, k5⟩
  have A6 : At K "are_bounds" sAb f6 oc6 kV6 dc6 pm6 cd6 ct6 od6 an6 sl6 := ⟨a6, l6, c6, k6⟩
  have A7 : At K "closed_table" sCt f7 oc7 kV7 dc7 pm7 cd7 ct7 od7 an7 sl7 := ⟨a7, l7, c7, k7⟩
  have A8 : At K "closed" sCl f8 oc8 kV8 dc8 pm8 cd8 ct8 od8 an8 sl8 := ⟨a8, l8, c8, k8⟩
  have A9 : At K "value_in" sVi f9 oc9 kV9 dc9 pm9 cd9 ct9 od9 an9 sl9 := ⟨a9, l9, c9, k9⟩
  have A10 : At K "is_in_zone" sZn f10 oc10 kV10 dc10 pm10 cd10 ct10 od10 an10 sl10 := ⟨a10, l10, c10, k10⟩
  have A12 : At K "_law_deck" sDeck f12 oc12 kV12 dc12 pm12 cd12 ct12 od12 an12 sl12 := ⟨a12, l12, c12, k12⟩
  have A13 : At K "_law_draw" sDraw f13 oc13 kV13 dc13 pm13 cd13 ct13 od13 an13 sl13 := ⟨a13, l13, c13, k13⟩
  have A14 : At K "_law_pick" sPick f14 oc14 kV14 dc14 pm14 cd14 ct14 od14 an14 sl14 := ⟨a14, l14, c14, k14⟩
  have A15 : At K "_law_order" sOrder f15 oc15 kV15 dc15 pm15 cd15 ct15 od15 an15 sl15 := ⟨a15, l15, c15, k15⟩
  have A16 : At K "_law_names" sNm f16 oc16 kV16 dc16 pm16 cd16 ct16 od16 an16 sl16 := ⟨a16, l16, c16, k16⟩
  have A17 : At K "_law_same" sSm f17 oc17 kV17 dc17 pm17 cd17 ct17 od17 an17 sl17 := ⟨a17, l17, c17, k17⟩
  have A18 : At K "_law_table_of" sTo f18 oc18 kV18 dc18 pm18 cd18 ct18 od18 an18 sl18 := ⟨a18, l18, c18, k18⟩
  have A19 : At K "_law_tight" sTi f19 oc19 kV19 dc19 pm19 cd19 ct19 od19 an19 sl19 := ⟨a19, l19, c19, k19⟩
  have A20 : At K "_law_value" sVl f20 oc20 kV20 dc20 pm20 cd20 ct20 od20 an20 sl20 := ⟨a20, l20, c20, k20⟩
  have A21 : At K "_law_is_in" sIs f21 oc21 kV21 dc21 pm21 cd21 ct21 od21 an21 sl21 := ⟨a21, l21, c21, k21⟩
  have A22 : At K "_law_bounds" sLb f22 oc22 kV22 dc22 pm22 cd22 ct22 od22 an22 sl22 := ⟨a22, l22, c22, k22⟩
  have A23 : At K "_law_end_row" sEr f23 oc23 kV23 dc23 pm23 cd23 ct23 od23 an23 sl23 := ⟨a23, l23, c23, k23⟩
  have A24 : At K "_law_is_end_right" sRt f24 oc24 kV24 dc24 pm24 cd24 ct24 od24 an24 sl24 := ⟨a24, l24, c24, k24⟩
  have A25 : At K "_law_are_bounds_so" sSo f25 oc25 kV25 dc25 pm25 cd25 ct25 od25 an25 sl25 := ⟨a25, l25, c25, k25⟩
  have A26 : At K "_law_odd" sOd f26 oc26 kV26 dc26 pm26 cd26 ct26 od26 an26 sl26 := ⟨a26, l26, c26, k26⟩
  have A27 : At K "_law_bent" sBt f27 oc27 kV27 dc27 pm27 cd27 ct27 od27 an27 sl27 := ⟨a27, l27, c27, k27⟩
  have A28 : At K "_law_rows_near" sRn f28 oc28 kV28 dc28 pm28 cd28 ct28 od28 an28 sl28 := ⟨a28, l28, c28, k28⟩
  have A29 : At K "law" sLw f29 oc29 kV29 dc29 pm29 cd29 ct29 od29 an29 sl29 := ⟨a29, l29, c29, k29⟩
  have b1 : Binds K (PySem.W.fnOf "is_integer" "is_integer" (defArgs sInt) (defBody sInt) (defScope sInt) .none kV1 dc1 pm1 an1 cd1 ct1) ["thing"] [] := A1.fn.binds (ps := ["thing"]) fun _ _ _ _ _ _ us hl => match us, hl with | [_], _ => rfl
  have b5 : Binds K (PySem.W.fnOf "is_bound" "is_bound" (defArgs sIb) (defBody sIb) (defScope sIb) .none kV5 dc5 pm5 an5 cd5 ct5) ["columns", "thing"] [] := A5.fn.binds (ps := ["columns", "thing"]) fun _ _ _ _ _ _ us hl => match us, hl with | [_, _], _ => rfl
  have b6 : Binds K (PySem.W.fnOf "are_bounds" "are_bounds" (defArgs sAb) (defBody sAb) (defScope sAb) .none kV6 dc6 pm6 an6 cd6 ct6) ["columns", "thing"] [] := A6.fn.binds (ps := ["columns", "thing"]) fun _ _ _ _ _ _ us hl => match us, hl with | [_, _], _ => rfl
  have b7 : Binds K (PySem.W.fnOf "closed_table" "closed_table" (defArgs sCt) (defBody sCt) (defScope sCt) .none kV7 dc7 pm7 an7 cd7 ct7) ["columns", "bounds"] [] := A7.fn.binds (ps := ["columns", "bounds"]) fun _ _ _ _ _ _ us hl => match us, hl with | [_, _], _ => rfl
  have b8 : Binds K (PySem.W.fnOf "closed" "closed" (defArgs sCl) (defBody sCl) (defScope sCl) .none kV8 dc8 pm8 an8 cd8 ct8) ["columns", "bounds"] [] := A8.fn.binds (ps := ["columns", "bounds"]) fun _ _ _ _ _ _ us hl => match us, hl with | [_, _], _ => rfl
  have b9 : Binds K (PySem.W.fnOf "value_in" "value_in" (defArgs sVi) (defBody sVi) (defScope sVi) .none kV9 dc9 pm9 an9 cd9 ct9) ["worths", "name"] [] := A9.fn.binds (ps := ["worths", "name"]) fun _ _ _ _ _ _ us hl => match us, hl with | [_, _], _ => rfl
  have b10 : Binds K (PySem.W.fnOf "is_in_zone" "is_in_zone" (defArgs sZn) (defBody sZn) (defScope sZn) .none kV10 dc10 pm10 an10 cd10 ct10) ["columns", "zone", "values"] [] := A10.fn.binds (ps := ["columns", "zone", "values"]) fun _ _ _ _ _ _ us hl => match us, hl with | [_, _, _], _ => rfl
  have b12 : Binds K (PySem.W.fnOf "_law_deck" "_law_deck" (defArgs sDeck) (defBody sDeck) (defScope sDeck) .none kV12 dc12 pm12 an12 cd12 ct12) ["script", "salt"] [] := A12.fn.binds (ps := ["script", "salt"]) fun _ _ _ _ _ _ us hl => match us, hl with | [_, _], _ => rfl
  have b13 : Binds K (PySem.W.fnOf "_law_draw" "_law_draw" (defArgs sDraw) (defBody sDraw) (defScope sDraw) .none kV13 dc13 pm13 an13 cd13 ct13) ["deck", "ways"] [] := A13.fn.binds (ps := ["deck", "ways"]) fun _ _ _ _ _ _ us hl => match us, hl with | [_, _], _ => rfl
  have b14 : Binds K (PySem.W.fnOf "_law_pick" "_law_pick" (defArgs sPick) (defBody sPick) (defScope sPick) .none kV14 dc14 pm14 an14 cd14 ct14) ["deck", "some"] [] := A14.fn.binds (ps := ["deck", "some"]) fun _ _ _ _ _ _ us hl => match us, hl with | [_, _], _ => rfl
  have b15 : Binds K (PySem.W.fnOf "_law_order" "_law_order" (defArgs sOrder) (defBody sOrder) (defScope sOrder) .none kV15 dc15 pm15 an15 cd15 ct15) ["deck", "some"] [] := A15.fn.binds (ps := ["deck", "some"]) fun _ _ _ _ _ _ us hl => match us, hl with | [_, _], _ => rfl
  have b16 : Binds K (PySem.W.fnOf "_law_names" "_law_names" (defArgs sNm) (defBody sNm) (defScope sNm) .none kV16 dc16 pm16 an16 cd16 ct16) ["deck", "many"] [] := A16.fn.binds (ps := ["deck", "many"]) fun _ _ _ _ _ _ us hl => match us, hl with | [_, _], _ => rfl
  have b17 : Binds K (PySem.W.fnOf "_law_same" "_law_same" (defArgs sSm) (defBody sSm) (defScope sSm) .none kV17 dc17 pm17 an17 cd17 ct17) ["told", "due"] [] := A17.fn.binds (ps := ["told", "due"]) fun _ _ _ _ _ _ us hl => match us, hl with | [_, _], _ => rfl
  have b18 : Binds K (PySem.W.fnOf "_law_table_of" "_law_table_of" (defArgs sTo) (defBody sTo) (defScope sTo) .none kV18 dc18 pm18 an18 cd18 ct18) ["columns", "bounds"] [] := A18.fn.binds (ps := ["columns", "bounds"]) fun _ _ _ _ _ _ us hl => match us, hl with | [_, _], _ => rfl
  have b19 : Binds K (PySem.W.fnOf "_law_tight" "_law_tight" (defArgs sTi) (defBody sTi) (defScope sTi) .none kV19 dc19 pm19 an19 cd19 ct19) ["columns", "bounds"] [] := A19.fn.binds (ps := ["columns", "bounds"]) fun _ _ _ _ _ _ us hl => match us, hl with | [_, _], _ => rfl
  have b20 : Binds K (PySem.W.fnOf "_law_value" "_law_value" (defArgs sVl) (defBody sVl) (defScope sVl) .none kV20 dc20 pm20 an20 cd20 ct20) ["columns", "values", "one"] [] := A20.fn.binds (ps := ["columns", "values", "one"]) fun _ _ _ _ _ _ us hl => match us, hl with | [_, _, _], _ => rfl
  have b21 : Binds K (PySem.W.fnOf "_law_is_in" "_law_is_in" (defArgs sIs) (defBody sIs) (defScope sIs) .none kV21 dc21 pm21 an21 cd21 ct21) ["columns", "bounds", "values"] [] := A21.fn.binds (ps := ["columns", "bounds", "values"]) fun _ _ _ _ _ _ us hl => match us, hl with | [_, _, _], _ => rfl
  have b22 : Binds K (PySem.W.fnOf "_law_bounds" "_law_bounds" (defArgs sLb) (defBody sLb) (defScope sLb) .none kV22 dc22 pm22 an22 cd22 ct22) ["deck", "columns", "many", "far"] [] := A22.fn.binds (ps := ["deck", "columns", "many", "far"]) fun _ _ _ _ _ _ us hl => match us, hl with | [_, _, _, _], _ => rfl
  have b23 : Binds K (PySem.W.fnOf "_law_end_row" "_law_end_row" (defArgs sEr) (defBody sEr) (defScope sEr) .none kV23 dc23 pm23 an23 cd23 ct23) ["columns", "bounds", "one", "other"] [] := A23.fn.binds (ps := ["columns", "bounds", "one", "other"]) fun _ _ _ _ _ _ us hl => match us, hl with | [_, _, _, _], _ => rfl
  have b24 : Binds K (PySem.W.fnOf "_law_is_end_right" "_law_is_end_right" (defArgs sRt) (defBody sRt) (defScope sRt) .none kV24 dc24 pm24 an24 cd24 ct24) ["deck", "columns", "bounds", "zone"] [] := A24.fn.binds (ps := ["deck", "columns", "bounds", "zone"]) fun _ _ _ _ _ _ us hl => match us, hl with | [_, _, _, _], _ => rfl
  have b25 : Binds K (PySem.W.fnOf "_law_are_bounds_so" "_law_are_bounds_so" (defArgs sSo) (defBody sSo) (defScope sSo) .none kV25 dc25 pm25 an25 cd25 ct25) ["columns", "thing"] [] := A25.fn.binds (ps := ["columns", "thing"]) fun _ _ _ _ _ _ us hl => match us, hl with | [_, _], _ => rfl
  have b26 : Binds K (PySem.W.fnOf "_law_odd" "_law_odd" (defArgs sOd) (defBody sOd) (defScope sOd) .none kV26 dc26 pm26 an26 cd26 ct26) ["deck", "columns", "it"] [] := A26.fn.binds (ps := ["deck", "columns", "it"]) fun _ _ _ _ _ _ us hl => match us, hl with | [_, _, _], _ => rfl
  have b27 : Binds K (PySem.W.fnOf "_law_bent" "_law_bent" (defArgs sBt) (defBody sBt) (defScope sBt) .none kV27 dc27 pm27 an27 cd27 ct27) ["deck", "columns", "it"] [] := A27.fn.binds (ps := ["deck", "columns", "it"]) fun _ _ _ _ _ _ us hl => match us, hl with | [_, _, _], _ => rfl
  have b28 : Binds K (PySem.W.fnOf "_law_rows_near" "_law_rows_near" (defArgs sRn) (defBody sRn) (defScope sRn) .none kV28 dc28 pm28 an28 cd28 ct28) ["deck", "columns", "bounds", "zone"] [] := A28.fn.binds (ps := ["deck", "columns", "bounds", "zone"]) fun _ _ _ _ _ _ us hl => match us, hl with | [_, _, _, _], _ => rfl
  refine ⟨PySem.W.fnOf "law" "law" (defArgs sLw) (defBody sLw) (defScope sLw) .none kV29 dc29 pm29 an29 cd29 ct29, fun s v => .of_eq rfl, fun base _ _ => ?_⟩
  have cInt := A1.cal (P := P) (w := w) (base := base) X G b1 (ok_int A1.fn B)
  have cDraw := A13.cal (P := P) (w := w) (base := base) X G b13 (ok_draw A13.fn B)
  have cPick := A14.cal (P := P) (w := w) (base := base) X G b14 (ok_pick A14.fn B cDraw)
  have cOrder := A15.cal (P := P) (w := w) (base := base) X G b15 (ok_order A15.fn B cDraw)
  have cDeck := A12.cal (P := P) (w := w) (base := base) X G b12 (ok_deck A12.fn B)
  have cCt := A7.cal (P := P) (w := w) (base := base) X G b7 (ok_ct A7.fn B N)
  have oCl := ok_cl (P := P) (w := w) (base := base) A8.fn B cCt
  have cCl := A8.cal (P := P) (w := w) (base := base) X G b8 (oCl)
  have cVi := A9.cal (P := P) (w := w) (base := base) X G b9 (ok_vi A9.fn N)
  have oZn := ok_zn (P := P) (w := w) (base := base) A10.fn B cVi
  have cZn := A10.cal (P := P) (w := w) (base := base) X G b10 (oZn)
  have cNm := A16.cal (P := P) (w := w) (base := base) X G b16 (ok_nm A16.fn B cDraw cPick)
  have cTo := A18.cal (P := P) (w := w) (base := base) X G b18 (ok_to A18.fn B)
  have cTi := A19.cal (P := P) (w := w) (base := base) X G b19 (ok_ti A19.fn B cTo)
  have cVl := A20.cal (P := P) (w := w) (base := base) X G b20 (ok_vl A20.fn)
  have cIs := A21.cal (P := P) (w := w) (base := base) X G b21 (ok_is A21.fn cVl)
  have cLb := A22.cal (P := P) (w := w) (base := base) X G b22 (ok_lb A22.fn B cDraw cPick)
  have cEr := A23.cal (P := P) (w := w) (base := base) X G b23 (ok_er A23.fn B cTo)
  have cSm := fun n => cal_sm (P := P) (w := w) (base := base) A17.fn B (A17.gl X G) b17 n
  have kZn3 : CalK P w K mg base "is_in_zone" ["columns", "zone", "values"] ["columns", "values", "zone"] kw3 2 (spZn K) := ⟨⟨f10, _, kw3, oZn, A10.gl X G, k10, kb3 fun _ _ _ => rfl⟩⟩
  have kZnV : CalK P w K mg base "is_in_zone" ["columns", "zone", "values"] ["values", "zone", "columns"] kwV 2 (spZn K) := ⟨⟨f10, _, kwV, oZn, A10.gl X G, k10, kbV fun _ _ _ => rfl⟩⟩
  have kCl : CalK P w K mg base "closed" ["columns", "bounds"] ["bounds", "columns"] kw2 2 (spCl K) := ⟨⟨f8, _, kw2, oCl, A8.gl X G, k8, kb2 fun _ _ => rfl⟩⟩
  have cRt := A24.cal (P := P) (w := w) (base := base) X G b24 (ok_rt A24.fn B cPick cEr cVl cZn kZn3 (cSm 2))
  have cRn := A28.cal (P := P) (w := w) (base := base) X G b28 (ok_rn A28.fn B cDraw cPick)
  have cOd := A26.cal (P := P) (w := w) (base := base) X G b26 (ok_od A26.fn B cPick)
  have cBt := cal_bt (P := P) (w := w) (base := base) A27.fn B cDraw cOd (A27.gl X G) b27 3
  have cIb := A5.cal (P := P) (w := w) (base := base) X G b5 (ok_ib A5.fn B N cInt)
  have oAb := ok_ab (P := P) (w := w) (base := base) A6.fn B cIb
  have cAb := A6.cal (P := P) (w := w) (base := base) X G b6 (oAb)
  have kAb : CalK P w K mg base "are_bounds" ["columns", "thing"] ["thing", "columns"] kw2 3 (spAb' K) := ⟨⟨f6, _, kw2, oAb, A6.gl X G, k6, kb2 fun _ _ => rfl⟩⟩
  have cSo := A25.cal (P := P) (w := w) (base := base) X G b25 (ok_so A25.fn B)
  have C : All P w K mg base := ⟨cDeck, cDraw, cPick, cOrder, cNm, cLb, cTi, cCl, kCl, cSm, cIs, cZn, kZnV, cRt, cRn, cBt, cAb, kAb, cSo⟩
  exact fnG_of A29.fn scLw (fun vs H Q E h => by obtain ⟨a, ns, rfl, _⟩ := h; rfl) fun cdv A outer s H vs Q E hg hr h => law_body B C hg hr h
end K91

open PySem PySem.W PyProof.Rows in
set_option maxRecDepth 100000 in
set_option maxHeartbeats 0 in
theorem PySem.Challenge.cw_wakefree_k91_bounds_and_closed_zones_holds : PySem.Challenge.rw_wakefree_k91_bounds_and_closed_zones.Holds := by
  w_on; o_law; k_head; (case hw => w_witness2)
  k_fill
  refine K91.walkG (l := PySem.Challenge.rw_wakefree_k91_bounds_and_closed_zones) (n := 63) (k := 7) (x := "script") (sp := fun K => K91.spLw K) rfl (by decide) rfl ⟨rfl, by decide, by decide⟩ (fun w h Y => PySem.W.kIn_of Y) ?F fun K H a ns hl hS => ⟨a, ns, rfl, hS, hl, fun _ => rfl⟩
  case F =>
    intro w mg fa h KX G hmg
    refine' K91.all_mk KX G hmg ?a1 ?l1 ?c1 ?k1 ?a5 ?l5 ?c5 ?k5 ?a6 ?l6 ?c6 ?k6 ?a7 ?l7 ?c7 ?k7 ?a8 ?l8 ?c8 ?k8 ?a9 ?l9 ?c9 ?k9 ?a10 ?l10 ?c10 ?k10 ?a12 ?l12 ?c12 ?k12 ?a13 ?l13 ?c13 ?k13 ?a14 ?l14 ?c14 ?k14 ?a15 ?l15 ?c15 ?k15 ?a16 ?l16 ?c16 ?k16 ?a17 ?l17 ?c17 ?k17 ?a18 ?l18 ?c18 ?k18 ?a19 ?l19 ?c19 ?k19 ?a20 ?l20 ?c20 ?k20 ?a21 ?l21 ?c21 ?k21 ?a22 ?l22 ?c22 ?k22 ?a23 ?l23 ?c23 ?k23 ?a24 ?l24 ?c24 ?k24 ?a25 ?l25 ?c25 ?k25 ?a26 ?l26 ?c26 ?k26 ?a27 ?l27 ?c27 ?k27 ?a28 ?l28 ?c28 ?k28 ?a29 ?l29 ?c29 ?k29 ?gN ?gP ?z_isinstance ?z_int ?z_bool ?z_tuple ?z_list ?z_dict ?z_str ?z_len ?z_all ?z_min ?z_max ?z_abs ?z_sorted ?z_zip ?z_range ?z_repr ?z_enumerate
    (case a1 => k_is)
    (case l1 => k_is)
    (case c1 => k_is)
    (case k1 => k_is)
    (case a5 => k_is)
    (case l5 => k_is)
    (case c5 => k_is)
    (case k5 => k_is)
    (case a6 => k_is)
    (case l6 => k_is)
    (case c6 => k_is)
    (case k6 => k_is)
    (case a7 => k_is)
    (case l7 => k_is)
    (case c7 => k_is)
    (case k7 => k_is)
    (case a8 => k_is)
    (case l8 => k_is)
    (case c8 => k_is)
    (case k8 => k_is)
    (case a9 => k_is)
    (case l9 => k_is)
    (case c9 => k_is)
    (case k9 => k_is)
    (case a10 => k_is)
    (case l10 => k_is)
    (case c10 => k_is)
    (case k10 => k_is)
    (case a12 => k_is)
    (case l12 => k_is)
    (case c12 => k_is)
    (case k12 => k_is)
    (case a13 => k_is)
    (case l13 => k_is)
    (case c13 => k_is)
    (case k13 => k_is)
    (case a14 => k_is)
    (case l14 => k_is)
    (case c14 => k_is)
    (case k14 => k_is)
    (case a15 => k_is)
    (case l15 => k_is)
    (case c15 => k_is)
    (case k15 => k_is)
    (case a16 => k_is)
    (case l16 => k_is)
    (case c16 => k_is)
    (case k16 => k_is)
    (case a17 => k_is)
    (case l17 => k_is)
    (case c17 => k_is)
    (case k17 => k_is)
    (case a18 => k_is)
    (case l18 => k_is)
    (case c18 => k_is)
    (case k18 => k_is)
    (case a19 => k_is)
    (case l19 => k_is)
    (case c19 => k_is)
    (case k19 => k_is)
    (case a20 => k_is)
    (case l20 => k_is)
    (case c20 => k_is)
    (case k20 => k_is)
    (case a21 => k_is)
    (case l21 => k_is)
    (case c21 => k_is)
    (case k21 => k_is)
    (case a22 => k_is)
    (case l22 => k_is)
    (case c22 => k_is)
    (case k22 => k_is)
    (case a23 => k_is)
    (case l23 => k_is)
    (case c23 => k_is)
    (case k23 => k_is)
    (case a24 => k_is)
    (case l24 => k_is)
    (case c24 => k_is)
    (case k24 => k_is)
    (case a25 => k_is)
    (case l25 => k_is)
    (case c25 => k_is)
    (case k25 => k_is)
    (case a26 => k_is)
    (case l26 => k_is)
    (case c26 => k_is)
    (case k26 => k_is)
    (case a27 => k_is)
    (case l27 => k_is)
    (case c27 => k_is)
    (case k27 => k_is)
    (case a28 => k_is)
    (case l28 => k_is)
    (case c28 => k_is)
    (case k28 => k_is)
    (case a29 => k_is)
    (case l29 => k_is)
    (case c29 => k_is)
    (case k29 => k_is)
    (case gN => k_is)
    (case gP => k_is)
    (case z_isinstance => k_is)
    (case z_int => k_is)
    (case z_bool => k_is)
    (case z_tuple => k_is)
    (case z_list => k_is)
    (case z_dict => k_is)
    (case z_str => k_is)
    (case z_len => k_is)
    (case z_all => k_is)
    (case z_min => k_is)
    (case z_max => k_is)
    (case z_abs => k_is)
    (case z_sorted => k_is)
    (case z_zip => k_is)
    (case z_range => k_is)
    (case z_repr => k_is)
    (case z_enumerate => k_is)
#print axioms PySem.Challenge.cw_wakefree_k91_bounds_and_closed_zones_holds
