import PyProof.Rows.All
import Wide.All
import OpenK.AllK
import Wide.FinOn
import HandS.ForMost
import HandS.ForExc
import HandS.Defaults
import HandS.IsInst
import HandS.OwnEq
import HandS.Style
import HandS.TupAny
import HandS.TupMul
import HandS.Conv
import HandS.DictComp
import HandS.Sort
import HandS.SortRule
import HandS.ExcInit
import HandS.ExcField
import HandS.ExcSuper
import HandS.Zip0
import HandS.Zip
import HandS.CallSlots
import HandS.DictTup
import KE.SortData
import KE.KExcSuper
import KE.KDictZip
import KE.KDictCopyH
import PySem.Challenge.RW_plugproof_k70_whole_readings
set_option Elab.async false
set_option linter.all false
set_option maxRecDepth 100000
set_option maxHeartbeats 8000000
namespace K70
open PySem PySem.Spec PyProof.Rows L2
/-! ### the text by places -/
def topS (i : Nat) : Stmt := PySem.Challenge.pw_plugproof_k70_whole_readings.main.body.getD i (.Pass ⟨0, 0, 0, 0⟩)
abbrev sBadInit : Stmt := inClass (topS 3) 0
abbrev sIsWhole : Stmt := topS 11
abbrev sPlatesFor : Stmt := topS 12
abbrev sShInit : Stmt := inClass (topS 13) 0
abbrev sShEq : Stmt := inClass (topS 13) 1
abbrev sTold : Stmt := inClass (topS 13) 2
abbrev sClockCell : Stmt := inClass (topS 13) 3
abbrev sDirCell : Stmt := inClass (topS 13) 4
abbrev sRowCell : Stmt := inClass (topS 13) 5
abbrev sUserCell : Stmt := inClass (topS 13) 6
abbrev sFilePlate : Stmt := inClass (topS 13) 7
abbrev sBlockPlate : Stmt := inClass (topS 13) 8
abbrev sCellAt : Stmt := topS 15
abbrev sDirAt : Stmt := topS 16
abbrev sRowAt : Stmt := topS 17
abbrev sIsDir : Stmt := topS 18
abbrev sRowsOf : Stmt := topS 19
abbrev sNamedFiles : Stmt := topS 20
abbrev sSizeAt : Stmt := topS 21
abbrev sOwnerAt : Stmt := topS 22
abbrev sBlockOf : Stmt := topS 23
abbrev sPointersAt : Stmt := topS 24
abbrev sMetBelow : Stmt := topS 25
abbrev sMet : Stmt := topS 26
abbrev sSpotOf : Stmt := topS 27
abbrev sDataBlock : Stmt := topS 28
abbrev sNumbersAt : Stmt := topS 29
abbrev sContentOf : Stmt := topS 30
abbrev sLawNumber : Stmt := topS 32
abbrev sLawTake : Stmt := topS 33
abbrev sLawPick : Stmt := topS 34
abbrev sLawUnlike : Stmt := topS 35
abbrev sLawCellsOf : Stmt := topS 36
abbrev sLawAny : Stmt := topS 37
abbrev sLawIsRead : Stmt := topS 38
abbrev sLawAreMet : Stmt := topS 39
abbrev sLawAreNames : Stmt := topS 40
abbrev sLawIsRefused : Stmt := topS 41
abbrev sLaw : Stmt := topS 42

/-! ### the data -/
abbrev NM : Int := 475254
/-- the five numbers of a shape -/
structure Dim where
  D : Int
  R : Int
  F : Int
  B : Int
  U : Int
def Dim.ok (d : Dim) : Prop := (2 ≤ d.D ∧ d.D ≤ 40) ∧ (1 ≤ d.R ∧ d.R ≤ 60) ∧ (1 ≤ d.F ∧ d.F ≤ 40) ∧ (1 ≤ d.B ∧ d.B ≤ 200) ∧ (1 ≤ d.U ∧ d.U ≤ 4)
def pf (n : Int) : Int := (n + 8 - 1) / 8
def Dim.fr (d : Dim) : Int := 1 + pf d.D
def Dim.fu (d : Dim) : Int := d.fr + pf d.R
def Dim.ff (d : Dim) : Int := d.fu + pf d.U
def Dim.fb (d : Dim) : Int := d.ff + d.F
def Dim.pl (d : Dim) : Int := d.fb + d.B
/-- the attributes of a Shape, in the order of the stores -/
def sf (d : Dim) : List (Str × V) := [("dirs", .int d.D), ("rows", .int d.R), ("files", .int d.F), ("blocks", .int d.B), ("users", .int d.U), ("first_row", .int d.fr), ("first_user", .int d.fu), ("first_file", .int d.ff), ("first_block", .int d.fb), ("plates", .int d.pl)]
def ShapeAt (C : Addr) (H : Hp) (sh : Addr) (d : Dim) : Prop := ∃ dx, H sh = some (.ins C dx (sf d))
/-- a home of n plates stands at h: plate i holds pl i -/
def HomeAt (H : Hp) (h : Addr) (n : Int) (pl : Int → List Int) : Prop := ∃ kvs : List (Key × V), H h = some (.dK kvs) ∧
  ∀ i, 0 ≤ i → i < n → (pl i).length = 8 ∧ ∃ t, valV kvs (Sum.inl i) = some (.ref t) ∧ H t = some (.tup ((pl i).map V.int))
theorem ShapeAt.same {C : Addr} {H H' : Hp} {sh : Addr} {d : Dim} (s : Same H H') (h : ShapeAt C H sh d) : ShapeAt C H' sh d := by
  obtain ⟨dx, e⟩ := h
  exact ⟨dx, s _ _ e⟩
theorem HomeAt.same {H H' : Hp} {h : Addr} {n : Int} {pl : Int → List Int} (s : Same H H') (x : HomeAt H h n pl) : HomeAt H' h n pl := by
  obtain ⟨kvs, e, a⟩ := x
  refine ⟨kvs, s _ _ e, fun i h0 h1 => ?_⟩
  obtain ⟨l, t, v, q⟩ := a i h0 h1
  exact ⟨l, t, v, s _ _ q⟩
theorem HomeAt.get {H : Hp} {h : Addr} {n : Int} {pl : Int → List Int} (x : HomeAt H h n pl) {i : Int} (h0 : 0 ≤ i) (h1 : i < n) :
    ∃ t, DGet H h (.int i) (some (.ref t)) ∧ H t = some (.tup ((pl i).map V.int)) ∧ (pl i).length = 8 := by
  obtain ⟨kvs, e, a⟩ := x
  obtain ⟨l, t, v, q⟩ := a i h0 h1
  refine ⟨t, ?_, q, l⟩
  have g := DGet.k (k := Sum.inl i) e
  rw [v] at g
  exact g
/-- the j-th number of a plate -/
theorem plate_at {l : List Int} {j : Int} (hl : l.length = 8) (h0 : 0 ≤ j) (h1 : j < 8) : atI (l.map V.int) j = some (.int (l.getD j.toNat 0)) := by
  have hj : j.toNat < l.length := by omega
  have e : (l.map V.int)[j.toNat]? = some (.int (l.getD j.toNat 0)) := by
    rw [List.getElem?_map, List.getElem?_eq_getElem hj, List.getD_eq_getElem?_getD, List.getElem?_eq_getElem hj]
    rfl
  have q := atI_nat e
  rw [Int.toNat_of_nonneg h0] at q
  exact q
theorem list_at {xs : List V} {j : Int} {v : V} (h0 : 0 ≤ j) (e : xs[j.toNat]? = some v) : atI xs j = some v := by
  have q := atI_nat e
  rw [Int.toNat_of_nonneg h0] at q
  exact q
theorem st_of {K : PySem.W.Frag} {H : Hp} {a : Addr} {xs : List V} (h : H a = some (.tup xs)) : SqT K H a xs := Or.inl (Or.inl h)
theorem sl_of {K : PySem.W.Frag} {H : Hp} {a : Addr} {xs : List V} (h : H a = some (.lst xs)) : SqL K H a xs := Or.inl (Or.inl h)
theorem same_upd {H : Hp} {p : Addr} {o : HO} (h : H p = none) : Same H (upd H p o) := fun b x e => by
  rw [upd_ne (ne_of_none e h)]
  exact e
/-- an object that H does not know may change -/
theorem same_mut {H H' : Hp} {p : Addr} {o : HO} (s : Same H H') (h : H p = none) : Same H (upd H' p o) := fun b x e => by
  rw [upd_ne (ne_of_none e h)]
  exact s b x e
theorem same_new {H H' : Hp} {p : Addr} {o : HO} (s : Same H H') (h : H' p = none) : Same H (upd H' p o) := s.trans (same_upd h)
/-- all but the object at d is as it was -/
def SameB (d : Addr) (H H' : Hp) : Prop := ∀ b o, b ≠ d → H b = some o → H' b = some o
theorem SameB.refl (d : Addr) (H : Hp) : SameB d H H := fun _ _ _ e => e
theorem SameB.trans {d : Addr} {H H1 H2 : Hp} (a : SameB d H H1) (b : SameB d H1 H2) : SameB d H H2 := fun c o n e => b c o n (a c o n e)
theorem SameB.of {d : Addr} {H H' : Hp} (s : Same H H') : SameB d H H' := fun b o _ e => s b o e
theorem SameB.upd {d : Addr} {H : Hp} {o : HO} : SameB d H (upd H d o) := fun b x n e => by rw [upd_ne n]; exact e

/-! ### what a def hands back -/
/-- a value; what stood stands -/
def RetV (H : Hp) (v : V) (Q : VK) : Prop := ∀ H', Same H H' → Q v H'
/-- a new tuple of ints -/
def RetT (H : Hp) (l : List Int) (Q : VK) : Prop := ∀ H' p, Same H H' → H p = none → H' p = some (.tup (l.map V.int)) → Q (.ref p) H'
/-- a new list -/
def RetL (H : Hp) (xs : List V) (Q : VK) : Prop := ∀ H' p, Same H H' → H p = none → H' p = some (.lst xs) → Q (.ref p) H'
/-- None, or a new tuple of ints -/
def RetO (H : Hp) (o : Option (List Int)) (Q : VK) : Prop := ∀ H', Same H H' → (o = none → Q .non H') ∧ ∀ l p, o = some l → H p = none → H' p = some (.tup (l.map V.int)) → Q (.ref p) H'

/-! ### facts of the text behind the top -/
/-- constants, built-in names, the class Shape -/
structure Txt (K : PySem.W.Frag) (mg : Str → Option Value) (C : Addr) : Prop where
  gWIDTH : ∃ t, mg "WIDTH" = some (.int 8 t)
  gNAMES : ∃ t, mg "NAMES" = some (.int NM t)
  gDIRECT : ∃ t, mg "DIRECT" = some (.int 3 t)
  gMOST_BLOCKS : ∃ t, mg "MOST_BLOCKS" = some (.int 75 t)
  gMOST_SIZE : ∃ t, mg "MOST_SIZE" = some (.int 600 t)
  gFOUND : ∃ t, mg "FOUND" = some (.int 1 t)
  gShape : mg "Shape" = some (.ref C)
  cS : Cls K C
  zint : mg "int" = none
  zbool : mg "bool" = none
  zisinstance : mg "isinstance" = none
  zlen : mg "len" = none
  zabs : mg "abs" = none
  zmax : mg "max" = none
  zmin : mg "min" = none
  zsum : mg "sum" = none
  zall : mg "all" = none
  zrange : mg "range" = none
  zlist : mg "list" = none
  ztuple : mg "tuple" = none
  zsorted : mg "sorted" = none
  zzip : mg "zip" = none
  nA : ∀ f ∈ (["dirs", "rows", "files", "blocks", "users", "first_row", "first_user", "first_file", "first_block", "plates"] : List Str), NoAttr K C f

section
variable {P : Program} {w : World} {K : PySem.W.Frag} {mg : Str → Option Value} {base : Heap}
/-- a def of the text keeps a promise -/
structure Has (P : Program) (w : World) (K : PySem.W.Frag) (mg : Str → Option Value) (base : Heap) (CX : CXT) (k : Nat) (x : Str) (ps : List Str) (sp : Sp) : Prop where
  ex : ∃ (f : Addr) (fd : FuncData), FnOk P w K mg base CX k f fd ps sp ∧ mg x = some (.ref f) ∧ PySem.W.keepIn K (.ref f) = true ∧ Binds K fd ps []
/-- a method of the class at C keeps a promise -/
structure HasM (P : Program) (w : World) (K : PySem.W.Frag) (mg : Str → Option Value) (base : Heap) (CX : CXT) (k : Nat) (C : Addr) (x : Str) (ps : List Str) (sp : Sp) : Prop where
  ex : ∃ (f : Addr) (fd : FuncData), FnOk P w K mg base CX k f fd ps sp ∧ Meth K C x f ∧ Binds K fd ps []
/-- a def as it stands behind the top, its name, how it binds -/
structure At (K : PySem.W.Frag) (mg : Str → Option Value) (x : Str) (st : Stmt) : Prop where
  ex : ∃ (f : Addr) (fd : FuncData), Fun K x x st f fd ∧ mg x = some (.ref f)
structure AtM (K : PySem.W.Frag) (C : Addr) (x q : Str) (st : Stmt) : Prop where
  ex : ∃ (f : Addr) (fd : FuncData), Fun K x q st f fd ∧ Meth K C x f
end
end K70
namespace K70
open PySem PySem.Spec PyProof.Rows L2
/-! ### small rules -/
section
variable {X : Cx}
theorem pe_gi {x : Str} {i : Int} {pos : Pos} (hg : Gl X x) (h : ∃ t, X.mg x = some (.int i t)) (hd : (x == ("__debug__" : Str)) = false := by decide) : PE X (.Name x pos) (tC (.int i)) := by
  obtain ⟨t, h⟩ := h
  exact pe_glob hg h ⟨t, rfl⟩ hd
end
/-! ### the attributes of a Shape -/
theorem sf_dirs (d : Dim) : (sf d).lookup ("dirs" : Str) = some (.int d.D) := by rfl
theorem sf_rows (d : Dim) : (sf d).lookup ("rows" : Str) = some (.int d.R) := by rfl
theorem sf_files (d : Dim) : (sf d).lookup ("files" : Str) = some (.int d.F) := by rfl
theorem sf_blocks (d : Dim) : (sf d).lookup ("blocks" : Str) = some (.int d.B) := by rfl
theorem sf_users (d : Dim) : (sf d).lookup ("users" : Str) = some (.int d.U) := by rfl
theorem sf_first_row (d : Dim) : (sf d).lookup ("first_row" : Str) = some (.int d.fr) := by rfl
theorem sf_first_user (d : Dim) : (sf d).lookup ("first_user" : Str) = some (.int d.fu) := by rfl
theorem sf_first_file (d : Dim) : (sf d).lookup ("first_file" : Str) = some (.int d.ff) := by rfl
theorem sf_first_block (d : Dim) : (sf d).lookup ("first_block" : Str) = some (.int d.fb) := by rfl
theorem sf_plates (d : Dim) : (sf d).lookup ("plates" : Str) = some (.int d.pl) := by rfl
theorem sf_none (d : Dim) : (sf d).lookup ("told" : Str) = none ∧ (sf d).lookup ("clock_cell" : Str) = none ∧ (sf d).lookup ("dir_cell" : Str) = none ∧ (sf d).lookup ("row_cell" : Str) = none ∧ (sf d).lookup ("user_cell" : Str) = none ∧ (sf d).lookup ("file_plate" : Str) = none ∧ (sf d).lookup ("block_plate" : Str) = none :=
  ⟨rfl, rfl, rfl, rfl, rfl, rfl, rfl⟩
section
variable {P : Program} {w : World} {K : PySem.W.Frag} {mg : Str → Option Value} {base : Heap} {C : Addr}
theorem Txt.na (T : Txt K mg C) {f : Str} (h : f ∈ (["dirs", "rows", "files", "blocks", "users", "first_row", "first_user", "first_file", "first_block", "plates"] : List Str) := by decide +kernel) : NoAttr K C f := T.nA f h
/-! ### plates_for -/
def spPlatesFor : Sp := fun vs H Q _ => ∃ n : Int, vs = [.int n] ∧ Q (.int (pf n)) H
theorem scPlatesFor : FnScope ["cells"] ["cells"] (defScope sPlatesFor) := ⟨rfl, rfl, rfl, by decide +kernel, rfl, by decide +kernel, by decide +kernel⟩
theorem ok_plates_for (F : At K mg "plates_for" sPlatesFor) (T : Txt K mg C) : Has P w K mg base CX0 1 "plates_for" ["cells"] spPlatesFor := by
  obtain ⟨f, fd, F, m⟩ := F.ex
  refine ⟨f, fd, F.ok scPlatesFor (fun vs H Q E h => ?_) (fun cdv A outer s H vs Q E hr h => ?_), m, F.kp, F.binds fun _ _ _ _ _ _ us hl => match us, hl with | [_], _ => rfl⟩
  · obtain ⟨n, rfl, _⟩ := h
    rfl
  · obtain ⟨n, rfl, k⟩ := h
    refine ⟨_, ((pss_one (ps_ret (pe_op op_fdiv (pe_op op_sub (pe_op op_add (pv 0) (pe_gi rfl T.gWIDTH)) pe_int) (pe_gi rfl T.gWIDTH))))), ?_⟩
    refine ⟨_, rfl, _, _, rfl, rfl, _, _, rfl, rfl, _, _, rfl, rfl, ⟨by decide, by decide⟩, k⟩
/-! ### is_whole -/
def okV (x : V) (lo hi : Int) : Bool := match x with
  | .int i => decide (lo ≤ i) && decide (i ≤ hi)
  | _ => false
def flat4 : V → Bool
  | .non => true
  | .bl _ => true
  | .int _ => true
  | .str _ => true
  | _ => false
def spIsWhole : Sp := fun vs H Q _ => ∃ (x : V) (lo hi : Int), vs = [x, .int lo, .int hi] ∧ flat4 x = true ∧ Q (.bl (okV x lo hi)) H
theorem scIsWhole : FnScope ["thing", "low", "high"] ["thing", "low", "high"] (defScope sIsWhole) := ⟨rfl, rfl, rfl, by decide +kernel, rfl, by decide +kernel, by decide +kernel⟩
theorem ok_is_whole {f : Addr} {fd : FuncData} {dvs : List V} {kws : List (Str × V)} (F : FunD K "is_whole" "is_whole" (defArgs sIsWhole) (defBody sIsWhole) (defScope sIsWhole) dvs kws f fd) (T : Txt K mg C) : FnOk P w K mg base CX0 1 f fd ["thing", "low", "high"] spIsWhole := by
  refine F.ok scIsWhole (fun vs H Q E h => ?_) (fun cdv A outer s H vs Q E hr h => ?_)
  · obtain ⟨x, lo, hi, rfl, _⟩ := h
    rfl
  · obtain ⟨x, lo, hi, rfl, fl, k⟩ := h
    refine ⟨_, PSs.nox ((pss_cons (ps_if (PW.pt (pw_or (pt_not (pt_val (pe_callB call_isi (by rfl) T.zisinstance (by decide +kernel) (pa_cons (pv 0) (pa_cons (pe_bltn (v := .ty "int") (by rfl) T.zint boot_int rfl) pa_nil))))) (pw_or1 (pt_val (pe_callB call_isi (by rfl) T.zisinstance (by decide +kernel) (pa_cons (pv 0) (pa_cons (pe_bltn (v := .ty "bool") (by rfl) T.zbool boot_bool rfl) pa_nil)))))))
  (pss_one (ps_ret pe_bl))
  pss_nil)
  (pss_one (ps_ret (pe_and (pe_or (pe_cmpR op_isN (pv 1) pe_non (nomark _)) (pe_one (pe_cmpR op_ge (pv 0) (pv 1) (nomark _)))) (pe_one (pe_or (pe_cmpR op_isN (pv 2) pe_non (nomark _)) (pe_one (pe_cmpR op_le (pv 0) (pv 2) (nomark _)))))))))), ?_⟩
    cases x with
    | non =>
      refine ⟨_, rfl, _, _, .type "NoneType", _, false, rfl, .ty _, .base .non, kit_ty (by decide +kernel), false, rfl, ?_⟩
      exact iteT (iteT k)
    | bl b =>
      refine ⟨_, rfl, _, _, .type "bool", _, true, rfl, .ty _, .base (.bl b), kit_ty (by decide +kernel), true, rfl, ?_⟩
      refine iteF ⟨_, rfl, _, _, .type "bool", _, true, rfl, .ty _, .base (.bl b), kit_ty (by decide +kernel), true, rfl, ?_⟩
      exact iteT k
    | int i =>
      refine ⟨_, rfl, _, _, .type "int", _, true, rfl, .ty _, .base (.int i), kit_ty (by decide +kernel), true, rfl, ?_⟩
      refine iteF ⟨_, rfl, _, _, .type "int", _, false, rfl, .ty _, .base (.int i), kit_ty (by decide +kernel), false, rfl, ?_⟩
      refine iteF ?_
      refine ⟨_, rfl, rfl, false, rfl, iteF ⟨_, rfl, _, rfl, _, _, rfl, rfl, _, rfl, ?_⟩⟩
      have e : okV (.int i) lo hi = (decide (lo ≤ i) && decide (i ≤ hi)) := rfl
      by_cases h1 : lo ≤ i
      · rw [e, decide_eq_true h1] at k
        rw [decide_eq_true h1]
        exact iteT ⟨_, rfl, rfl, false, rfl, iteF ⟨_, rfl, _, rfl, _, _, rfl, rfl, k⟩⟩
      · rw [e, decide_eq_false h1] at k
        rw [decide_eq_false h1]
        exact iteF k
    | str z =>
      refine ⟨_, rfl, _, _, .type "str", _, false, rfl, .ty _, .base (.str z), kit_ty (by decide +kernel), false, rfl, ?_⟩
      exact iteT (iteT k)
    | byt _ => cases fl
    | flt _ => cases fl
    | ref _ => cases fl
    | ty _ => cases fl
end
end K70
namespace K70
open PySem PySem.Spec PyProof.Rows L2
section
variable {P : Program} {w : World} {K : PySem.W.Frag} {mg : Str → Option Value} {base : Heap} {C : Addr}
/-! ### methods of Shape -/
/-- a method that hands back a new tuple -/
def spTold (C : Addr) : Sp := fun vs H Q _ => ∃ (sh : Addr) (d : Dim), vs = [.ref sh] ∧ ShapeAt C H sh d ∧ RetT H [d.D, d.R, d.F, d.B, d.U] Q
theorem scTold : FnScope ["self"] ["self"] (defScope sTold) := ⟨rfl, rfl, rfl, by decide +kernel, rfl, by decide +kernel, by decide +kernel⟩
theorem ok_told (F : AtM K C "told" "Shape.told" sTold) (T : Txt K mg C) : HasM P w K mg base CX0 1 C "told" ["self"] (spTold C) := by
  obtain ⟨f, fd, F, m⟩ := F.ex
  refine ⟨f, fd, F.ok scTold (fun vs H Q E h => ?_) (fun cdv A outer s H vs Q E hr h => ?_), m, F.binds fun _ _ _ _ _ _ us hl => match us, hl with | [_], _ => rfl⟩
  · obtain ⟨sh, d, rfl, _⟩ := h
    rfl
  · obtain ⟨sh, d, rfl, ⟨dx, hs⟩, k⟩ := h
    refine ⟨_, ((pss_one (ps_ret (pe_tup (pa_cons (pe_fld (pv 0) rfl) (pa_cons (pe_fld (pv 0) rfl) (pa_cons (pe_fld (pv 0) rfl) (pa_cons (pe_fld (pv 0) rfl) (pa_cons (pe_fld (pv 0) rfl) pa_nil))))))))), ?_⟩
    refine ⟨_, rfl, sh, C, dx, _, _, rfl, hs, T.cS, T.na, sf_dirs d, _, rfl, sh, C, dx, _, _, rfl, hs, T.cS, T.na, sf_rows d, _, rfl, sh, C, dx, _, _, rfl, hs, T.cS, T.na, sf_files d, _, rfl, sh, C, dx, _, _, rfl, hs, T.cS, T.na, sf_blocks d,
      _, rfl, sh, C, dx, _, _, rfl, hs, T.cS, T.na, sf_users d, (by show 5 ≤ sizeLine; decide), fun p hp => ?_⟩
    exact k _ _ (same_upd hp) hp upd_same
def spClock (C : Addr) : Sp := fun vs H Q _ => ∃ (sh : Addr), vs = [.ref sh] ∧ RetT H [0, 0] Q
theorem scClockCell : FnScope ["self"] ["self"] (defScope sClockCell) := ⟨rfl, rfl, rfl, by decide +kernel, rfl, by decide +kernel, by decide +kernel⟩
theorem ok_clock_cell (F : AtM K C "clock_cell" "Shape.clock_cell" sClockCell) (T : Txt K mg C) : HasM P w K mg base CX0 1 C "clock_cell" ["self"] (spClock C) := by
  obtain ⟨f, fd, F, m⟩ := F.ex
  refine ⟨f, fd, F.ok scClockCell (fun vs H Q E h => ?_) (fun cdv A outer s H vs Q E hr h => ?_), m, F.binds fun _ _ _ _ _ _ us hl => match us, hl with | [_], _ => rfl⟩
  · obtain ⟨sh, rfl, _⟩ := h
    rfl
  · obtain ⟨sh, rfl, k⟩ := h
    refine ⟨_, ((pss_one (ps_ret (pe_tup (pa_cons pe_int (pa_cons pe_int pa_nil)))))), ?_⟩
    exact ⟨(by show 2 ≤ sizeLine; decide), fun p hp => k _ _ (same_upd hp) hp upd_same⟩
def spDirCell (C : Addr) : Sp := fun vs H Q _ => ∃ (sh : Addr) (n : Int), vs = [.ref sh, .int n] ∧ RetT H [1 + n / 8, n % 8] Q
theorem scDirCell : FnScope ["self", "number"] ["self", "number"] (defScope sDirCell) := ⟨rfl, rfl, rfl, by decide +kernel, rfl, by decide +kernel, by decide +kernel⟩
theorem ok_dir_cell (F : AtM K C "dir_cell" "Shape.dir_cell" sDirCell) (T : Txt K mg C) : HasM P w K mg base CX0 1 C "dir_cell" ["self", "number"] (spDirCell C) := by
  obtain ⟨f, fd, F, m⟩ := F.ex
  refine ⟨f, fd, F.ok scDirCell (fun vs H Q E h => ?_) (fun cdv A outer s H vs Q E hr h => ?_), m, F.binds fun _ _ _ _ _ _ us hl => match us, hl with | [_, _], _ => rfl⟩
  · obtain ⟨sh, n, rfl, _⟩ := h
    rfl
  · obtain ⟨sh, n, rfl, k⟩ := h
    refine ⟨_, ((pss_one (ps_ret (pe_tup (pa_cons (pe_op op_add pe_int (pe_op op_fdiv (pv 1) (pe_gi rfl T.gWIDTH))) (pa_cons (pe_op op_mod (pe_callTy call_int1 (by rfl) T.zint (by decide +kernel) (pa_cons (pv 1) pa_nil)) (pe_gi rfl T.gWIDTH)) pa_nil)))))), ?_⟩
    refine ⟨_, rfl, _, _, rfl, rfl, ⟨by decide, by decide⟩, _, _, rfl, rfl, _, rfl, .inl ⟨_, rfl, _, _, rfl, rfl, (by show (0 : Int) < 8; decide), (by show 2 ≤ sizeLine; decide), fun p hp => ?_⟩⟩
    exact k _ _ (same_upd hp) hp upd_same
def spRowCell (C : Addr) : Sp := fun vs H Q _ => ∃ (sh : Addr) (d : Dim) (n : Int), vs = [.ref sh, .int n] ∧ ShapeAt C H sh d ∧ RetT H [d.fr + n / 8, n % 8] Q
theorem scRowCell : FnScope ["self", "number"] ["self", "number"] (defScope sRowCell) := ⟨rfl, rfl, rfl, by decide +kernel, rfl, by decide +kernel, by decide +kernel⟩
theorem ok_row_cell (F : AtM K C "row_cell" "Shape.row_cell" sRowCell) (T : Txt K mg C) : HasM P w K mg base CX0 1 C "row_cell" ["self", "number"] (spRowCell C) := by
  obtain ⟨f, fd, F, m⟩ := F.ex
  refine ⟨f, fd, F.ok scRowCell (fun vs H Q E h => ?_) (fun cdv A outer s H vs Q E hr h => ?_), m, F.binds fun _ _ _ _ _ _ us hl => match us, hl with | [_, _], _ => rfl⟩
  · obtain ⟨sh, d, n, rfl, _⟩ := h
    rfl
  · obtain ⟨sh, d, n, rfl, ⟨dx, hs⟩, k⟩ := h
    refine ⟨_, ((pss_one (ps_ret (pe_tup (pa_cons (pe_op op_add (pe_fld (pv 0) rfl) (pe_op op_fdiv (pv 1) (pe_gi rfl T.gWIDTH))) (pa_cons (pe_op op_mod (pe_callTy call_int1 (by rfl) T.zint (by decide +kernel) (pa_cons (pv 1) pa_nil)) (pe_gi rfl T.gWIDTH)) pa_nil)))))), ?_⟩
    refine ⟨_, rfl, sh, C, dx, _, _, rfl, hs, T.cS, T.na, sf_first_row d, _, rfl, _, _, rfl, rfl, ⟨by decide, by decide⟩, _, _, rfl, rfl, _, rfl, .inl ⟨_, rfl, _, _, rfl, rfl, (by show (0 : Int) < 8; decide), (by show 2 ≤ sizeLine; decide), fun p hp => ?_⟩⟩
    exact k _ _ (same_upd hp) hp upd_same
def spUserCell (C : Addr) : Sp := fun vs H Q _ => ∃ (sh : Addr) (d : Dim) (n : Int), vs = [.ref sh, .int n] ∧ ShapeAt C H sh d ∧ RetT H [d.fu + n / 8, n % 8] Q
theorem scUserCell : FnScope ["self", "user"] ["self", "user"] (defScope sUserCell) := ⟨rfl, rfl, rfl, by decide +kernel, rfl, by decide +kernel, by decide +kernel⟩
theorem ok_user_cell (F : AtM K C "user_cell" "Shape.user_cell" sUserCell) (T : Txt K mg C) : HasM P w K mg base CX0 1 C "user_cell" ["self", "user"] (spUserCell C) := by
  obtain ⟨f, fd, F, m⟩ := F.ex
  refine ⟨f, fd, F.ok scUserCell (fun vs H Q E h => ?_) (fun cdv A outer s H vs Q E hr h => ?_), m, F.binds fun _ _ _ _ _ _ us hl => match us, hl with | [_, _], _ => rfl⟩
  · obtain ⟨sh, d, n, rfl, _⟩ := h
    rfl
  · obtain ⟨sh, d, n, rfl, ⟨dx, hs⟩, k⟩ := h
    refine ⟨_, ((pss_one (ps_ret (pe_tup (pa_cons (pe_op op_add (pe_fld (pv 0) rfl) (pe_op op_fdiv (pv 1) (pe_gi rfl T.gWIDTH))) (pa_cons (pe_op op_mod (pe_callTy call_int1 (by rfl) T.zint (by decide +kernel) (pa_cons (pv 1) pa_nil)) (pe_gi rfl T.gWIDTH)) pa_nil)))))), ?_⟩
    refine ⟨_, rfl, sh, C, dx, _, _, rfl, hs, T.cS, T.na, sf_first_user d, _, rfl, _, _, rfl, rfl, ⟨by decide, by decide⟩, _, _, rfl, rfl, _, rfl, .inl ⟨_, rfl, _, _, rfl, rfl, (by show (0 : Int) < 8; decide), (by show 2 ≤ sizeLine; decide), fun p hp => ?_⟩⟩
    exact k _ _ (same_upd hp) hp upd_same
def spFilePlate (C : Addr) : Sp := fun vs H Q _ => ∃ (sh : Addr) (d : Dim) (n : Int), vs = [.ref sh, .int n] ∧ ShapeAt C H sh d ∧ Q (.int (d.ff + n)) H
theorem scFilePlate : FnScope ["self", "file"] ["self", "file"] (defScope sFilePlate) := ⟨rfl, rfl, rfl, by decide +kernel, rfl, by decide +kernel, by decide +kernel⟩
theorem ok_file_plate (F : AtM K C "file_plate" "Shape.file_plate" sFilePlate) (T : Txt K mg C) : HasM P w K mg base CX0 1 C "file_plate" ["self", "file"] (spFilePlate C) := by
  obtain ⟨f, fd, F, m⟩ := F.ex
  refine ⟨f, fd, F.ok scFilePlate (fun vs H Q E h => ?_) (fun cdv A outer s H vs Q E hr h => ?_), m, F.binds fun _ _ _ _ _ _ us hl => match us, hl with | [_, _], _ => rfl⟩
  · obtain ⟨sh, d, n, rfl, _⟩ := h
    rfl
  · obtain ⟨sh, d, n, rfl, ⟨dx, hs⟩, k⟩ := h
    refine ⟨_, ((pss_one (ps_ret (pe_op op_add (pe_fld (pv 0) rfl) (pv 1))))), ?_⟩
    exact ⟨_, rfl, sh, C, dx, _, _, rfl, hs, T.cS, T.na, sf_first_file d, _, rfl, _, _, rfl, rfl, k⟩
def spBlockPlate (C : Addr) : Sp := fun vs H Q _ => ∃ (sh : Addr) (d : Dim) (n : Int), vs = [.ref sh, .int n] ∧ ShapeAt C H sh d ∧ Q (.int (d.fb + n)) H
theorem scBlockPlate : FnScope ["self", "block"] ["self", "block"] (defScope sBlockPlate) := ⟨rfl, rfl, rfl, by decide +kernel, rfl, by decide +kernel, by decide +kernel⟩
theorem ok_block_plate (F : AtM K C "block_plate" "Shape.block_plate" sBlockPlate) (T : Txt K mg C) : HasM P w K mg base CX0 1 C "block_plate" ["self", "block"] (spBlockPlate C) := by
  obtain ⟨f, fd, F, m⟩ := F.ex
  refine ⟨f, fd, F.ok scBlockPlate (fun vs H Q E h => ?_) (fun cdv A outer s H vs Q E hr h => ?_), m, F.binds fun _ _ _ _ _ _ us hl => match us, hl with | [_, _], _ => rfl⟩
  · obtain ⟨sh, d, n, rfl, _⟩ := h
    rfl
  · obtain ⟨sh, d, n, rfl, ⟨dx, hs⟩, k⟩ := h
    refine ⟨_, ((pss_one (ps_ret (pe_op op_add (pe_fld (pv 0) rfl) (pv 1))))), ?_⟩
    exact ⟨_, rfl, sh, C, dx, _, _, rfl, hs, T.cS, T.na, sf_first_block d, _, rfl, _, _, rfl, rfl, k⟩
/-! ### cells -/
/-- the number at a place -/
def cell (pl : Int → List Int) (a b : Int) : Int := (pl a).getD b.toNat 0
def spCellAt : Sp := fun vs H Q _ => ∃ (h p : Addr) (n : Int) (pl : Int → List Int) (a b : Int), vs = [.ref h, .ref p] ∧ HomeAt H h n pl ∧ H p = some (.tup [.int a, .int b]) ∧ (0 ≤ a ∧ a < n) ∧ (0 ≤ b ∧ b < 8) ∧ Q (.int (cell pl a b)) H
theorem scCellAt : FnScope ["home", "place"] ["home", "place"] (defScope sCellAt) := ⟨rfl, rfl, rfl, by decide +kernel, rfl, by decide +kernel, by decide +kernel⟩
theorem ok_cell_at (F : At K mg "cell_at" sCellAt) (T : Txt K mg C) : Has P w K mg base CX0 1 "cell_at" ["home", "place"] spCellAt := by
  obtain ⟨f, fd, F, m⟩ := F.ex
  refine ⟨f, fd, F.ok scCellAt (fun vs H Q E h => ?_) (fun cdv A outer s H vs Q E hr h => ?_), m, F.kp, F.binds fun _ _ _ _ _ _ us hl => match us, hl with | [_, _], _ => rfl⟩
  · obtain ⟨h, p, n, pl, a, b, rfl, _⟩ := h
    rfl
  · obtain ⟨h, p, n, pl, a, b, rfl, hh, hp, ⟨a0, a1⟩, ⟨b0, b1⟩, k⟩ := h
    refine ⟨_, ((pss_one (ps_ret (pe_ix ix_tup (pe_dget (hu_of hr) (pv 0) (pe_ix ix_tup (pv 1) pe_int (fun _ _ => rfl)) (fun _ _ => rfl)) (pe_ix ix_tup (pv 1) pe_int (fun _ _ => rfl)) (fun _ _ => rfl))))), ?_⟩
    obtain ⟨t, g, ht, hl⟩ := hh.get a0 a1
    exact ⟨_, rfl, _, rfl, p, _, 0, _, rfl, rfl, st_of hp, atI_nat (j := 0) rfl, h, _, rfl, g, _, rfl, p, _, 1, _, rfl, rfl, st_of hp, atI_nat (j := 1) rfl, t, _, b, _, rfl, rfl, st_of ht, plate_at hl b0 b1, k⟩
/-! ### dir_at, row_at, is_dir -/
def dirV (pl : Int → List Int) (k : Int) : Int := cell pl (1 + k / 8) (k % 8)
def dirR (pl : Int → List Int) (k : Int) : Option (List Int) := if k ≤ 1 ∨ dirV pl k - 1 < 0 then none else some [(dirV pl k - 1) / NM, (dirV pl k - 1) % NM]
def rowV (d : Dim) (pl : Int → List Int) (k : Int) : Int := cell pl (d.fr + k / 8) (k % 8)
def rowR (d : Dim) (pl : Int → List Int) (k : Int) : Option (List Int) :=
  if rowV d pl k - 1 < 0 then none else some [(rowV d pl k - 1) / d.F / NM, (rowV d pl k - 1) / d.F % NM, (rowV d pl k - 1) % d.F]
theorem Dim.bounds {d : Dim} (o : d.ok) : (1 ≤ pf d.D ∧ 8 * pf d.D ≤ d.D + 7 ∧ d.D ≤ 8 * pf d.D) ∧ (1 ≤ pf d.R ∧ 8 * pf d.R ≤ d.R + 7 ∧ d.R ≤ 8 * pf d.R) ∧ (1 ≤ pf d.U ∧ 8 * pf d.U ≤ d.U + 7 ∧ d.U ≤ 8 * pf d.U) := by
  obtain ⟨⟨a1, a2⟩, ⟨b1, b2⟩, _, _, ⟨e1, e2⟩⟩ := o
  unfold pf
  omega
theorem dir_place {d : Dim} (o : d.ok) {k : Int} (h0 : 0 ≤ k) (h1 : k < d.D) : (0 ≤ 1 + k / 8 ∧ 1 + k / 8 < d.pl) ∧ 0 ≤ k % 8 ∧ k % 8 < 8 := by
  obtain ⟨⟨a1, a2, a3⟩, ⟨b1, b2, b3⟩, ⟨c1, c2, c3⟩⟩ := Dim.bounds o
  obtain ⟨_, _, ⟨f1, f2⟩, ⟨g1, g2⟩, _⟩ := o
  unfold Dim.pl Dim.fb Dim.ff Dim.fu Dim.fr
  omega
theorem row_place {d : Dim} (o : d.ok) {k : Int} (h0 : 0 ≤ k) (h1 : k < d.R) : (0 ≤ d.fr + k / 8 ∧ d.fr + k / 8 < d.pl) ∧ 0 ≤ k % 8 ∧ k % 8 < 8 := by
  obtain ⟨⟨a1, a2, a3⟩, ⟨b1, b2, b3⟩, ⟨c1, c2, c3⟩⟩ := Dim.bounds o
  obtain ⟨_, _, ⟨f1, f2⟩, ⟨g1, g2⟩, _⟩ := o
  unfold Dim.pl Dim.fb Dim.ff Dim.fu Dim.fr
  omega
theorem file_place {d : Dim} (o : d.ok) {k : Int} (h0 : 0 ≤ k) (h1 : k < d.F) : 0 ≤ d.ff + k ∧ d.ff + k < d.pl := by
  obtain ⟨⟨a1, a2, a3⟩, ⟨b1, b2, b3⟩, ⟨c1, c2, c3⟩⟩ := Dim.bounds o
  obtain ⟨_, _, ⟨f1, f2⟩, ⟨g1, g2⟩, _⟩ := o
  unfold Dim.pl Dim.fb Dim.ff Dim.fu Dim.fr
  omega
theorem block_place {d : Dim} (o : d.ok) {k : Int} (h0 : 0 ≤ k) (h1 : k < d.B) : 0 ≤ d.fb + k ∧ d.fb + k < d.pl := by
  obtain ⟨⟨a1, a2, a3⟩, ⟨b1, b2, b3⟩, ⟨c1, c2, c3⟩⟩ := Dim.bounds o
  obtain ⟨_, _, ⟨f1, f2⟩, ⟨g1, g2⟩, _⟩ := o
  unfold Dim.pl Dim.fb Dim.ff Dim.fu Dim.fr
  omega
/-- a home of a shape, both read -/
structure Hm (C : Addr) (H : Hp) (h sh : Addr) (d : Dim) (pl : Int → List Int) : Prop where
  o : d.ok
  home : HomeAt H h d.pl pl
  shape : ShapeAt C H sh d
theorem Hm.same {H H' : Hp} {h sh : Addr} {d : Dim} {pl : Int → List Int} (s : Same H H') (x : Hm C H h sh d pl) : Hm C H' h sh d pl := ⟨x.o, x.home.same s, x.shape.same s⟩
def spDirAt (C : Addr) : Sp := fun vs H Q _ => ∃ (h sh : Addr) (d : Dim) (pl : Int → List Int) (k : Int), vs = [.ref h, .ref sh, .int k] ∧ Hm C H h sh d pl ∧ (0 ≤ k ∧ k < d.D) ∧ RetO H (dirR pl k) Q
theorem scDirAt : FnScope ["home", "shape", "number", "value"] ["home", "shape", "number"] (defScope sDirAt) := ⟨rfl, rfl, rfl, by decide +kernel, rfl, by decide +kernel, by decide +kernel⟩
theorem ok_dir_at (F : At K mg "dir_at" sDirAt) (T : Txt K mg C) (h1 : Has P w K mg base CX0 1 "cell_at" ["home", "place"] spCellAt) (h2 : HasM P w K mg base CX0 1 C "dir_cell" ["self", "number"] (spDirCell C)) :
    Has P w K mg base CX0 2 "dir_at" ["home", "shape", "number"] (spDirAt C) := by
  obtain ⟨f, fd, F, m⟩ := F.ex
  obtain ⟨f1, fd1, G_cell_at, m_cell_at, k_cell_at, b_cell_at⟩ := h1.ex
  obtain ⟨f2, fd2, G_dir_cell, M_dir_cell, b_dir_cell⟩ := h2.ex
  refine ⟨f, fd, F.ok scDirAt (fun vs H Q E h => ?_) (fun cdv A outer s H vs Q E hr h => ?_), m, F.kp, F.binds fun _ _ _ _ _ _ us hl => match us, hl with | [_, _, _], _ => rfl⟩
  · obtain ⟨h, sh, d, pl, k, rfl, _⟩ := h
    rfl
  · obtain ⟨h, sh, d, pl, k, rfl, hm, ⟨k0, k1⟩, q⟩ := h
    refine ⟨_, ((pss_cons (ps_set (i := 3) scDirAt.nd rfl (Or.inl rfl) (pe_op op_sub (pe_call G_cell_at (hr.mono (by first | decide | omega)) rfl m_cell_at k_cell_at b_cell_at .nil pass0 (pa_cons (pv 0) (pa_cons (pe_meth (pv 1) T.cS M_dir_cell G_dir_cell (hr.mono (by first | decide | omega)) b_dir_cell .nil pass0 (pa_cons (pv 2) pa_nil)) pa_nil))) pe_int))
  (pss_cons (ps_if (PW.pt (pw_or (pt_cmpR op_le (pv 2) (pe_gi rfl T.gFOUND) (nomark _)) (pw_or1 (pt_cmpR op_lt (pv 3) pe_int (nomark _)))))
  (pss_one (ps_ret pe_non))
  pss_nil)
  (pss_one (ps_ret (pe_tup (pa_cons (pe_op op_fdiv (pv 3) (pe_gi rfl T.gNAMES)) (pa_cons (pe_op op_mod (pe_callTy call_int1 (by rfl) T.zint (by decide +kernel) (pa_cons (pv 3) pa_nil)) (pe_gi rfl T.gNAMES)) pa_nil)))))))), ?_⟩
    obtain ⟨dx, hs⟩ := hm.shape
    refine ⟨_, rfl, _, rfl, sh, dx, _, rfl, hs, (sf_none d).2.2.1, _, rfl, sh, k, rfl, fun H1 p s1 np hp => ?_⟩
    obtain ⟨pa, pb⟩ := dir_place hm.o k0 k1
    refine ⟨h, p, d.pl, pl, _, _, rfl, hm.home.same s1, hp, pa, pb, _, _, rfl, rfl, ?_⟩
    -- number <= FOUND or value < 0
    refine ⟨_, rfl, _, _, rfl, rfl, _, rfl, ?_⟩
    have e0 : cell pl (1 + k / 8) (k % 8) = dirV pl k := rfl
    rw [e0]
    by_cases c1 : k ≤ 1
    · rw [decide_eq_true c1]
      refine iteT (iteT ?_)
      exact (q H1 s1).1 (by unfold dirR; rw [if_pos (.inl c1)])
    · rw [decide_eq_false c1]
      refine iteF ⟨_, rfl, _, _, rfl, rfl, _, rfl, ?_⟩
      by_cases c2 : dirV pl k - 1 < 0
      · rw [decide_eq_true c2]
        exact iteT ((q H1 s1).1 (by unfold dirR; rw [if_pos (.inr c2)]))
      · rw [decide_eq_false c2]
        refine iteF ⟨_, rfl, _, _, rfl, rfl, ⟨by decide, by decide⟩, _, rfl, .inl ⟨_, rfl, _, _, rfl, rfl, (by show (0 : Int) < NM; decide), (by show 2 ≤ sizeLine; decide), fun p2 np2 => ?_⟩⟩
        exact (q _ (same_new s1 np2)).2 [(dirV pl k - 1) / NM, (dirV pl k - 1) % NM] p2 (by unfold dirR; rw [if_neg (fun z => z.elim c1 c2)]) (s1.free np2) upd_same
def spRowAt (C : Addr) : Sp := fun vs H Q _ => ∃ (h sh : Addr) (d : Dim) (pl : Int → List Int) (k : Int), vs = [.ref h, .ref sh, .int k] ∧ Hm C H h sh d pl ∧ (0 ≤ k ∧ k < d.R) ∧ RetO H (rowR d pl k) Q
theorem scRowAt : FnScope ["home", "shape", "number", "value", "arrow"] ["home", "shape", "number"] (defScope sRowAt) := ⟨rfl, rfl, rfl, by decide +kernel, rfl, by decide +kernel, by decide +kernel⟩
theorem ok_row_at (F : At K mg "row_at" sRowAt) (T : Txt K mg C) (h1 : Has P w K mg base CX0 1 "cell_at" ["home", "place"] spCellAt) (h2 : HasM P w K mg base CX0 1 C "row_cell" ["self", "number"] (spRowCell C)) :
    Has P w K mg base CX0 2 "row_at" ["home", "shape", "number"] (spRowAt C) := by
  obtain ⟨f, fd, F, m⟩ := F.ex
  obtain ⟨f1, fd1, G_cell_at, m_cell_at, k_cell_at, b_cell_at⟩ := h1.ex
  obtain ⟨f2, fd2, G_row_cell, M_row_cell, b_row_cell⟩ := h2.ex
  refine ⟨f, fd, F.ok scRowAt (fun vs H Q E h => ?_) (fun cdv A outer s H vs Q E hr h => ?_), m, F.kp, F.binds fun _ _ _ _ _ _ us hl => match us, hl with | [_, _, _], _ => rfl⟩
  · obtain ⟨h, sh, d, pl, k, rfl, _⟩ := h
    rfl
  · obtain ⟨h, sh, d, pl, k, rfl, hm, ⟨k0, k1⟩, q⟩ := h
    refine ⟨_, ((pss_cons (ps_set (i := 3) scRowAt.nd rfl (Or.inl rfl) (pe_op op_sub (pe_call G_cell_at (hr.mono (by first | decide | omega)) rfl m_cell_at k_cell_at b_cell_at .nil pass0 (pa_cons (pv 0) (pa_cons (pe_meth (pv 1) T.cS M_row_cell G_row_cell (hr.mono (by first | decide | omega)) b_row_cell .nil pass0 (pa_cons (pv 2) pa_nil)) pa_nil))) pe_int))
  (pss_cons (ps_if (pt_cmpR op_lt (pv 3) pe_int (nomark _))
  (pss_one (ps_ret pe_non))
  pss_nil)
  (pss_cons (ps_set (i := 4) scRowAt.nd rfl (Or.inl rfl) (pe_op op_fdiv (pv 3) (pe_fld (pv 1) rfl)))
  (pss_one (ps_ret (pe_tup (pa_cons (pe_op op_fdiv (pv 4) (pe_gi rfl T.gNAMES)) (pa_cons (pe_op op_mod (pe_callTy call_int1 (by rfl) T.zint (by decide +kernel) (pa_cons (pv 4) pa_nil)) (pe_gi rfl T.gNAMES)) (pa_cons (pe_op op_mod (pe_callTy call_int1 (by rfl) T.zint (by decide +kernel) (pa_cons (pv 3) pa_nil)) (pe_fld (pv 1) rfl)) pa_nil)))))))))), ?_⟩
    obtain ⟨dx, hs⟩ := hm.shape
    have hF := hm.o.2.2.1
    refine ⟨_, rfl, _, rfl, sh, dx, _, rfl, hs, (sf_none d).2.2.2.1, _, rfl, sh, d, k, rfl, hm.shape, fun H1 p s1 np hp => ?_⟩
    obtain ⟨pa, pb⟩ := row_place hm.o k0 k1
    refine ⟨h, p, d.pl, pl, _, _, rfl, hm.home.same s1, hp, pa, pb, _, _, rfl, rfl, ?_⟩
    refine ⟨_, rfl, _, _, rfl, rfl, _, rfl, ?_⟩
    have e0 : cell pl (d.fr + k / 8) (k % 8) = rowV d pl k := rfl
    rw [e0]
    have hs1 := s1 _ _ hs
    by_cases c2 : rowV d pl k - 1 < 0
    · rw [decide_eq_true c2]
      exact iteT ((q H1 s1).1 (by unfold rowR; rw [if_pos c2]))
    · rw [decide_eq_false c2]
      refine iteF ⟨_, rfl, _, rfl, sh, C, dx, _, _, rfl, hs1, T.cS, T.na, sf_files d, _, _, rfl, rfl, ⟨by omega, by omega⟩, _, rfl, _, _, rfl, rfl, ⟨by decide, by decide⟩, _, rfl, .inl ⟨_, rfl, _, _, rfl, rfl, (by show (0 : Int) < NM; decide),
        _, rfl, .inl ⟨_, rfl, _, rfl, sh, C, dx, _, _, rfl, hs1, T.cS, T.na, sf_files d, _, _, rfl, rfl, (by show (0 : Int) < d.F; omega), (by show 3 ≤ sizeLine; decide), fun p2 np2 => ?_⟩⟩⟩
      exact (q _ (same_new s1 np2)).2 _ p2 (by unfold rowR; rw [if_neg c2]) (s1.free np2) upd_same
def spIsDir (C : Addr) : Sp := fun vs H Q _ => ∃ (h sh : Addr) (d : Dim) (pl : Int → List Int) (k : Int), vs = [.ref h, .ref sh, .int k] ∧ Hm C H h sh d pl ∧ (2 ≤ k ∧ k < d.D) ∧ RetV H (.bl (decide (1 ≤ dirV pl k))) Q
theorem scIsDir : FnScope ["home", "shape", "number"] ["home", "shape", "number"] (defScope sIsDir) := ⟨rfl, rfl, rfl, by decide +kernel, rfl, by decide +kernel, by decide +kernel⟩
theorem ok_is_dir (F : At K mg "is_dir" sIsDir) (T : Txt K mg C) (h1 : Has P w K mg base CX0 2 "dir_at" ["home", "shape", "number"] (spDirAt C)) :
    Has P w K mg base CX0 3 "is_dir" ["home", "shape", "number"] (spIsDir C) := by
  obtain ⟨f, fd, F, m⟩ := F.ex
  obtain ⟨f1, fd1, G_dir_at, m_dir_at, k_dir_at, b_dir_at⟩ := h1.ex
  refine ⟨f, fd, F.ok scIsDir (fun vs H Q E h => ?_) (fun cdv A outer s H vs Q E hr h => ?_), m, F.kp, F.binds fun _ _ _ _ _ _ us hl => match us, hl with | [_, _, _], _ => rfl⟩
  · obtain ⟨h, sh, d, pl, k, rfl, _⟩ := h
    rfl
  · obtain ⟨h, sh, d, pl, k, rfl, hm, ⟨k0, k1⟩, q⟩ := h
    refine ⟨_, ((pss_cons (ps_if (pt_not (pt_chain op_le op_lt pe_int (pv 2) (pe_fld (pv 1) rfl)))
  (pss_one (ps_ret pe_bl))
  pss_nil)
  (pss_one (ps_ret (pe_or (pe_cmpR op_le (pv 2) (pe_gi rfl T.gFOUND) (nomark _)) (pe_one (pe_cmpR op_notN (pe_call G_dir_at (hr.mono (by first | decide | omega)) rfl m_dir_at k_dir_at b_dir_at .nil pass0 (pa_cons (pv 0) (pa_cons (pv 1) (pa_cons (pv 2) pa_nil)))) pe_non (nomark _)))))))), ?_⟩
    obtain ⟨dx, hs⟩ := hm.shape
    have z1 : (0 : Int) ≤ k := by omega
    have z2 : ¬ k ≤ 1 := by omega
    refine ⟨_, rfl, _, _, rfl, rfl, _, rfl, ?_⟩
    rw [decide_eq_true z1]
    refine iteT ⟨_, rfl, sh, C, dx, _, _, rfl, hs, T.cS, T.na, sf_dirs d, _, _, rfl, rfl, _, rfl, ?_⟩
    rw [decide_eq_true k1]
    refine iteF ⟨_, rfl, _, _, rfl, rfl, _, rfl, ?_⟩
    rw [decide_eq_false z2]
    refine iteF ⟨_, rfl, _, rfl, _, rfl, h, sh, d, pl, k, rfl, hm, ⟨z1, k1⟩, fun H1 s1 => ⟨fun e => ⟨rfl, ?_⟩, fun l p e np hp => ⟨rfl, ?_⟩⟩⟩
    · have c : ¬ 1 ≤ dirV pl k := fun z => by
        unfold dirR at e
        rw [if_neg (by omega)] at e
        cases e
      have qq := q H1 s1
      rw [decide_eq_false c] at qq
      exact qq
    · have c : 1 ≤ dirV pl k := by
        unfold dirR at e
        by_cases z : k ≤ 1 ∨ dirV pl k - 1 < 0
        · rw [if_pos z] at e
          cases e
        · omega
      have qq := q H1 s1
      rw [decide_eq_true c] at qq
      exact qq
end
end K70
namespace K70
open PySem PySem.Spec PyProof.Rows L2
section
variable {P : Program} {w : World} {K : PySem.W.Frag} {mg : Str → Option Value} {base : Heap} {C : Addr}
/-! ### size_at, owner_at, block_of -/
def sizeR (d : Dim) (pl : Int → List Int) (f : Int) : Int := max 0 (min (cell pl (d.ff + f) 0) 600)
def spSizeAt (C : Addr) : Sp := fun vs H Q _ => ∃ (h sh : Addr) (d : Dim) (pl : Int → List Int) (k : Int), vs = [.ref h, .ref sh, .int k] ∧ Hm C H h sh d pl ∧ (0 ≤ k ∧ k < d.F) ∧ Q (.int (sizeR d pl k)) H
theorem scSizeAt : FnScope ["home", "shape", "file"] ["home", "shape", "file"] (defScope sSizeAt) := ⟨rfl, rfl, rfl, by decide +kernel, rfl, by decide +kernel, by decide +kernel⟩
theorem ok_size_at (F : At K mg "size_at" sSizeAt) (T : Txt K mg C) (h1 : HasM P w K mg base CX0 1 C "file_plate" ["self", "file"] (spFilePlate C)) :
    Has P w K mg base CX0 2 "size_at" ["home", "shape", "file"] (spSizeAt C) := by
  obtain ⟨f, fd, F, m⟩ := F.ex
  obtain ⟨f1, fd1, G_file_plate, M_file_plate, b_file_plate⟩ := h1.ex
  refine ⟨f, fd, F.ok scSizeAt (fun vs H Q E h => ?_) (fun cdv A outer s H vs Q E hr h => ?_), m, F.kp, F.binds fun _ _ _ _ _ _ us hl => match us, hl with | [_, _, _], _ => rfl⟩
  · obtain ⟨h, sh, d, pl, k, rfl, _⟩ := h
    rfl
  · obtain ⟨h, sh, d, pl, k, rfl, hm, ⟨k0, k1⟩, q⟩ := h
    refine ⟨_, ((pss_one (ps_ret (pe_callB (call_min2 rfl) (by rfl) T.zmin (by decide +kernel) (pa_cons (pe_callB (call_max2 rfl) (by rfl) T.zmax (by decide +kernel) (pa_cons (pe_ix ix_tup (pe_dget (hu_of hr) (pv 0) (pe_meth (pv 1) T.cS M_file_plate G_file_plate (hr.mono (by first | decide | omega)) b_file_plate .nil pass0 (pa_cons (pv 2) pa_nil)) (fun _ _ => rfl)) pe_int (fun _ _ => rfl)) (pa_cons pe_int pa_nil))) (pa_cons (pe_gi rfl T.gMOST_SIZE) pa_nil)))))), ?_⟩
    obtain ⟨dx, hs⟩ := hm.shape
    obtain ⟨p0, p1⟩ := file_place hm.o k0 k1
    obtain ⟨t, g, ht, hl⟩ := hm.home.get p0 p1
    refine ⟨_, rfl, _, rfl, sh, dx, _, rfl, hs, (sf_none d).2.2.2.2.2.1, _, rfl, sh, d, k, rfl, hm.shape, h, _, rfl, g, t, _, 0, _, rfl, rfl, st_of ht, plate_at hl (by decide) (by decide), _, _, rfl, _, _, rfl, ?_⟩
    have e : (if (600 : Int) < (if (0 : Int) > (pl (d.ff + k)).getD (Int.toNat 0) 0 then (0 : Int) else (pl (d.ff + k)).getD (Int.toNat 0) 0) then (600 : Int) else (if (0 : Int) > (pl (d.ff + k)).getD (Int.toNat 0) 0 then (0 : Int) else (pl (d.ff + k)).getD (Int.toNat 0) 0)) = sizeR d pl k := by
      unfold sizeR cell
      generalize (pl (d.ff + k)).getD (Int.toNat 0) 0 = z
      split <;> split <;> omega
    rw [e]
    exact q
def ownerR (d : Dim) (pl : Int → List Int) (f : Int) : Int := if 0 ≤ cell pl (d.ff + f) 1 ∧ cell pl (d.ff + f) 1 < d.U then cell pl (d.ff + f) 1 else 0
def spOwnerAt (C : Addr) : Sp := fun vs H Q _ => ∃ (h sh : Addr) (d : Dim) (pl : Int → List Int) (k : Int), vs = [.ref h, .ref sh, .int k] ∧ Hm C H h sh d pl ∧ (0 ≤ k ∧ k < d.F) ∧ Q (.int (ownerR d pl k)) H
theorem scOwnerAt : FnScope ["home", "shape", "file", "owner"] ["home", "shape", "file"] (defScope sOwnerAt) := ⟨rfl, rfl, rfl, by decide +kernel, rfl, by decide +kernel, by decide +kernel⟩
theorem ok_owner_at (F : At K mg "owner_at" sOwnerAt) (T : Txt K mg C) (h1 : HasM P w K mg base CX0 1 C "file_plate" ["self", "file"] (spFilePlate C)) :
    Has P w K mg base CX0 2 "owner_at" ["home", "shape", "file"] (spOwnerAt C) := by
  obtain ⟨f, fd, F, m⟩ := F.ex
  obtain ⟨f1, fd1, G_file_plate, M_file_plate, b_file_plate⟩ := h1.ex
  refine ⟨f, fd, F.ok scOwnerAt (fun vs H Q E h => ?_) (fun cdv A outer s H vs Q E hr h => ?_), m, F.kp, F.binds fun _ _ _ _ _ _ us hl => match us, hl with | [_, _, _], _ => rfl⟩
  · obtain ⟨h, sh, d, pl, k, rfl, _⟩ := h
    rfl
  · obtain ⟨h, sh, d, pl, k, rfl, hm, ⟨k0, k1⟩, q⟩ := h
    refine ⟨_, ((pss_cons (ps_set (i := 3) scOwnerAt.nd rfl (Or.inl rfl) (pe_ix ix_tup (pe_dget (hu_of hr) (pv 0) (pe_meth (pv 1) T.cS M_file_plate G_file_plate (hr.mono (by first | decide | omega)) b_file_plate .nil pass0 (pa_cons (pv 2) pa_nil)) (fun _ _ => rfl)) pe_int (fun _ _ => rfl)))
  (pss_one (ps_ret (pe_ifExp (pt_chain op_le op_lt pe_int (pv 3) (pe_fld (pv 1) rfl)) (pv 3) pe_int))))), ?_⟩
    obtain ⟨dx, hs⟩ := hm.shape
    obtain ⟨p0, p1⟩ := file_place hm.o k0 k1
    obtain ⟨t, g, ht, hl⟩ := hm.home.get p0 p1
    refine ⟨_, rfl, _, rfl, sh, dx, _, rfl, hs, (sf_none d).2.2.2.2.2.1, _, rfl, sh, d, k, rfl, hm.shape, h, _, rfl, g, t, _, 1, _, rfl, rfl, st_of ht, plate_at hl (by decide) (by decide), ?_⟩
    have e0 : (pl (d.ff + k)).getD (Int.toNat 1) 0 = cell pl (d.ff + k) 1 := rfl
    rw [e0]
    refine ⟨_, rfl, _, _, rfl, rfl, _, rfl, ?_⟩
    unfold ownerR at q
    by_cases c1 : 0 ≤ cell pl (d.ff + k) 1
    · rw [decide_eq_true c1]
      refine iteT ⟨_, rfl, sh, C, dx, _, _, rfl, hs, T.cS, T.na, sf_users d, _, _, rfl, rfl, _, rfl, ?_⟩
      by_cases c2 : cell pl (d.ff + k) 1 < d.U
      · rw [decide_eq_true c2]
        rw [if_pos ⟨c1, c2⟩] at q
        exact iteT ⟨_, rfl, q⟩
      · rw [decide_eq_false c2]
        rw [if_neg (fun z => c2 z.2)] at q
        exact iteF q
    · rw [decide_eq_false c1]
      rw [if_neg (fun z => c1 z.1)] at q
      exact iteF ⟨_, rfl, iteF q⟩
/-- where a pointer leads -/
def blkR (B p : Int) : V := if 1 ≤ p ∧ p ≤ B then .int (p - 1) else .non
def spBlockOf (C : Addr) : Sp := fun vs H Q _ => ∃ (sh : Addr) (d : Dim) (p : Int), vs = [.ref sh, .int p] ∧ ShapeAt C H sh d ∧ Q (blkR d.B p) H
theorem scBlockOf : FnScope ["shape", "pointer"] ["shape", "pointer"] (defScope sBlockOf) := ⟨rfl, rfl, rfl, by decide +kernel, rfl, by decide +kernel, by decide +kernel⟩
theorem ok_block_of (F : At K mg "block_of" sBlockOf) (T : Txt K mg C) : Has P w K mg base CX0 1 "block_of" ["shape", "pointer"] (spBlockOf C) := by
  obtain ⟨f, fd, F, m⟩ := F.ex
  refine ⟨f, fd, F.ok scBlockOf (fun vs H Q E h => ?_) (fun cdv A outer s H vs Q E hr h => ?_), m, F.kp, F.binds fun _ _ _ _ _ _ us hl => match us, hl with | [_, _], _ => rfl⟩
  · obtain ⟨sh, d, p, rfl, _⟩ := h
    rfl
  · obtain ⟨sh, d, p, rfl, ⟨dx, hs⟩, q⟩ := h
    refine ⟨_, ((pss_one (ps_ret (pe_ifExp (pt_chain op_le op_le pe_int (pv 1) (pe_fld (pv 0) rfl)) (pe_op op_sub (pv 1) pe_int) pe_non)))), ?_⟩
    refine ⟨_, rfl, _, _, rfl, rfl, _, rfl, ?_⟩
    unfold blkR at q
    by_cases c1 : 1 ≤ p
    · rw [decide_eq_true c1]
      refine iteT ⟨_, rfl, sh, C, dx, _, _, rfl, hs, T.cS, T.na, sf_blocks d, _, _, rfl, rfl, _, rfl, ?_⟩
      by_cases c2 : p ≤ d.B
      · rw [decide_eq_true c2]
        rw [if_pos ⟨c1, c2⟩] at q
        exact iteT ⟨_, rfl, _, _, rfl, rfl, q⟩
      · rw [decide_eq_false c2]
        rw [if_neg (fun z => c2 z.2)] at q
        exact iteF q
    · rw [decide_eq_false c1]
      rw [if_neg (fun z => c1 z.1)] at q
      exact iteF ⟨_, rfl, iteF q⟩
/-! ### spot_of -/
def spotR (n : Int) : List Int := if n < 3 then [3 + n] else if n < 11 then [6, n - 3] else [7, (n - 3 - 8) / 8, (n - 3 - 8) % 8]
def spSpotOf : Sp := fun vs H Q _ => ∃ (n : Int), vs = [.int n] ∧ RetT H (spotR n) Q
theorem scSpotOf : FnScope ["number", "rest"] ["number"] (defScope sSpotOf) := ⟨rfl, rfl, rfl, by decide +kernel, rfl, by decide +kernel, by decide +kernel⟩
theorem ok_spot_of (F : At K mg "spot_of" sSpotOf) (T : Txt K mg C) : Has P w K mg base CX0 1 "spot_of" ["number"] spSpotOf := by
  obtain ⟨f, fd, F, m⟩ := F.ex
  refine ⟨f, fd, F.ok scSpotOf (fun vs H Q E h => ?_) (fun cdv A outer s H vs Q E hr h => ?_), m, F.kp, F.binds fun _ _ _ _ _ _ us hl => match us, hl with | [_], _ => rfl⟩
  · obtain ⟨n, rfl, _⟩ := h
    rfl
  · obtain ⟨n, rfl, q⟩ := h
    refine ⟨_, ((pss_cons (ps_if (pt_cmpR op_lt (pv 0) (pe_gi rfl T.gDIRECT) (nomark _))
  (pss_one (ps_ret (pe_tup (pa_cons (pe_op op_add (pe_op op_sub (pe_op op_sub (pe_gi rfl T.gWIDTH) (pe_gi rfl T.gDIRECT)) pe_int) (pv 0)) pa_nil))))
  pss_nil)
  (pss_cons (ps_if (pt_cmpR op_lt (pv 0) (pe_op op_add (pe_gi rfl T.gDIRECT) (pe_gi rfl T.gWIDTH)) (nomark _))
  (pss_one (ps_ret (pe_tup (pa_cons (pe_op op_sub (pe_gi rfl T.gWIDTH) pe_int) (pa_cons (pe_op op_sub (pv 0) (pe_gi rfl T.gDIRECT)) pa_nil)))))
  pss_nil)
  (pss_cons (ps_set (i := 1) scSpotOf.nd rfl (Or.inl rfl) (pe_op op_sub (pe_op op_sub (pv 0) (pe_gi rfl T.gDIRECT)) (pe_gi rfl T.gWIDTH)))
  (pss_one (ps_ret (pe_tup (pa_cons (pe_op op_sub (pe_gi rfl T.gWIDTH) pe_int) (pa_cons (pe_op op_fdiv (pv 1) (pe_gi rfl T.gWIDTH)) (pa_cons (pe_op op_mod (pe_callTy call_int1 (by rfl) T.zint (by decide +kernel) (pa_cons (pv 1) pa_nil)) (pe_gi rfl T.gWIDTH)) pa_nil)))))))))), ?_⟩
    refine ⟨_, rfl, _, _, rfl, rfl, _, rfl, ?_⟩
    unfold spotR at q
    by_cases c1 : n < 3
    · rw [decide_eq_true c1]
      rw [if_pos c1] at q
      exact iteT ⟨_, _, rfl, rfl, _, _, rfl, rfl, _, rfl, _, _, rfl, rfl, (by show 1 ≤ sizeLine; decide), fun p hp => q _ p (same_upd hp) hp upd_same⟩
    · rw [decide_eq_false c1]
      rw [if_neg c1] at q
      refine iteF ⟨_, rfl, _, _, rfl, rfl, _, _, rfl, rfl, _, rfl, ?_⟩
      have e11 : decide (n < 3 + 8) = decide (n < 11) := rfl
      rw [e11]
      by_cases c2 : n < 11
      · rw [decide_eq_true c2]
        rw [if_pos c2] at q
        exact iteT ⟨_, _, rfl, rfl, _, rfl, _, _, rfl, rfl, (by show 2 ≤ sizeLine; decide), fun p hp => q _ p (same_upd hp) hp upd_same⟩
      · rw [decide_eq_false c2]
        rw [if_neg c2] at q
        refine iteF ⟨_, rfl, _, _, rfl, rfl, _, _, rfl, rfl, _, _, rfl, rfl, _, rfl, _, _, rfl, rfl, ⟨by decide, by decide⟩, _, rfl, .inl ⟨_, rfl, _, _, rfl, rfl, (by show (0 : Int) < 8; decide), (by show 3 ≤ sizeLine; decide), fun p hp => q _ p (same_upd hp) hp upd_same⟩⟩
/-! ### data_block -/
/-- along the places, from a plate -/
def walkR (d : Dim) (pl : Int → List Int) : List Int → List Int → V → V
  | [], _, b => b
  | j :: r, p, _ => if 1 ≤ p.getD j.toNat 0 ∧ p.getD j.toNat 0 ≤ d.B then walkR d pl r (pl (d.fb + (p.getD j.toNat 0 - 1))) (.int (p.getD j.toNat 0 - 1)) else .non
def dataR (d : Dim) (pl : Int → List Int) (f n : Int) : V := walkR d pl (spotR n) (pl (d.ff + f)) .non
theorem spot_in {n : Int} (h0 : 0 ≤ n) (h1 : n < 75) : ∀ j ∈ spotR n, 0 ≤ j ∧ j < 8 := by
  unfold spotR
  intro j hj
  split at hj
  · simp at hj; omega
  · split at hj
    · simp at hj; omega
    · simp at hj; omega
def spDataBlock (C : Addr) : Sp := fun vs H Q _ => ∃ (h sh : Addr) (d : Dim) (pl : Int → List Int) (k n : Int), vs = [.ref h, .ref sh, .int k, .int n] ∧ Hm C H h sh d pl ∧ (0 ≤ k ∧ k < d.F) ∧ (0 ≤ n ∧ n < 75) ∧ RetV H (dataR d pl k n) Q
theorem scDataBlock : FnScope ["home", "shape", "file", "number", "place", "plate", "block"] ["home", "shape", "file", "number"] (defScope sDataBlock) := ⟨rfl, rfl, rfl, by decide +kernel, rfl, by decide +kernel, by decide +kernel⟩
theorem ok_data_block (F : At K mg "data_block" sDataBlock) (T : Txt K mg C) (h1 : HasM P w K mg base CX0 1 C "file_plate" ["self", "file"] (spFilePlate C)) (h2 : HasM P w K mg base CX0 1 C "block_plate" ["self", "block"] (spBlockPlate C))
    (h3 : Has P w K mg base CX0 1 "spot_of" ["number"] spSpotOf) (h4 : Has P w K mg base CX0 1 "block_of" ["shape", "pointer"] (spBlockOf C)) :
    Has P w K mg base CX0 2 "data_block" ["home", "shape", "file", "number"] (spDataBlock C) := by
  obtain ⟨f, fd, F, m⟩ := F.ex
  obtain ⟨f1, fd1, G_file_plate, M_file_plate, b_file_plate⟩ := h1.ex
  obtain ⟨f2, fd2, G_block_plate, M_block_plate, b_block_plate⟩ := h2.ex
  obtain ⟨f3, fd3, G_spot_of, m_spot_of, k_spot_of, b_spot_of⟩ := h3.ex
  obtain ⟨f4, fd4, G_block_of, m_block_of, k_block_of, b_block_of⟩ := h4.ex
  refine ⟨f, fd, F.ok scDataBlock (fun vs H Q E h => ?_) (fun cdv A outer s H vs Q E hr h => ?_), m, F.kp, F.binds fun _ _ _ _ _ _ us hl => match us, hl with | [_, _, _, _], _ => rfl⟩
  · obtain ⟨h, sh, d, pl, k, n, rfl, _⟩ := h
    rfl
  · obtain ⟨h, sh, d, pl, k, n, rfl, hm, ⟨k0, k1⟩, ⟨n0, n1⟩, q⟩ := h
    refine ⟨_, ((pss_cons (ps_par (i := 5) (j := 6) rfl scDataBlock.nd rfl rfl (by decide) rfl rfl (pa_cons (pe_dget (hu_of hr) (pv 0) (pe_meth (pv 1) T.cS M_file_plate G_file_plate (hr.mono (by first | decide | omega)) b_file_plate .nil pass0 (pa_cons (pv 2) pa_nil)) (fun _ _ => rfl)) (pa_cons pe_non pa_nil)) (by rfl))
  (pss_cons (ps_for PassesOwn.never rfl (pi_tup (pe_call G_spot_of (hr.mono (by first | decide | omega)) rfl m_spot_of k_spot_of b_spot_of .nil pass0 (pa_cons (pv 3) pa_nil))) (pg_name (i := 4) scDataBlock.nd rfl (Or.inl rfl))
  (pss_cons (ps_set (i := 6) scDataBlock.nd rfl (Or.inl rfl) (pe_call G_block_of (hr.mono (by first | decide | omega)) rfl m_block_of k_block_of b_block_of .nil pass0 (pa_cons (pv 1) (pa_cons (pe_ix ix_tup (pv 5) (pv 4) (fun _ _ => rfl)) pa_nil))))
  (pss_cons (ps_if (pt_cmpR op_isN (pv 6) pe_non (nomark _))
  (pss_one (ps_ret pe_non))
  pss_nil)
  (pss_one (ps_set (i := 5) scDataBlock.nd rfl (Or.inl rfl) (pe_dget (hu_of hr) (pv 0) (pe_meth (pv 1) T.cS M_block_plate G_block_plate (hr.mono (by first | decide | omega)) b_block_plate .nil pass0 (pa_cons (pv 6) pa_nil)) (fun _ _ => rfl)))))))
  (pss_one (ps_ret (pv 6)))))), ?_⟩
    obtain ⟨dx, hs⟩ := hm.shape
    obtain ⟨p0, p1⟩ := file_place hm.o k0 k1
    obtain ⟨t, g, ht, hl⟩ := hm.home.get p0 p1
    refine ⟨_, rfl, _, rfl, sh, dx, _, rfl, hs, (sf_none d).2.2.2.2.2.1, _, rfl, sh, d, k, rfl, hm.shape, h, _, rfl, g, _, _, rfl, ?_⟩
    -- for place in spot_of(number)
    refine ⟨_, rfl, n, rfl, fun H1 p s1 np hp => ?_⟩
    refine ⟨p, rfl, ⟨_, st_of hp⟩, for_tup (K := K) (a := p) (xs := (spotR n).map V.int) (fun i σ H' => ∃ (x : Option V) (b : V) (u : Addr) (l : List Int), σ = [some (.ref h), some (.ref sh), some (.int k), some (.int n), x, some (.ref u), some b] ∧ Same H1 H' ∧ H' u = some (.tup (l.map V.int)) ∧ l.length = 8 ∧
      walkR d pl ((spotR n).drop i) l b = dataR d pl k n) ⟨none, .non, t, pl (d.ff + k), rfl, Same.refl _, s1 _ _ ht, hl, rfl⟩ (fun i σ H' _ ⟨x, b, u, l, _, s2, _⟩ => st_of (s2 _ _ hp)) ?_ ?_⟩
    · rintro i y σ H' hi ⟨x, b, u, l, rfl, s2, hu, l8, e⟩
      obtain ⟨j, hj, rfl⟩ : ∃ j, (spotR n)[i]? = some j ∧ y = V.int j := by
        rw [List.getElem?_map] at hi
        cases q1 : (spotR n)[i]? with
        | none => rw [q1] at hi; cases hi
        | some j => rw [q1] at hi; exact ⟨j, rfl, (Option.some.inj hi).symm⟩
      obtain ⟨j0, j1⟩ := spot_in n0 n1 j (List.mem_of_getElem? hj)
      have ed : (spotR n).drop i = j :: (spotR n).drop (i + 1) := by
        obtain ⟨hlt, hg⟩ := List.getElem?_eq_some_iff.mp hj
        rw [List.drop_eq_getElem_cons hlt, hg]
      rw [ed] at e
      have s3 := s1.trans s2
      have hs' := s3 _ _ hs
      refine ⟨_, rfl, _, rfl, _, rfl, u, _, j, _, rfl, rfl, st_of hu, plate_at l8 j0 j1, sh, d, _, rfl, hm.shape.same s3, ?_⟩
      unfold walkR at e
      unfold blkR
      generalize hz : l.getD j.toNat 0 = z at e ⊢
      by_cases c : 1 ≤ z ∧ z ≤ d.B
      · rw [if_pos c] at e ⊢
        obtain ⟨q0, q1⟩ := block_place hm.o (k := z - 1) (by omega) (by omega)
        obtain ⟨t2, g2, ht2, hl2⟩ := (hm.home.same s3).get q0 q1
        refine ⟨_, rfl, rfl, false, rfl, iteF ⟨_, rfl, _, rfl, sh, dx, _, rfl, hs', (sf_none d).2.2.2.2.2.2, _, rfl, sh, d, _, rfl, hm.shape.same s3, h, _, rfl, g2, ?_⟩⟩
        exact ⟨_, _, t2, _, rfl, s2, ht2, hl2, e⟩
      · rw [if_neg c] at e ⊢
        refine ⟨_, rfl, rfl, true, rfl, iteT ?_⟩
        have qq := q H' s3
        rw [← e] at qq
        exact qq
    · rintro σ H' ⟨x, b, u, l, rfl, s2, hu, l8, e⟩
      rw [List.length_map, List.drop_length] at e
      refine ⟨_, rfl, ?_⟩
      have qq := q H' (s1.trans s2)
      rw [← e] at qq
      exact qq
end
end K70
namespace K70
open PySem PySem.Spec PyProof.Rows L2
/-! ### numbers_at, content_of -/
def numR (d : Dim) (pl : Int → List Int) (f a : Int) : Int := match dataR d pl f (a / 8) with
  | .int b => cell pl (d.fb + b) (a % 8)
  | _ => 0
/-- a hole, or a block of the disk -/
def BlkOk (d : Dim) (v : V) : Prop := v = .non ∨ ∃ b, v = .int b ∧ 0 ≤ b ∧ b < d.B
theorem walk_ok {d : Dim} {pl : Int → List Int} : ∀ (l p : List Int) (b : V), BlkOk d b → BlkOk d (walkR d pl l p b)
  | [], _, _, h => h
  | j :: r, p, b, _ => by
    unfold walkR
    split
    · rename_i c
      exact walk_ok r _ _ (.inr ⟨_, rfl, by omega, by omega⟩)
    · exact .inl rfl
theorem data_ok (d : Dim) (pl : Int → List Int) (f n : Int) : BlkOk d (dataR d pl f n) := walk_ok _ _ _ (.inl rfl)
theorem nums_more (f : Int → Int) (i : Nat) : (List.range (i + 1)).map (fun a : Nat => V.int (f a)) = (List.range i).map (fun a : Nat => V.int (f a)) ++ [.int (f i)] := by
  rw [List.range_succ, List.map_append]
  rfl
section
variable {P : Program} {w : World} {K : PySem.W.Frag} {mg : Str → Option Value} {base : Heap} {C : Addr}
def spNumbersAt (C : Addr) : Sp := fun vs H Q _ => ∃ (h sh : Addr) (d : Dim) (pl : Int → List Int) (k : Int) (m : Nat), vs = [.ref h, .ref sh, .int k, .int 0, .int m] ∧ Hm C H h sh d pl ∧ (0 ≤ k ∧ k < d.F) ∧ m ≤ 600 ∧
  RetT H ((List.range m).map fun a : Nat => numR d pl k a) Q
theorem scNumbersAt : FnScope ["home", "shape", "file", "start", "end", "found", "at", "block"] ["home", "shape", "file", "start", "end"] (defScope sNumbersAt) := ⟨rfl, rfl, rfl, by decide +kernel, rfl, by decide +kernel, by decide +kernel⟩
theorem ok_numbers_at (F : At K mg "numbers_at" sNumbersAt) (T : Txt K mg C) (h1 : HasM P w K mg base CX0 1 C "block_plate" ["self", "block"] (spBlockPlate C)) (h2 : Has P w K mg base CX0 2 "data_block" ["home", "shape", "file", "number"] (spDataBlock C)) :
    Has P w K mg base CX0 3 "numbers_at" ["home", "shape", "file", "start", "end"] (spNumbersAt C) := by
  obtain ⟨f, fd, F, m⟩ := F.ex
  obtain ⟨f1, fd1, G_block_plate, M_block_plate, b_block_plate⟩ := h1.ex
  obtain ⟨f2, fd2, G_data_block, m_data_block, k_data_block, b_data_block⟩ := h2.ex
  refine ⟨f, fd, F.ok scNumbersAt (fun vs H Q E h => ?_) (fun cdv A outer s H vs Q E hr h => ?_), m, F.kp, F.binds fun _ _ _ _ _ _ us hl => match us, hl with | [_, _, _, _, _], _ => rfl⟩
  · obtain ⟨h, sh, d, pl, k, m, rfl, _⟩ := h
    rfl
  · obtain ⟨h, sh, d, pl, k, m, rfl, hm, ⟨k0, k1⟩, m1, q⟩ := h
    refine ⟨_, ((pss_cons (ps_set (i := 5) scNumbersAt.nd rfl (Or.inl rfl) (pe_lst pa_nil))
  (pss_cons (ps_for PassesOwn.never rfl (pi_range2 rfl T.zrange (pa_cons (pv 3) (pa_cons (pv 4) pa_nil))) (pg_name (i := 6) scNumbersAt.nd rfl (Or.inl rfl))
  (pss_cons (ps_set (i := 7) scNumbersAt.nd rfl (Or.inl rfl) (pe_call G_data_block (hr.mono (by first | decide | omega)) rfl m_data_block k_data_block b_data_block .nil pass0 (pa_cons (pv 0) (pa_cons (pv 1) (pa_cons (pv 2) (pa_cons (pe_op op_fdiv (pv 6) (pe_gi rfl T.gWIDTH)) pa_nil))))))
  (pss_one (ps_expr (pe_bm PySem.F.plainAttrs_list PySem.F.slot_list_append PySem.F.type_list_append mt_append (pv 5) (pa_cons (pe_ifExp (pt_cmpR op_isN (pv 7) pe_non (nomark _)) pe_int (pe_ix ix_tup (pe_dget (hu_of hr) (pv 0) (pe_meth (pv 1) T.cS M_block_plate G_block_plate (hr.mono (by first | decide | omega)) b_block_plate .nil pass0 (pa_cons (pv 7) pa_nil)) (fun _ _ => rfl)) (pe_op op_mod (pe_callTy call_int1 (by rfl) T.zint (by decide +kernel) (pa_cons (pv 6) pa_nil)) (pe_gi rfl T.gWIDTH)) (fun _ _ => rfl))) pa_nil))))))
  (pss_one (ps_ret (pe_callTy call_tuple_of (by rfl) T.ztuple (by decide +kernel) (pa_cons (pv 5) pa_nil))))))), ?_⟩
    obtain ⟨dx, hs⟩ := hm.shape
    refine ⟨Nat.zero_le _, fun l nl => ?_⟩
    have s1 : Same H (upd H l (.lst [])) := same_upd nl
    have en : (((m : Int) - 0).toNat) = m := by omega
    refine ⟨_, rfl, _, rfl, _, _, rfl, ⟨by decide, by decide, by omega, by omega⟩, ?_⟩
    rw [en]
    refine for_range (lo := 0) (n := m) (fun i σ H' => ∃ (x y : Option V), σ = [some (.ref h), some (.ref sh), some (.int k), some (.int 0), some (.int m), some (.ref l), x, y] ∧ Same H H' ∧ H' l = some (.lst ((List.range i).map fun a : Nat => V.int (numR d pl k a))))
      ⟨none, none, rfl, s1, upd_same⟩ ?_ ?_
    · rintro i σ H' hi ⟨x, y, rfl, s2, hL⟩
      have ei : (0 : Int) + (i : Nat) = (i : Int) := Int.zero_add _
      rw [ei]
      have hs' := s2 _ _ hs
      refine ⟨_, rfl, _, rfl, _, rfl, _, rfl, _, _, rfl, rfl, ⟨by decide, by decide⟩, h, sh, d, pl, k, _, rfl, hm.same s2, ⟨k0, k1⟩, ⟨by omega, by omega⟩, fun H2 s3 => ?_⟩
      have s4 := s2.trans s3
      have hL2 := s3 _ _ hL
      have lenL : ((List.range i).map fun a : Nat => V.int (numR d pl k a)).length < sizeLine := by
        rw [List.length_map, List.length_range, sizeLine_eq]
        omega
      refine ⟨_, rfl, .inl ⟨rfl, _, sl_of hL2⟩, _, rfl, rfl, ?_⟩
      have more := nums_more (fun a => numR d pl k a) i
      rcases data_ok d pl k (i / 8) with e | ⟨b, e, b0, b1⟩
      · have en : numR d pl k i = 0 := by unfold numR; rw [e]
        rw [e]
        refine ⟨true, rfl, iteT ⟨l, _, _, rfl, rfl, hL2, lenL, ?_⟩⟩
        refine ⟨_, _, rfl, same_mut s4 nl, ?_⟩
        rw [more, en]
        exact upd_same
      · have en : numR d pl k i = cell pl (d.fb + b) ((i : Int) % 8) := by unfold numR; rw [e]
        rw [e]
        obtain ⟨p0, p1⟩ := block_place hm.o b0 b1
        obtain ⟨t, g, ht, hl⟩ := (hm.home.same s4).get p0 p1
        refine ⟨false, rfl, iteF ⟨_, rfl, _, rfl, sh, dx, _, rfl, s4 _ _ hs, (sf_none d).2.2.2.2.2.2, _, rfl, sh, d, b, rfl, hm.shape.same s4, h, _, rfl, g, _, rfl, .inl ⟨_, rfl, _, _, rfl, rfl, (by show (0 : Int) < 8; decide), t, _, _, _, rfl, rfl, st_of ht, plate_at hl (by omega) (by omega), l, _, _, rfl, rfl, hL2, lenL, ?_⟩⟩⟩
        refine ⟨_, _, rfl, same_mut s4 nl, ?_⟩
        rw [more, en]
        exact upd_same
    · rintro σ H' ⟨x, y, rfl, s2, hL⟩
      refine ⟨_, rfl, l, _, rfl, .inl ⟨sl_of hL, fun p np => ?_⟩⟩
      refine q _ p (same_new s2 np) (s2.free np) ?_
      rw [upd_same, List.map_map]
      rfl
def spContentOf (C : Addr) : Sp := fun vs H Q _ => ∃ (h sh : Addr) (d : Dim) (pl : Int → List Int) (k : Int), vs = [.ref h, .ref sh, .int k] ∧ Hm C H h sh d pl ∧ (0 ≤ k ∧ k < d.F) ∧
  RetT H ((List.range (sizeR d pl k).toNat).map fun a : Nat => numR d pl k a) Q
theorem scContentOf : FnScope ["home", "shape", "file"] ["home", "shape", "file"] (defScope sContentOf) := ⟨rfl, rfl, rfl, by decide +kernel, rfl, by decide +kernel, by decide +kernel⟩
theorem size_in (d : Dim) (pl : Int → List Int) (f : Int) : 0 ≤ sizeR d pl f ∧ sizeR d pl f ≤ 600 := by
  unfold sizeR
  omega
theorem ok_content_of (F : At K mg "content_of" sContentOf) (T : Txt K mg C) (h1 : Has P w K mg base CX0 2 "size_at" ["home", "shape", "file"] (spSizeAt C)) (h2 : Has P w K mg base CX0 3 "numbers_at" ["home", "shape", "file", "start", "end"] (spNumbersAt C)) :
    Has P w K mg base CX0 4 "content_of" ["home", "shape", "file"] (spContentOf C) := by
  obtain ⟨f, fd, F, m⟩ := F.ex
  obtain ⟨f1, fd1, G_size_at, m_size_at, k_size_at, b_size_at⟩ := h1.ex
  obtain ⟨f2, fd2, G_numbers_at, m_numbers_at, k_numbers_at, b_numbers_at⟩ := h2.ex
  refine ⟨f, fd, F.ok scContentOf (fun vs H Q E h => ?_) (fun cdv A outer s H vs Q E hr h => ?_), m, F.kp, F.binds fun _ _ _ _ _ _ us hl => match us, hl with | [_, _, _], _ => rfl⟩
  · obtain ⟨h, sh, d, pl, k, rfl, _⟩ := h
    rfl
  · obtain ⟨h, sh, d, pl, k, rfl, hm, ⟨k0, k1⟩, q⟩ := h
    refine ⟨_, ((pss_one (ps_ret (pe_call G_numbers_at (hr.mono (by first | decide | omega)) rfl m_numbers_at k_numbers_at b_numbers_at .nil pass0 (pa_cons (pv 0) (pa_cons (pv 1) (pa_cons (pv 2) (pa_cons pe_int (pa_cons (pe_call G_size_at (hr.mono (by first | decide | omega)) rfl m_size_at k_size_at b_size_at .nil pass0 (pa_cons (pv 0) (pa_cons (pv 1) (pa_cons (pv 2) pa_nil)))) pa_nil))))))))), ?_⟩
    obtain ⟨z0, z1⟩ := size_in d pl k
    refine ⟨_, rfl, _, rfl, _, rfl, _, rfl, _, rfl, _, rfl, h, sh, d, pl, k, rfl, hm, ⟨k0, k1⟩, h, sh, d, pl, k, (sizeR d pl k).toNat, ?_, hm, ⟨k0, k1⟩, by omega, q⟩
    rw [Int.toNat_of_nonneg z0]
    rfl
/-! ### met_below -/
def metR (d : Dim) (pl : Int → List Int) : Nat → Int → List Int
  | 0, p => if 1 ≤ p ∧ p ≤ d.B then [p - 1] else []
  | n + 1, p => if 1 ≤ p ∧ p ≤ d.B then (p - 1) :: (pl (d.fb + (p - 1))).flatMap (metR d pl n) else []
def mbound : Nat → Nat
  | 0 => 1
  | n + 1 => 1 + 8 * mbound n
theorem flat_le {α β : Type} (f : α → List β) (b : Nat) (h : ∀ x, (f x).length ≤ b) : ∀ l : List α, (l.flatMap f).length ≤ l.length * b
  | [] => by simp
  | x :: r => by
    have ih := flat_le f b h r
    have hx := h x
    rw [List.flatMap_cons, List.length_append, List.length_cons, Nat.add_mul, Nat.one_mul]
    omega
theorem met_len {d : Dim} {pl : Int → List Int} (o : d.ok) (hp : ∀ i, 0 ≤ i → i < d.pl → (pl i).length = 8) : ∀ (n : Nat) (p : Int), (metR d pl n p).length ≤ mbound n
  | 0, p => by
    unfold metR mbound
    split <;> simp
  | n + 1, p => by
    unfold metR mbound
    split
    · rename_i c
      obtain ⟨q0, q1⟩ := block_place o (k := p - 1) (by omega) (by omega)
      have l8 := hp _ q0 q1
      have := flat_le (metR d pl n) (mbound n) (met_len o hp n) (pl (d.fb + (p - 1)))
      rw [l8] at this
      rw [List.length_cons]
      omega
    · simp
theorem Hm.len {H : Hp} {h sh : Addr} {d : Dim} {pl : Int → List Int} (x : Hm C H h sh d pl) : ∀ i, 0 ≤ i → i < d.pl → (pl i).length = 8 := fun i h0 h1 => by
  obtain ⟨_, _, _, l⟩ := x.home.get h0 h1
  exact l
theorem mbound_le {n : Nat} (h : n ≤ 2) : mbound n ≤ 73 := by
  match n, h with
  | 0, _ => decide
  | 1, _ => decide
  | 2, _ => decide
def spMetN (C : Addr) (n : Nat) : Sp := fun vs H Q _ => ∃ (h sh : Addr) (d : Dim) (pl : Int → List Int) (p : Int), vs = [.ref h, .ref sh, .int p, .int (n : Int)] ∧ Hm C H h sh d pl ∧ RetL H ((metR d pl n p).map V.int) Q
def spMetBelow (C : Addr) : Sp := fun vs H Q E => ∃ n : Nat, n ≤ 2 ∧ spMetN C n vs H Q E
theorem scMetBelow : FnScope ["home", "shape", "pointer", "level", "block", "found", "one"] ["home", "shape", "pointer", "level"] (defScope sMetBelow) := ⟨rfl, rfl, rfl, by decide +kernel, rfl, by decide +kernel, by decide +kernel⟩
theorem fn_met {f : Addr} {fd : FuncData} (F : Fun K "met_below" "met_below" sMetBelow f fd) (m_met_below : mg "met_below" = some (.ref f)) (T : Txt K mg C) (h1 : HasM P w K mg base CX0 1 C "block_plate" ["self", "block"] (spBlockPlate C)) (h2 : Has P w K mg base CX0 1 "block_of" ["shape", "pointer"] (spBlockOf C)) :
    ∀ n : Nat, n ≤ 2 → FnOk P w K mg base CX0 (n + 2) f fd ["home", "shape", "pointer", "level"] (spMetN C n) := by
  obtain ⟨f1, fd1, G_block_plate, M_block_plate, b_block_plate⟩ := h1.ex
  obtain ⟨f2, fd2, G_block_of, m_block_of, k_block_of, b_block_of⟩ := h2.ex
  have k_met_below := F.kp
  have b_met_below : Binds K fd ["home", "shape", "pointer", "level"] [] := F.binds fun _ _ _ _ _ _ us hl => match us, hl with | [_, _, _, _], _ => rfl
  intro n
  induction n with
  | zero =>
    intro _
    refine F.ok scMetBelow (fun vs H Q E h => ?_) (fun cdv A outer s H vs Q E hr h => ?_)
    · obtain ⟨h, sh, d, pl, k, rfl, _⟩ := h
      rfl
    · obtain ⟨h, sh, d, pl, p, rfl, hm, q⟩ := h
      refine ⟨_, (pss_cons (ps_set (i := 4) scMetBelow.nd rfl (Or.inl rfl) (pe_call G_block_of (hr.mono (by decide)) rfl m_block_of k_block_of b_block_of .nil pass0 (pa_cons (pv 1) (pa_cons (pv 2) pa_nil))))
        (pss_cons (ps_if (pt_cmpR op_isN (pv 4) pe_non (nomark _)) (pss_one (ps_ret (pe_lst pa_nil))) pss_nil)
        (pss_cons (ps_set (i := 5) scMetBelow.nd rfl (Or.inl rfl) (pe_lst (pa_cons (pv 4) pa_nil)))
        (pss_cons (ps_if (pt_cmpR op_gt (pv 3) pe_int (nomark _)) (pss_one ps_never) pss_nil)
        (pss_one (ps_ret (pv 5))))))), ?_⟩
      refine ⟨_, rfl, _, rfl, sh, d, p, rfl, hm.shape, ?_⟩
      unfold metR at q
      unfold blkR
      by_cases c : 1 ≤ p ∧ p ≤ d.B
      · rw [if_pos c] at q ⊢
        refine ⟨_, rfl, rfl, false, rfl, iteF ⟨_, rfl, (by show 1 ≤ sizeLine; decide), fun l nl => ?_⟩⟩
        refine ⟨_, rfl, _, _, rfl, rfl, _, rfl, ?_⟩
        exact iteF ⟨_, rfl, q _ l (same_upd nl) nl upd_same⟩
      · rw [if_neg c] at q ⊢
        exact ⟨_, rfl, rfl, true, rfl, iteT ⟨Nat.zero_le _, fun l nl => q _ l (same_upd nl) nl upd_same⟩⟩
  | succ n ih =>
    intro hn
    have G_met_below := ih (by omega)
    refine F.ok scMetBelow (fun vs H Q E h => ?_) (fun cdv A outer s H vs Q E hr h => ?_)
    · obtain ⟨h, sh, d, pl, k, rfl, _⟩ := h
      rfl
    · obtain ⟨h, sh, d, pl, p, rfl, hm, q⟩ := h
      have hrM : Room (n + 2) _ := hr
      have hr1 : Room 1 _ := hr.mono (by omega)
      refine ⟨_, ((pss_cons (ps_set (i := 4) scMetBelow.nd rfl (Or.inl rfl) (pe_call G_block_of (hr.mono (by first | decide | omega)) rfl m_block_of k_block_of b_block_of .nil pass0 (pa_cons (pv 1) (pa_cons (pv 2) pa_nil))))
  (pss_cons (ps_if (pt_cmpR op_isN (pv 4) pe_non (nomark _))
  (pss_one (ps_ret (pe_lst pa_nil)))
  pss_nil)
  (pss_cons (ps_set (i := 5) scMetBelow.nd rfl (Or.inl rfl) (pe_lst (pa_cons (pv 4) pa_nil)))
  (pss_cons (ps_if (pt_cmpR op_gt (pv 3) pe_int (nomark _))
  (pss_one (ps_for PassesOwn.never rfl (pi_tup (pe_dget (hu_of hr) (pv 0) (pe_meth (pv 1) T.cS M_block_plate G_block_plate (hr.mono (by first | decide | omega)) b_block_plate .nil pass0 (pa_cons (pv 4) pa_nil)) (fun _ _ => rfl))) (pg_name (i := 6) scMetBelow.nd rfl (Or.inl rfl))
  (pss_one (ps_set (i := 5) scMetBelow.nd rfl (Or.inl rfl) (pe_op op_cat (pv 5) (pe_call G_met_below (hr.mono (by first | decide | omega)) rfl m_met_below k_met_below b_met_below .nil pass0 (pa_cons (pv 0) (pa_cons (pv 1) (pa_cons (pv 6) (pa_cons (pe_op op_sub (pv 3) pe_int) pa_nil))))))))))
  pss_nil)
  (pss_one (ps_ret (pv 5)))))))), ?_⟩
      obtain ⟨dx, hs⟩ := hm.shape
      refine ⟨_, rfl, _, rfl, sh, d, p, rfl, hm.shape, ?_⟩
      unfold metR at q
      unfold blkR
      by_cases c : 1 ≤ p ∧ p ≤ d.B
      · rw [if_pos c] at q ⊢
        refine ⟨_, rfl, rfl, false, rfl, iteF ⟨_, rfl, (by show 1 ≤ sizeLine; decide), fun l nl => ?_⟩⟩
        refine ⟨_, rfl, _, _, rfl, rfl, _, rfl, ?_⟩
        have e0 : decide ((0 : Int) < ((n + 1 : Nat) : Int)) = true := decide_eq_true (by omega)
        rw [e0]
        refine iteT ?_
        have s1 : Same H (upd H l (.lst [.int (p - 1)])) := same_upd nl
        obtain ⟨q0, q1⟩ := block_place hm.o (k := p - 1) (by omega) (by omega)
        obtain ⟨t, g, ht, l8⟩ := (hm.home.same s1).get q0 q1
        refine ⟨_, rfl, _, rfl, sh, dx, _, rfl, s1 _ _ hs, (sf_none d).2.2.2.2.2.2, _, rfl, sh, d, _, rfl, hm.shape.same s1, h, _, rfl, g, ?_⟩
        refine ⟨t, rfl, ⟨_, st_of ht⟩, for_tup (K := K) (a := t) (xs := (pl (d.fb + (p - 1))).map V.int) (fun i σ H' => ∃ (x : Option V) (u : Addr), σ = [some (.ref h), some (.ref sh), some (.int p), some (.int ((n + 1 : Nat) : Int)), some (.int (p - 1)), some (.ref u), x] ∧
          Same (upd H l (.lst [.int (p - 1)])) H' ∧ H u = none ∧ H' u = some (.lst (((p - 1) :: ((pl (d.fb + (p - 1))).take i).flatMap (metR d pl n)).map V.int))) ⟨none, l, rfl, Same.refl _, nl, upd_same⟩ (fun i σ H' _ ⟨x, u, _, s2, _⟩ => st_of (s2 _ _ ht)) ?_ ?_⟩
        · rintro i y σ H' hi ⟨x, u, rfl, s2, nu, hu⟩
          obtain ⟨j, hj, rfl⟩ : ∃ j, (pl (d.fb + (p - 1)))[i]? = some j ∧ y = V.int j := by
            rw [List.getElem?_map] at hi
            cases q1 : (pl (d.fb + (p - 1)))[i]? with
            | none => rw [q1] at hi; cases hi
            | some j => rw [q1] at hi; exact ⟨j, rfl, (Option.some.inj hi).symm⟩
          have s3 := s1.trans s2
          have lv : (((n + 1 : Nat) : Int) - 1) = (n : Int) := by omega
          have et : (pl (d.fb + (p - 1))).take (i + 1) = (pl (d.fb + (p - 1))).take i ++ [j] := by
            rw [List.take_succ, hj]
            rfl
          have hb := met_len hm.o hm.len n j
          have hbn := mbound_le (n := n) (by omega)
          have htl := flat_le (metR d pl n) (mbound n) (met_len hm.o hm.len n) ((pl (d.fb + (p - 1))).take i)
          have htk : ((pl (d.fb + (p - 1))).take i).length ≤ 8 := by rw [List.length_take, l8]; omega
          have hmul : ((pl (d.fb + (p - 1))).take i).length * mbound n ≤ 8 * 73 := Nat.mul_le_mul htk hbn
          refine ⟨_, rfl, _, rfl, _, rfl, _, rfl, _, rfl, _, _, rfl, rfl, h, sh, d, pl, j, ?_, hm.same s3, fun H2 r s4 nr hr' => ?_⟩
          · show [V.ref h, V.ref sh, V.int j, V.int (((n + 1 : Nat) : Int) - 1)] = [V.ref h, V.ref sh, V.int j, V.int (n : Int)]
            rw [lv]
          · refine ⟨u, r, _, _, rfl, rfl, s4 _ _ hu, hr', ?_, fun z nz => ?_⟩
            · rw [List.length_map, List.length_map, List.length_cons, sizeLine_eq]
              omega
            · refine ⟨_, z, rfl, same_new (s2.trans s4) nz, (s3.trans s4).free nz, ?_⟩
              rw [upd_same, ← List.map_append, et, List.flatMap_append, List.flatMap_singleton]
              rfl
        · rintro σ H' ⟨x, u, rfl, s2, nu, hu⟩
          rw [List.length_map, List.take_length] at hu
          exact ⟨_, rfl, q _ u (s1.trans s2) nu hu⟩
      · rw [if_neg c] at q ⊢
        exact ⟨_, rfl, rfl, true, rfl, iteT ⟨Nat.zero_le _, fun l nl => q _ l (same_upd nl) nl upd_same⟩⟩
theorem ok_met_below (F : At K mg "met_below" sMetBelow) (T : Txt K mg C) (h1 : HasM P w K mg base CX0 1 C "block_plate" ["self", "block"] (spBlockPlate C)) (h2 : Has P w K mg base CX0 1 "block_of" ["shape", "pointer"] (spBlockOf C)) :
    Has P w K mg base CX0 4 "met_below" ["home", "shape", "pointer", "level"] (spMetBelow C) := by
  obtain ⟨f, fd, F, m⟩ := F.ex
  have G := fn_met (P := P) (w := w) (base := base) F m T h1 h2
  refine ⟨f, fd, ⟨fun vs H Q E h => ?_, fun A outer s H args us vs Q E hr he hb hv h => ?_⟩, m, F.kp, F.binds fun _ _ _ _ _ _ us hl => match us, hl with | [_, _, _, _], _ => rfl⟩
  · obtain ⟨n, hn, h⟩ := h
    exact (G n hn).len vs H Q E h
  · obtain ⟨n, hn, h⟩ := h
    exact (G n hn).run A outer s H args us vs Q E (hr.mono (by omega)) he hb hv h
end
end K70
namespace K70
open PySem PySem.Spec PyProof.Rows L2
/-! ### a dict comprehension over a list -/
theorem dc_list {K : PySem.W.Frag} {a : Addr} {xs : List V} {g : TG} {tt : TT} {tk tv : TE} {vs : List Nat} {σ : L2.St} {H1 : Hp} {D : Addr} {Qd : Hp → Prop} (Pv : Nat → Hp → Prop) (h0 : Pv 0 (upd H1 D (.dK []))) (hl : ∀ i H, i ≤ xs.length → Pv i H → SqL K H a xs)
    (hs : ∀ i x H, xs[i]? = some x → Pv i H → g x (wipe σ vs) H fun σ2 H2 => wipe σ2 vs = wipe σ vs ∧ tt σ2 H2 fun b H3 =>
      if b = true then tk σ2 H3 fun y H4 => tv σ2 H4 fun z H5 => ∃ kvs k, y = kV k ∧ H5 D = some (.dK kvs) ∧ kvs.length < sizeLine ∧ Pv (i + 1) (upd H5 D (.dK (putK kvs k z))) else Pv (i + 1) H3) (hd : ∀ H, Pv xs.length H → Qd H) :
    ∃ W : Nat → Nat → Hp → Prop, (∃ m, W 0 m (upd H1 D (.dK []))) ∧ ∀ i m H, W i m H →
      ((Itl K a).stop i H ∧ Qd H) ∨ ((Itl K a).go i H ∧ ∃ Nx : Hp → Prop, (∀ H', Nx H' → ∃ m', m' < m ∧ W (i + 1) m' H') ∧ ∀ x H', (Itl K a).yld i H x H' → g x (wipe σ vs) H' fun σ2 H2 => wipe σ2 vs = wipe σ vs ∧ tt σ2 H2 fun b H3 =>
        if b = true then tk σ2 H3 fun y H4 => tv σ2 H4 fun z H5 => ∃ kvs k, y = kV k ∧ H5 D = some (.dK kvs) ∧ kvs.length < sizeLine ∧ Nx (upd H5 D (.dK (putK kvs k z))) else Nx H3) := by
  refine ⟨fun i m H => m = xs.length - i ∧ i ≤ xs.length ∧ Pv i H, ⟨xs.length, by simp, Nat.zero_le _, h0⟩, ?_⟩
  rintro i m H ⟨rfl, hi, p⟩
  have q := hl i H hi p
  by_cases hlt : i < xs.length
  · refine .inr ⟨⟨xs, xs[i], q, by simp [hlt]⟩, Pv (i + 1), fun H' p' => ⟨xs.length - (i + 1), by omega, rfl, hlt, p'⟩, fun x H' y => ?_⟩
    obtain ⟨e, y⟩ := y
    subst e
    exact hs i x _ (y xs q) p
  · have e : i = xs.length := by omega
    subst e
    exact .inl ⟨⟨xs, q, Nat.le_refl _⟩, hd H p⟩
/-! ### dicts whose keys are ints, all values True -/
/-- each int once, in the order of its first coming -/
def addK (l : List Int) (k : Int) : List Int := if k ∈ l then l else l ++ [k]
def firsts (l : List Int) : List Int := l.foldl addK []
def kvT (l : List Int) : List (Key × V) := l.map fun k => (Sum.inl k, V.bl true)
theorem kvT_keys (l : List Int) : (kvT l).map (·.1) = l.map Sum.inl := by
  unfold kvT
  rw [List.map_map]
  rfl
theorem kvT_put (l : List Int) (k : Int) : putK (kvT l) (Sum.inl k) (.bl true) = kvT (addK l k) := by
  have e : ((kvT l).any fun kv => decide (kv.1 = Sum.inl k)) = decide (k ∈ l) := by
    unfold kvT
    rw [List.any_map]
    by_cases h : k ∈ l
    · rw [decide_eq_true h, List.any_eq_true]
      exact ⟨k, h, by simp⟩
    · rw [decide_eq_false h, List.any_eq_false]
      intro x hx
      have : x ≠ k := fun z => h (z ▸ hx)
      simpa using this
  unfold putK addK
  rw [e]
  by_cases h : k ∈ l
  · rw [decide_eq_true h, if_pos rfl, if_pos h]
    unfold kvT
    rw [List.map_map]
    refine List.map_congr_left fun x _ => ?_
    show (if (Sum.inl x : Key) = Sum.inl k then ((Sum.inl x : Key), V.bl true) else (Sum.inl x, V.bl true)) = (Sum.inl x, V.bl true)
    split <;> rfl
  · rw [decide_eq_false h, if_neg (by decide), if_neg h]
    unfold kvT
    rw [List.map_append]
    rfl
theorem addK_len (l : List Int) (k : Int) : (addK l k).length ≤ l.length + 1 := by
  unfold addK
  split
  · omega
  · rw [List.length_append, List.length_singleton]; omega
theorem foldl_addK_len : ∀ (l acc : List Int), (l.foldl addK acc).length ≤ acc.length + l.length
  | [], acc => by simp
  | k :: r, acc => by
    have ih := foldl_addK_len r (addK acc k)
    have := addK_len acc k
    rw [List.foldl_cons, List.length_cons]
    omega
theorem firsts_len (l : List Int) : (firsts l).length ≤ l.length := by
  have := foldl_addK_len l []
  unfold firsts
  simpa using this
theorem firsts_snoc (l : List Int) (k : Int) : firsts (l ++ [k]) = addK (firsts l) k := by
  unfold firsts
  rw [List.foldl_append]
  rfl
/-- two lists in order with the same items are one -/
theorem sorted_one {a b : List Int} (ha : a.Pairwise (· ≤ ·)) (hb : b.Pairwise (· ≤ ·)) (p : a.Perm b) : a = b := by
  refine List.Perm.eq_of_pairwise (le := fun x y => x ≤ y) ?_ ha hb p
  intro x y _ _ h1 h2
  exact Int.le_antisymm h1 h2
/-! ### rows -/
/-- the used rows among the first i, with what they say -/
def usedR (d : Dim) (pl : Int → List Int) (i : Nat) : List (Int × List Int) := (List.range i).filterMap fun j : Nat => (rowR d pl (j : Int)).map fun l => ((j : Int), l)
theorem usedR_none {d : Dim} {pl : Int → List Int} {i : Nat} (h : rowR d pl (i : Int) = none) : usedR d pl (i + 1) = usedR d pl i := by
  unfold usedR
  rw [List.range_succ, List.filterMap_append, List.filterMap_cons_none (by rw [h]; rfl)]
  simp
theorem usedR_some {d : Dim} {pl : Int → List Int} {i : Nat} {l : List Int} (h : rowR d pl (i : Int) = some l) : usedR d pl (i + 1) = usedR d pl i ++ [((i : Int), l)] := by
  unfold usedR
  rw [List.range_succ, List.filterMap_append, List.filterMap_cons_some (b := ((i : Int), l)) (by rw [h]; rfl)]
  simp
theorem usedR_len (d : Dim) (pl : Int → List Int) (i : Nat) : (usedR d pl i).length ≤ i := by
  unfold usedR
  refine Nat.le_trans (List.length_filterMap_le _ _) ?_
  rw [List.length_range]
  exact Nat.le_refl _
theorem rowR_len {d : Dim} {pl : Int → List Int} {k : Int} {l : List Int} (h : rowR d pl k = some l) : ∃ a b c, l = [a, b, c] := by
  unfold rowR at h
  split at h
  · cases h
  · exact ⟨_, _, _, (Option.some.inj h).symm⟩
/-- the file that a row names -/
def third (p : Int × List Int) : Int := p.2.getD 2 0
/-- pairs (number, tuple) stand in a list at q -/
def RowsAt (H : Hp) (q : Addr) (l : List (Int × List Int)) : Prop := ∃ ts : List Addr, H q = some (.lst (ts.map V.ref)) ∧ ts.length = l.length ∧
  ∀ (i : Nat) (t : Addr) (a : Int × List Int), ts[i]? = some t → l[i]? = some a → ∃ u, H t = some (.tup [.int a.1, .ref u]) ∧ H u = some (.tup (a.2.map V.int))
theorem snoc_get {α : Type} {l : List α} {x y : α} {i : Nat} (h : (l ++ [x])[i]? = some y) : (i < l.length ∧ l[i]? = some y) ∨ (i = l.length ∧ x = y) := by
  rcases Nat.lt_or_ge i l.length with c | c
  · rw [List.getElem?_append_left c] at h
    exact .inl ⟨c, h⟩
  · rw [List.getElem?_append_right c] at h
    cases e : i - l.length with
    | zero =>
      rw [e] at h
      exact .inr ⟨by omega, Option.some.inj h⟩
    | succ n =>
      rw [e] at h
      simp at h
section
variable {P : Program} {w : World} {K : PySem.W.Frag} {mg : Str → Option Value} {base : Heap} {C : Addr}
def spRowsOf (C : Addr) : Sp := fun vs H Q _ => ∃ (h sh : Addr) (d : Dim) (pl : Int → List Int), vs = [.ref h, .ref sh] ∧ Hm C H h sh d pl ∧ ∀ H' q, Same H H' → RowsAt H' q (usedR d pl d.R.toNat) → Q (.ref q) H'
theorem scRowsOf : FnScope ["home", "shape", "rows", "number", "told"] ["home", "shape"] (defScope sRowsOf) := ⟨rfl, rfl, rfl, by decide +kernel, rfl, by decide +kernel, by decide +kernel⟩
/-- a row's pair, free ones too -/
def RowObj (d : Dim) (pl : Int → List Int) (H : Hp) (t : Addr) (j : Nat) : Prop := ∃ o : V, H t = some (.tup [.int (j : Int), o]) ∧ ((rowR d pl (j : Int) = none ∧ o = .non) ∨ ∃ l u, rowR d pl (j : Int) = some l ∧ o = .ref u ∧ H u = some (.tup (l.map V.int)))
theorem RowObj.same {d : Dim} {pl : Int → List Int} {H H' : Hp} {t : Addr} {j : Nat} (s : Same H H') (x : RowObj d pl H t j) : RowObj d pl H' t j := by
  obtain ⟨o, e, r⟩ := x
  refine ⟨o, s _ _ e, ?_⟩
  rcases r with r | ⟨l, u, r1, r2, r3⟩
  · exact .inl r
  · exact .inr ⟨l, u, r1, r2, s _ _ r3⟩
theorem RowObj.upd {d : Dim} {pl : Int → List Int} {H : Hp} {t D : Addr} {j : Nat} {xs ys : List V} (x : RowObj d pl H t j) (hD : H D = some (.lst xs)) : RowObj d pl (upd H D (.lst ys)) t j := by
  have k : ∀ b zs, H b = some (.tup zs) → L2.upd H D (.lst ys) b = some (.tup zs) := fun b zs e => by
    rw [upd_ne (ne_of e hD (fun z => nomatch z))]
    exact e
  obtain ⟨o, e, r⟩ := x
  refine ⟨o, k _ _ e, ?_⟩
  rcases r with r | ⟨l, u, r1, r2, r3⟩
  · exact .inl r
  · exact .inr ⟨l, u, r1, r2, k _ _ r3⟩
theorem ok_rows_of (F : At K mg "rows_of" sRowsOf) (T : Txt K mg C) (h1 : Has P w K mg base CX0 2 "row_at" ["home", "shape", "number"] (spRowAt C)) :
    Has P w K mg base CX0 3 "rows_of" ["home", "shape"] (spRowsOf C) := by
  obtain ⟨f, fd, F, m⟩ := F.ex
  obtain ⟨f1, fd1, G_row_at, m_row_at, k_row_at, b_row_at⟩ := h1.ex
  refine ⟨f, fd, F.ok scRowsOf (fun vs H Q E h => ?_) (fun cdv A outer s H vs Q E hr h => ?_), m, F.kp, F.binds fun _ _ _ _ _ _ us hl => match us, hl with | [_, _], _ => rfl⟩
  · obtain ⟨h, sh, d, pl, rfl, _⟩ := h
    rfl
  · obtain ⟨h, sh, d, pl, rfl, hm, q⟩ := h
    refine ⟨_, ((pss_cons (ps_setLc (i := 2) (own := [("number", 3)]) (g := gName 3) (tt := tYes) rfl scRowsOf.nd rfl rfl (sw_true rfl rfl rfl (by decide +kernel)) (pi_range1 rfl T.zrange (pa_cons (pe_fld (pv 1) rfl) pa_nil)) (blkOk_by (own := [("number", 3)]) (N := ["home", "shape", "rows", "number", "told"]) (sc := defScope sRowsOf) (by decide +kernel)) (fun _ _ _ _ _ => (pg_name (i := 3) scRowsOf.nd rfl (Or.inl rfl))) (fun _ _ _ _ _ => pts_nil) (fun _ _ _ _ _ => (pe_tup (pa_cons (pv 3) (pa_cons (pe_call G_row_at (hr.mono (by first | decide | omega)) rfl m_row_at k_row_at b_row_at .nil pass0 (pa_cons (pv 0) (pa_cons (pv 1) (pa_cons (pv 3) pa_nil)))) pa_nil)))))
  (pss_one (ps_ret (pe_lc (own := [("number", 3), ("told", 4)]) (g := gTup K 2 (gCons (gName 3) (gCons (gName 4) gNil))) rfl scRowsOf.nd (pi_list (pv 2)) (blkOk_by (own := [("number", 3), ("told", 4)]) (N := ["home", "shape", "rows", "number", "told"]) (sc := defScope sRowsOf) (by decide +kernel)) (fun _ _ _ _ _ => (by exact (pg_tup (by rfl) (pgs_cons (pg_name (i := 3) scRowsOf.nd rfl (Or.inl rfl)) (pgs_cons (pg_name (i := 4) scRowsOf.nd rfl (Or.inl rfl)) pgs_nil))))) (fun _ _ _ _ _ => (pts_one (pt_cmpR op_notN (pv 4) pe_non (nomark _)))) (fun _ _ _ _ _ => (pe_tup (pa_cons (pv 3) (pa_cons (pv 4) pa_nil))))))))), ?_⟩
    obtain ⟨dx, hs⟩ := hm.shape
    have hR := hm.o.2.1
    refine ⟨_, rfl, sh, C, dx, _, _, rfl, hs, T.cS, T.na, sf_rows d, _, rfl, (by omega), (by omega), fun D nD => ?_⟩
    refine lc_range (lo := 0) (n := d.R.toNat) (fun i H' => Same H H' ∧ ∃ ts : List Addr, H' D = some (.lst (ts.map V.ref)) ∧ ts.length = i ∧ ∀ j t, ts[j]? = some t → RowObj d pl H' t j)
      ⟨same_upd nD, [], upd_same, rfl, fun j t e => by simp at e⟩ ?_ ?_
    · rintro i H1 hi ⟨s1, ts, hD, hl, hts⟩
      have ei : (0 : Int) + (i : Nat) = (i : Int) := Int.zero_add _
      rw [ei]
      refine ⟨rfl, _, rfl, _, rfl, _, rfl, _, rfl, h, sh, d, pl, _, rfl, hm.same s1, ⟨by omega, by omega⟩, fun H2 s2 => ?_⟩
      have s3 := s1.trans s2
      have hD2 := s2 _ _ hD
      have fin : ∀ (H3 : Hp) (t : Addr), Same H H3 → H3 D = some (.lst (ts.map V.ref)) → (∀ j t, ts[j]? = some t → RowObj d pl H3 t j) → RowObj d pl H3 t i →
          ∃ acc, H3 D = some (.lst acc) ∧ acc.length < sizeLine ∧ (Same H (upd H3 D (.lst (acc ++ [V.ref t]))) ∧ ∃ ts : List Addr, upd H3 D (.lst (acc ++ [V.ref t])) D = some (.lst (ts.map V.ref)) ∧ ts.length = i + 1 ∧ ∀ j t', ts[j]? = some t' → RowObj d pl (upd H3 D (.lst (acc ++ [V.ref t]))) t' j) := fun H3 t s4 hD3 old new => by
        refine ⟨_, hD3, by rw [List.length_map, hl, sizeLine_eq]; omega, same_mut s4 nD, ts ++ [t], ?_, by rw [List.length_append, hl]; rfl, fun j t' e => ?_⟩
        · rw [upd_same, List.map_append]
          rfl
        · rcases snoc_get e with ⟨c, e'⟩ | ⟨c, e'⟩
          · exact (old j t' e').upd hD3
          · rw [← e', c, hl]
            exact new.upd hD3
      refine ⟨fun e => ?_, fun l u e nu hu => ?_⟩
      · refine ⟨(by show 2 ≤ sizeLine; decide), fun p np => ?_⟩
        have s5 := same_upd (o := .tup [.int (i : Int), .non]) np
        exact fin _ p (s3.trans s5) (s5 _ _ hD2) (fun j t x => (hts j t x).same (s2.trans s5)) ⟨.non, upd_same, .inl ⟨e, rfl⟩⟩
      · refine ⟨(by show 2 ≤ sizeLine; decide), fun p np => ?_⟩
        have s5 := same_upd (o := .tup [.int (i : Int), .ref u]) np
        exact fin _ p (s3.trans s5) (s5 _ _ hD2) (fun j t x => (hts j t x).same (s2.trans s5)) ⟨.ref u, upd_same, .inr ⟨l, u, e, rfl, s5 _ _ hu⟩⟩
    · rintro H1 ⟨s1, ts, hD, hl, hts⟩
      -- [(number, told) for number, told in rows if told is not None]
      refine ⟨_, rfl, D, rfl, ⟨_, sl_of hD⟩, fun D2 nD2 => ?_⟩
      have sD := same_upd (o := .lst []) nD2
      refine lc_list (K := K) (a := D) (xs := ts.map V.ref) (fun i H' => Same H1 H' ∧ RowsAt H' D2 (usedR d pl i)) ⟨sD, [], upd_same, rfl, fun i t a e => by simp at e⟩ (fun i H' _ ⟨s2, _⟩ => sl_of (s2 _ _ hD)) ?_ ?_
      · rintro i x H2 hx ⟨s2, us, hU, lU, hus⟩
        obtain ⟨t, ht, rfl⟩ : ∃ t, ts[i]? = some t ∧ x = V.ref t := by
          rw [List.getElem?_map] at hx
          cases q1 : ts[i]? with
          | none => rw [q1] at hx; cases hx
          | some t => rw [q1] at hx; exact ⟨t, rfl, (Option.some.inj hx).symm⟩
        obtain ⟨o, e1, r⟩ := (hts i t ht).same s2
        have hi : i < d.R.toNat := by
          have := (List.getElem?_eq_some_iff.mp ht).1
          omega
        refine ⟨t, _, rfl, st_of e1, rfl, _, _, rfl, _, _, rfl, rfl, rfl, ?_⟩
        rcases r with ⟨r1, rfl⟩ | ⟨l, u, r1, rfl, r3⟩
        · refine ⟨_, rfl, rfl, false, rfl, iteF ⟨s2, ?_⟩⟩
          rw [usedR_none r1]
          exact ⟨us, hU, lU, hus⟩
        · refine ⟨_, rfl, rfl, true, rfl, iteT ⟨_, rfl, _, rfl, (by show 2 ≤ sizeLine; decide), fun p np => ?_⟩⟩
          have s5 := same_upd (o := .tup [.int (i : Int), .ref u]) np
          have hlen := usedR_len d pl i
          refine ⟨_, s5 _ _ hU, by rw [List.length_map, lU, sizeLine_eq]; omega, same_mut (s2.trans s5) nD2, us ++ [p], ?_, ?_, ?_⟩
          · rw [upd_same, List.map_append]
            rfl
          · rw [usedR_some r1, List.length_append, List.length_append, lU]
            rfl
          · intro j t' a e e'
            have k : ∀ b zs, L2.upd H2 p (.tup [.int (i : Int), .ref u]) b = some (.tup zs) → L2.upd (L2.upd H2 p (.tup [.int (i : Int), .ref u])) D2 (.lst (us.map V.ref ++ [V.ref p])) b = some (.tup zs) := fun b zs x => by
              rw [upd_ne (ne_of x (s5 _ _ hU) (fun z => nomatch z))]
              exact x
            rw [usedR_some r1] at e'
            rcases snoc_get e with ⟨c, x⟩ | ⟨c, x⟩
            · rcases snoc_get e' with ⟨c', x'⟩ | ⟨c', x'⟩
              · obtain ⟨u', y1, y2⟩ := hus j t' a x x'
                exact ⟨u', k _ _ (s5 _ _ y1), k _ _ (s5 _ _ y2)⟩
              · omega
            · rcases snoc_get e' with ⟨c', x'⟩ | ⟨c', x'⟩
              · omega
              · rw [← x, ← x']
                exact ⟨u, k _ _ upd_same, k _ _ (s5 _ _ r3)⟩
      · rintro H2 ⟨s2, r⟩
        rw [List.length_map, hl] at r
        exact q H2 D2 (s1.trans s2) r
/-! ### named_files -/
def filesR (d : Dim) (pl : Int → List Int) : List Int := firsts ((usedR d pl d.R.toNat).map third)
def spNamedFiles (C : Addr) : Sp := fun vs H Q _ => ∃ (h sh : Addr) (d : Dim) (pl : Int → List Int), vs = [.ref h, .ref sh] ∧ Hm C H h sh d pl ∧ ∀ (H' : Hp) (q : Addr) (ys : List Int), Same H H' → ys.Perm (filesR d pl) → ys.Pairwise (· ≤ ·) → H' q = some (.lst (ys.map V.int)) → Q (.ref q) H'
theorem scNamedFiles : FnScope ["home", "shape", "number", "told"] ["home", "shape"] (defScope sNamedFiles) := ⟨rfl, rfl, rfl, by decide +kernel, rfl, by decide +kernel, by decide +kernel⟩
theorem ok_named_files (F : At K mg "named_files" sNamedFiles) (T : Txt K mg C) (h1 : Has P w K mg base CX0 3 "rows_of" ["home", "shape"] (spRowsOf C)) :
    Has P w K mg base CX0 4 "named_files" ["home", "shape"] (spNamedFiles C) := by
  obtain ⟨f, fd, F, m⟩ := F.ex
  obtain ⟨f1, fd1, G_rows_of, m_rows_of, k_rows_of, b_rows_of⟩ := h1.ex
  refine ⟨f, fd, F.ok scNamedFiles (fun vs H Q E h => ?_) (fun cdv A outer s H vs Q E hr h => ?_), m, F.kp, F.binds fun _ _ _ _ _ _ us hl => match us, hl with | [_, _], _ => rfl⟩
  · obtain ⟨h, sh, d, pl, rfl, _⟩ := h
    rfl
  · obtain ⟨h, sh, d, pl, rfl, hm, q⟩ := h
    refine ⟨_, ((pss_one (ps_ret (pe_callB (call_sortedDI rfl) (by rfl) T.zsorted (by decide +kernel) (pa_cons (pe_dc (own := [("number", 2), ("told", 3)]) (g := gTup K 2 (gCons (gName 2) (gCons (gName 3) gNil))) (tt := tYes) (tk := tOp (rIxT K) (tVar 3) (tC (.int 2))) rfl scNamedFiles.nd (pi_list (pe_call G_rows_of (hr.mono (by first | decide | omega)) rfl m_rows_of k_rows_of b_rows_of .nil pass0 (pa_cons (pv 0) (pa_cons (pv 1) pa_nil)))) (blkOk_by (own := [("number", 2), ("told", 3)]) (N := ["home", "shape", "number", "told"]) (sc := defScope sNamedFiles) (by decide +kernel)) (fun _ _ _ _ _ => (by exact (pg_tup (by rfl) (pgs_cons (pg_name (i := 2) scNamedFiles.nd rfl (Or.inl rfl)) (pgs_cons (pg_name (i := 3) scNamedFiles.nd rfl (Or.inl rfl)) pgs_nil))))) (fun _ _ _ _ _ => pts_nil) (fun _ _ _ _ _ => (pe_ix ix_tup (pv 3) pe_int (fun _ _ => rfl))) (fun _ _ _ _ _ => pe_bl)) pa_nil))))), ?_⟩
    have hR := hm.o.2.1
    refine ⟨_, rfl, _, rfl, h, sh, d, pl, rfl, hm, fun H1 p s1 hrw => ?_⟩
    obtain ⟨ts, hp, lt, hts⟩ := hrw
    refine ⟨p, rfl, ⟨_, sl_of hp⟩, fun D nD => ?_⟩
    have sD := same_upd (o := .dK []) nD
    refine dc_list (K := K) (a := p) (xs := ts.map V.ref) (fun i H' => Same H1 H' ∧ H' D = some (.dK (kvT (firsts (((usedR d pl d.R.toNat).take i).map third))))) ⟨sD, upd_same⟩ (fun i H' _ ⟨s2, _⟩ => sl_of (s2 _ _ hp)) ?_ ?_
    · rintro i x H2 hx ⟨s2, hD⟩
      obtain ⟨t, ht, rfl⟩ : ∃ t, ts[i]? = some t ∧ x = V.ref t := by
        rw [List.getElem?_map] at hx
        cases q1 : ts[i]? with
        | none => rw [q1] at hx; cases hx
        | some t => rw [q1] at hx; exact ⟨t, rfl, (Option.some.inj hx).symm⟩
      have hi := (List.getElem?_eq_some_iff.mp ht).1
      obtain ⟨a, ha⟩ : ∃ a, (usedR d pl d.R.toNat)[i]? = some a := ⟨_, List.getElem?_eq_getElem (by omega)⟩
      obtain ⟨u, e1, e2⟩ := hts i t a ht ha
      obtain ⟨j, hj, e3⟩ : ∃ j : Nat, rowR d pl (j : Int) = some a.2 ∧ a.1 = (j : Int) := by
        have hmem := List.mem_of_getElem? ha
        unfold usedR at hmem
        obtain ⟨j, _, e⟩ := List.mem_filterMap.mp hmem
        obtain ⟨l, hl, e'⟩ := Option.map_eq_some_iff.mp e
        exact ⟨j, by rw [← e']; exact hl, by rw [← e']⟩
      obtain ⟨z1, z2, z3, ez⟩ := rowR_len hj
      refine ⟨t, _, rfl, st_of (s2 _ _ e1), rfl, _, _, rfl, _, _, rfl, rfl, rfl, ?_⟩
      have e2' := s2 _ _ e2
      rw [ez] at e2'
      refine ⟨_, rfl, u, _, 2, _, rfl, rfl, st_of e2', atI_nat (j := 2) rfl, ?_⟩
      have et : (usedR d pl d.R.toNat).take (i + 1) = (usedR d pl d.R.toNat).take i ++ [a] := by
        rw [List.take_succ, ha]
        rfl
      have e3 : third a = z3 := by
        unfold third
        rw [ez]
        rfl
      refine ⟨_, Sum.inl z3, rfl, hD, ?_, same_mut s2 nD, ?_⟩
      · have l1 := firsts_len (((usedR d pl d.R.toNat).take i).map third)
        have l2 := usedR_len d pl d.R.toNat
        rw [List.length_map, List.length_take] at l1
        unfold kvT
        rw [List.length_map, sizeLine_eq]
        omega
      · rw [upd_same, kvT_put, et, List.map_append, List.map_singleton, firsts_snoc, e3]
    · rintro H2 ⟨s2, hD⟩
      rw [List.length_map, lt, List.take_length] at hD
      have l1 := firsts_len ((usedR d pl d.R.toNat).map third)
      have l2 := usedR_len d pl d.R.toNat
      rw [List.length_map] at l1
      refine ⟨D, _, firsts ((usedR d pl d.R.toNat).map third), rfl, .of hD, kvT_keys _, by omega, fun ys r pm srt nr => ?_⟩
      exact q _ r ys (s1.trans (same_new s2 nr)) pm srt upd_same
end
end K70
namespace K70
open PySem PySem.Spec PyProof.Rows L2
/-! ### list(zip(t, u)) of two tuples -/
section
variable {P : Program} {w : World} {A : Around} {E : Value → Shared → Prop}
theorem zt_item {z TI TO T i1 i2 l1 l2 : Addr} {f : Bool} {oT : Obj} {k : Nat} {xs ys : Array Value} {x y : Value} {Q : Value → Shared → Prop} {u : Shared} (D : ZipApart z TI TO i1 i2 l1 l2)
    (hz : IsZipHeld u.heap z TI TO T f) (hT : u.heap.get? T = some oT) (hTI : IsPair u.heap TI (.ref i1) (.ref i2)) (h1 : u.heap.IsTupleIter i1 l1 k) (h2 : u.heap.IsTupleIter i2 l2 k) (hl1 : u.heap.IsTuple l1 xs) (hl2 : u.heap.IsTuple l2 ys) (hx : xs[k]? = some x) (hy : ys[k]? = some y)
    (hQ : ∀ h', IsZipHeld h' z TI TO T true → h'.IsTupleIter i1 l1 (k + 1) → h'.IsTupleIter i2 l2 (k + 1) → IsPair h' u.heap.objs.size x y → h'.objs.size = u.heap.objs.size + 1 → (∀ c o, c ≠ z → c ≠ i1 → c ≠ i2 → u.heap.get? c = some o → h'.get? c = some o) → Q (.ref u.heap.objs.size) { u with heap := h' }) :
    wpAny (model P w) A (Builtin.«zip.__next__» ⟨[.ref z], []⟩) (fun fin u' => ∃ v, fin = .done (.ret v) ∧ Q v u') E u := by
  show wpAny _ _ (field (.ref z) 2 >>= _) _ _ u
  refine wpAny_bind (wpAny_field (s := u) hz rfl (x := .bool false) rfl ?_)
  show wpAny _ _ (field (.ref z) 3 >>= _) _ _ u
  refine wpAny_bind (wpAny_field (s := u) hz rfl (x := .ref TI) rfl (wpAny_bind (wpAny_seqItems hTI rfl ?_)))
  show wpAny _ _ (Builtin.SmallTypes.ownedTupleIsFree (.ref z) >>= _) _ _ u
  refine wpAny_bind (wpAny_tupleHeld_zip hz hT fun ha za sa => ?_)
  simp only [Bool.false_eq_true, if_false]
  refine wpAny_bind ?_
  rw [← Array.forIn_toList]
  simp only [List.forIn_cons, List.forIn_nil]
  refine wpAny_bind (wpAny_bind (wpAny_holding ?_))
  show wpAny _ _ (Builtin.SmallTypes.nextOf (.ref i1) >>= _) _ _ { u with heap := ha }
  refine wpAny_bind (RZ.nextOf_tuple_item (s := { u with heap := ha }) (h1.extBut sa.extBut D.i1z) (hl1.extBut sa.extBut D.l1z) hx fun hb b1 sb => wpAny_pure (wpAny_pure (wpAny_bind (wpAny_bind (wpAny_holding ?_)))))
  show wpAny _ _ (Builtin.SmallTypes.nextOf (.ref i2) >>= _) _ _ { u with heap := hb }
  refine wpAny_bind (RZ.nextOf_tuple_item (s := { u with heap := hb }) ((h2.extBut sa.extBut D.i2z).extBut sb.extBut D.i12.symm) ((hl2.extBut sa.extBut D.l2z).extBut sb.extBut D.l2i1) hy fun hc c2 sc => wpAny_pure (wpAny_pure (wpAny_pure ?_)))
  show wpAny _ _ (newTuple [x, y] >>= _) _ _ { u with heap := hc }
  refine wpAny_bind (wpAny_newTuple (wpAny_pure ⟨_, rfl, ?_⟩))
  have hsz : hc.objs.size = u.heap.objs.size := (sc.1.trans sb.1).trans sa.1
  have zc : IsZipHeld hc z TI TO T true := sc.extBut _ _ D.i2z.symm (sb.extBut _ _ D.i1z.symm za)
  have hk : ∀ c o, c ≠ z → c ≠ i1 → c ≠ i2 → u.heap.get? c = some o → hc.get? c = some o := fun c o a b d e => sc.extBut _ _ d (sb.extBut _ _ b (sa.extBut _ _ a e))
  have c1 : hc.IsTupleIter i1 l1 (k + 1) := b1.extBut sc.extBut D.i12
  show Q (.ref hc.objs.size) _
  have hp : IsPair (hc.push { cls := .type "tuple", data := .seq #[x, y] }) hc.objs.size x y := Heap.get?_push_size _ rfl
  have hn : (hc.push { cls := .type "tuple", data := .seq #[x, y] }).objs.size = hc.objs.size + 1 := Heap.size_push ..
  rw [hsz] at hp hn ⊢
  exact hQ _ (Heap.get?_push_of_some _ zc) (c1.at fun o e => Heap.get?_push_of_some _ e) (c2.at fun o e => Heap.get?_push_of_some _ e) hp hn fun c o a b d e => Heap.get?_push_of_some _ (hk c o a b d e)
theorem zt_end {z TI TO T i1 i2 l1 l2 : Addr} {f : Bool} {oT : Obj} {k : Nat} {xs ys : Array Value} {Q : Fin → Shared → Prop} {u : Shared} (hh : A.handled = none) (D : ZipApart z TI TO i1 i2 l1 l2)
    (hz : IsZipHeld u.heap z TI TO T f) (hT : u.heap.get? T = some oT) (hTI : IsPair u.heap TI (.ref i1) (.ref i2)) (h1 : u.heap.IsTupleIter i1 l1 k) (h2 : u.heap.IsTupleIter i2 l2 k) (hl1 : u.heap.IsTuple l1 xs) (hl2 : u.heap.IsTuple l2 ys) (hend : xs[k]? = none ∨ ys[k]? = none)
    (hE : ∀ h' e, (∀ c o, c ≠ z → c ≠ i1 → c ≠ i2 → u.heap.get? c = some o → h'.get? c = some o) → (∃ o, h'.get? e = some o ∧ o.cls = .type "StopIteration") → E (.ref e) { u with heap := h' }) :
    wpAny (model P w) A (Builtin.«zip.__next__» ⟨[.ref z], []⟩) Q E u := by
  show wpAny _ _ (field (.ref z) 2 >>= _) _ _ u
  refine wpAny_bind (wpAny_field (s := u) hz rfl (x := .bool false) rfl ?_)
  show wpAny _ _ (field (.ref z) 3 >>= _) _ _ u
  refine wpAny_bind (wpAny_field (s := u) hz rfl (x := .ref TI) rfl (wpAny_bind (wpAny_seqItems hTI rfl ?_)))
  show wpAny _ _ (Builtin.SmallTypes.ownedTupleIsFree (.ref z) >>= _) _ _ u
  refine wpAny_bind (wpAny_tupleHeld_zip hz hT fun ha za sa => ?_)
  simp only [Bool.false_eq_true, if_false]
  refine wpAny_bind ?_
  rw [← Array.forIn_toList]
  simp only [List.forIn_cons, List.forIn_nil]
  refine wpAny_bind (wpAny_bind (wpAny_holding ?_))
  show wpAny _ _ (Builtin.SmallTypes.nextOf (.ref i1) >>= _) _ _ { u with heap := ha }
  cases hx : xs[k]? with
  | none =>
    refine wpAny_bind (RZ.nextOf_tuple_end (s := { u with heap := ha }) hh (h1.extBut sa.extBut D.i1z) (hl1.extBut sa.extBut D.l1z) hx fun hb e sb he => ?_)
    exact hE hb e (fun c o a b _ q => sb _ _ b (sa.extBut _ _ a q)) he
  | some x =>
    have hy : ys[k]? = none := hend.elim (fun q => by rw [hx] at q; cases q) id
    refine wpAny_bind (RZ.nextOf_tuple_item (s := { u with heap := ha }) (h1.extBut sa.extBut D.i1z) (hl1.extBut sa.extBut D.l1z) hx fun hb b1 sb => wpAny_pure (wpAny_pure (wpAny_bind (wpAny_bind (wpAny_holding ?_)))))
    show wpAny _ _ (Builtin.SmallTypes.nextOf (.ref i2) >>= _) _ _ { u with heap := hb }
    refine wpAny_bind (RZ.nextOf_tuple_end (s := { u with heap := hb }) hh ((h2.extBut sa.extBut D.i2z).extBut sb.extBut D.i12.symm) ((hl2.extBut sa.extBut D.l2z).extBut sb.extBut D.l2i1) hy fun hc e sc he => ?_)
    exact hE hc e (fun c o a b d q => sc _ _ d (sb.extBut _ _ b (sa.extBut _ _ a q))) he
/-- a zip of two tuples, k pairs drawn; the last one made is still there -/
structure Zst (h : Heap) (S z TI TO i1 i2 l1 l2 : Addr) (xs ys : Array Value) (k : Nat) : Prop where
  zip : (∃ a b, IsZip h z TI TO .none ∧ IsPair h TO a b) ∨ ∃ T f oT, IsZipHeld h z TI TO T f ∧ h.get? T = some oT ∧ T ≠ z ∧ T ≠ i1 ∧ T ≠ i2 ∧ T ≠ S
  it : IsPair h TI (.ref i1) (.ref i2)
  p1 : h.IsTupleIter i1 l1 k
  p2 : h.IsTupleIter i2 l2 k
  t1 : h.IsTuple l1 xs
  t2 : h.IsTuple l2 ys
theorem zst_keep {h h' : Heap} {S z TI TO i1 i2 l1 l2 : Addr} {xs ys : Array Value} {k : Nat} (x : Zst h S z TI TO i1 i2 l1 l2 xs ys k) (n : ∀ b ∈ [z, TI, TO, i1, i2, l1, l2], b ≠ S) (up : ∀ b o, b ≠ S → h.get? b = some o → h'.get? b = some o) : Zst h' S z TI TO i1 i2 l1 l2 xs ys k := by
  refine ⟨?_, up _ _ (n _ (by simp)) x.it, x.p1.at fun o q => up _ o (n _ (by simp)) q, x.p2.at fun o q => up _ o (n _ (by simp)) q, ?_, ?_⟩
  · rcases x.zip with ⟨a, b, q1, q2⟩ | ⟨T, f, oT, q1, q2, q3, q4, q5, q6⟩
    · exact .inl ⟨a, b, up _ _ (n _ (by simp)) q1, up _ _ (n _ (by simp)) q2⟩
    · exact .inr ⟨T, f, oT, up _ _ (n _ (by simp)) q1, up _ _ q6 q2, q3, q4, q5, q6⟩
  · obtain ⟨o, e, r⟩ := x.t1
    exact ⟨o, up _ _ (n _ (by simp)) e, r⟩
  · obtain ⟨o, e, r⟩ := x.t2
    exact ⟨o, up _ _ (n _ (by simp)) e, r⟩
theorem zst_next {S z TI TO i1 i2 l1 l2 : Addr} {k : Nat} {xs ys : Array Value} {x y : Value} {Q : Option Value → Shared → Prop} {u : Shared} (D : ZipApart z TI TO i1 i2 l1 l2) (st : Zst u.heap S z TI TO i1 i2 l1 l2 xs ys k) (hS : S < u.heap.objs.size) (hx : xs[k]? = some x) (hy : ys[k]? = some y)
    (hQ : ∀ h', Zst h' S z TI TO i1 i2 l1 l2 xs ys (k + 1) → IsPair h' u.heap.objs.size x y → h'.objs.size = u.heap.objs.size + 1 → (∀ c o, c ≠ z → c ≠ TO → c ≠ i1 → c ≠ i2 → u.heap.get? c = some o → h'.get? c = some o) → Q (some (.ref u.heap.objs.size)) { u with heap := h' }) :
    wpAny (model P w) A (pyNext (.ref z)) Q E u := by
  have lz : z < u.heap.objs.size := by
    rcases st.zip with ⟨a, b, q1, q2⟩ | ⟨T, f, oT, q1, q2, _⟩
    · exact Heap.lt_size q1
    · exact Heap.lt_size q1
  have li1 : i1 < u.heap.objs.size := by obtain ⟨_, e, _⟩ := st.p1; exact Heap.lt_size e
  have li2 : i2 < u.heap.objs.size := by obtain ⟨_, e, _⟩ := st.p2; exact Heap.lt_size e
  rcases st.zip with ⟨a, b, q1, q2⟩ | ⟨T, f, oT, q1, q2, q3, q4, q5, q6⟩
  · refine RZ.pyNext_zipT_item D q1 st.it q2 st.p1 st.p2 st.t1 st.t2 hx hy fun h' z' TO' a1 a2 hT hz hk => hQ h' ⟨.inr ⟨u.heap.objs.size, false, _, z', hT, Nat.ne_of_gt lz, Nat.ne_of_gt li1, Nat.ne_of_gt li2, Nat.ne_of_gt hS⟩, hk _ _ D.TIz D.TITO D.TIi1 D.TIi2 st.it, a1, a2, ?_, ?_⟩ hT hz hk
    · obtain ⟨o, e, r⟩ := st.t1
      exact ⟨o, hk _ _ D.l1z D.l1TO D.l1i1 D.l1i2 e, r⟩
    · obtain ⟨o, e, r⟩ := st.t2
      exact ⟨o, hk _ _ D.l2z D.l2TO D.l2i1 D.l2i2 e, r⟩
  · have hTy : u.TypeIs (.ref z) "zip" := ⟨_, q1, rfl⟩
    unfold pyNext
    refine wpAny_bind (wpAny_attempt (wpAny_callSpecial?_slot (name := Str.ofString "__next__") hTy F.slot_zip_next (wpAny_call_entry F.slot_zip_next hTy F.entry_zip_next (zt_item D q1 q2 st.it st.p1 st.p2 st.t1 st.t2 hx hy fun h' z' a1 a2 hT hz hk => wpAny_pure ?_) (F.args_zip_next_1 _))))
    refine hQ h' ⟨.inr ⟨T, true, oT, z', hk _ _ q3 q4 q5 q2, q3, q4, q5, q6⟩, hk _ _ D.TIz D.TIi1 D.TIi2 st.it, a1, a2, ?_, ?_⟩ hT hz fun c o a _ b d e => hk c o a b d e
    · obtain ⟨o, e, r⟩ := st.t1
      exact ⟨o, hk _ _ D.l1z D.l1i1 D.l1i2 e, r⟩
    · obtain ⟨o, e, r⟩ := st.t2
      exact ⟨o, hk _ _ D.l2z D.l2i1 D.l2i2 e, r⟩
theorem zst_end {S z TI TO i1 i2 l1 l2 : Addr} {k : Nat} {xs ys : Array Value} {Q : Option Value → Shared → Prop} {u : Shared} (hh : A.handled = none) (D : ZipApart z TI TO i1 i2 l1 l2) (st : Zst u.heap S z TI TO i1 i2 l1 l2 xs ys k) (hend : xs[k]? = none ∨ ys[k]? = none)
    (hQ : ∀ h', (∀ c o, c ≠ z → c ≠ TO → c ≠ i1 → c ≠ i2 → u.heap.get? c = some o → h'.get? c = some o) → Q none { u with heap := h' }) : wpAny (model P w) A (pyNext (.ref z)) Q E u := by
  rcases st.zip with ⟨a, b, q1, q2⟩ | ⟨T, f, oT, q1, q2, q3, q4, q5, q6⟩
  · exact RZ.pyNext_zipT_end hh D q1 st.it q2 st.p1 st.p2 st.t1 st.t2 hend hQ
  · have hTy : u.TypeIs (.ref z) "zip" := ⟨_, q1, rfl⟩
    unfold pyNext
    refine wpAny_bind (wpAny_attempt (wpAny_callSpecial?_slot (name := Str.ofString "__next__") hTy F.slot_zip_next (wpAny_call_entry F.slot_zip_next hTy F.entry_zip_next (zt_end hh D q1 q2 st.it st.p1 st.p2 st.t1 st.t2 hend fun h' e hk he => ?_) (F.args_zip_next_1 _))))
    obtain ⟨o, ho, hc⟩ := he
    exact wpAny_bind (wpAny_isInstance (T := "StopIteration") (b := true) ⟨o, ho, hc⟩ isSubtype_stop (wpAny_pure (hQ _ fun c o a _ b d e => hk c o a b d e)))
/-- the pairs made -/
structure ZMade (xs ys : Array Value) (lo : Addr) (h : Heap) (as : List Addr) : Prop where
  rise : as.Pairwise (· < ·)
  above : ∀ a ∈ as, lo < a
  pairs : ∀ (j : Nat) (a : Addr), as[j]? = some a → ∃ x y, xs[j]? = some x ∧ ys[j]? = some y ∧ IsPair h a x y
/-- what stood below N stands -/
abbrev Below (N : Addr) (h h' : Heap) : Prop := ∀ b o, b < N → h.get? b = some o → h'.get? b = some o
theorem zl_loop {R : Result → Shared → Prop} {u : Shared} {S z TI TO i1 i2 l1 l2 N : Addr} {xs ys : Array Value} {n : Nat} (hh : A.handled = none) (D : ZipApart z TI TO i1 i2 l1 l2) (ns : ∀ b ∈ [z, TI, TO, i1, i2, l1, l2], b ≠ S) (big : ∀ b ∈ [z, TO, i1, i2], N ≤ b ∧ b < S) (hx : xs.size = n) (hy : ys.size = n) (hn : n ≤ sizeLine) (res : Value) {h₀ : Heap}
    (hR : ∀ h' tk acc c as, Below N h₀ h' → h'.get? S = some { cls := .type "list", dict := none, data := .seq acc c, slots := #[] } → as.length = n → ZMade xs ys S h' as → acc.toList = as.map Value.ref → R (.ok (.ret res)) { u with heap := h', toks := tk }) :
    ∀ (k i : Nat) (h : Heap) (tk c : Nat) (acc : Array Value) (as : List Addr), n - i = k → i ≤ n → Zst h S z TI TO i1 i2 l1 l2 xs ys i → Below N h₀ h →
      h.get? S = some { cls := .type "list", dict := none, data := .seq acc c, slots := #[] } → acc.toList = as.map Value.ref → as.length = i → ZMade xs ys S h as →
      codeAny (model P w) A (.builtin "list.extend.loop" ⟨[.ref S, .ref z, res], []⟩) R { u with heap := h, toks := tk } := by
  have nS : ∀ b ∈ [z, TO, i1, i2], S ≠ b := fun b hb q => absurd (big b hb).2 (by rw [q]; exact Nat.lt_irrefl _)
  have NS : N < S := Nat.lt_of_le_of_lt (big z (by simp)).1 (big z (by simp)).2
  intro k
  induction k with
  | zero =>
    intro i h tk c acc as hk hi st lo hS hacc hal hG
    refine codeAny_builtin PySem.F.entry_extend_loop ?_
    rw [Around.under_plainId PySem.F.plain_extend_loop _]
    show wpAny _ A.in1 (pyNext (.ref z) >>= _) _ _ { u with heap := h, toks := tk }
    refine wpAny_bind (zst_end (u := { u with heap := h, toks := tk }) (A := A.in1) hh D st (.inl (Array.getElem?_eq_none (by omega))) fun h' he => ?_)
    refine wpAny_pure (hR h' tk acc c as (fun b o hb e => ?_) ?_ (by omega) ⟨hG.rise, hG.above, fun j a hj => ?_⟩ hacc)
    · have far : ∀ q ∈ [z, TO, i1, i2], b ≠ q := fun q hq e => absurd (big q hq).1 (by rw [← e]; exact Nat.not_le.mpr hb)
      exact he b o (far _ (by simp)) (far _ (by simp)) (far _ (by simp)) (far _ (by simp)) (lo b o hb e)
    · exact he S _ (nS _ (by simp)) (nS _ (by simp)) (nS _ (by simp)) (nS _ (by simp)) hS
    · obtain ⟨x, y, e1, e2, e3⟩ := hG.pairs j a hj
      have ha := hG.above a (List.mem_of_getElem? hj)
      have far : ∀ q ∈ [z, TO, i1, i2], a ≠ q := fun q hq e => absurd (big q hq).2 (by rw [← e]; exact Nat.lt_asymm ha)
      exact ⟨x, y, e1, e2, he a _ (far _ (by simp)) (far _ (by simp)) (far _ (by simp)) (far _ (by simp)) e3⟩
  | succ k ih =>
    intro i h tk c acc as hk hi st lo hS hacc hal hG
    have hlt : i < n := by omega
    have hsz : acc.size = i := by rw [← Array.length_toList, hacc, List.length_map, hal]
    have hSl : S < h.objs.size := Heap.lt_size hS
    refine codeAny_builtin PySem.F.entry_extend_loop ?_
    rw [Around.under_plainId PySem.F.plain_extend_loop _]
    show wpAny _ A.in1 (pyNext (.ref z) >>= _) _ _ { u with heap := h, toks := tk }
    refine wpAny_bind (zst_next (u := { u with heap := h, toks := tk }) D st hSl (Array.getElem?_eq_getElem (by omega)) (Array.getElem?_eq_getElem (by omega)) fun h' st' ht hz he => ?_)
    dsimp only at ht hz he ⊢
    have hS' := he S _ (nS _ (by simp)) (nS _ (by simp)) (nS _ (by simp)) (nS _ (by simp)) hS
    have up : ∀ b o, b ≠ S → h'.get? b = some o → (h'.update S (Obj.mapSeq (·.push (Value.ref h.objs.size)))).get? b = some o := fun b o hb e => (Heap.get?_update_other _ _ (Ne.symm hb)).trans e
    show wpAny _ A.in1 (updateSeq S (·.push (Value.ref h.objs.size)) >>= _) _ _ { u with heap := h', toks := tk }
    refine wpAny_bind ?_
    refine wpAny_updateSeq hS' rfl (wpAny_pure ⟨plainId_quiet PySem.F.plain_extend_loop _, ih (i + 1) _ tk _ (acc.push (Value.ref h.objs.size)) (as ++ [h.objs.size]) (by omega) hlt (zst_keep st' ns up) (fun b o hb e => up b o (Nat.ne_of_lt (Nat.lt_trans hb NS)) ?_) (Heap.get?_update_self _ hS' rfl) (by rw [Array.toList_push, hacc, List.map_append]; rfl)
      (by rw [List.length_append, hal]; rfl) ⟨?_, ?_, ?_⟩⟩) (by rw [hsz]; omega) (by show (acc.push (Value.ref h.objs.size)).size ≤ sizeLine + 1; rw [Array.size_push, hsz]; omega)
    · have far : ∀ q ∈ [z, TO, i1, i2], b ≠ q := fun q hq e => absurd (big q hq).1 (by rw [← e]; exact Nat.not_le.mpr hb)
      exact he b o (far _ (by simp)) (far _ (by simp)) (far _ (by simp)) (far _ (by simp)) (lo b o hb e)
    · refine List.pairwise_append.mpr ⟨hG.rise, List.pairwise_singleton _ _, fun a ha b hb => ?_⟩
      rw [List.mem_singleton.mp hb]
      obtain ⟨j, hj⟩ := List.mem_iff_getElem?.mp ha
      obtain ⟨_, _, _, _, e⟩ := hG.pairs j a hj
      exact Heap.lt_size e
    · intro a ha
      rcases List.mem_append.mp ha with ha | ha
      · exact hG.above a ha
      · rw [List.mem_singleton.mp ha]; exact hSl
    · intro j b hj
      rcases snoc_get hj with ⟨c1, e⟩ | ⟨c1, e⟩
      · obtain ⟨x, y, e1, e2, e3⟩ := hG.pairs j b e
        have hb := hG.above b (List.mem_of_getElem? e)
        have far : ∀ q ∈ [z, TO, i1, i2], b ≠ q := fun q hq e => absurd (big q hq).2 (by rw [← e]; exact Nat.lt_asymm hb)
        exact ⟨x, y, e1, e2, up b _ (Nat.ne_of_gt hb) (he b _ (far _ (by simp)) (far _ (by simp)) (far _ (by simp)) (far _ (by simp)) e3)⟩
      · rw [c1, hal]
        rw [← e]
        exact ⟨_, _, Array.getElem?_eq_getElem (by omega), Array.getElem?_eq_getElem (by omega), up _ _ (Nat.ne_of_gt hSl) ht⟩
theorem zip_len : typeLookup (.type "zip") "__len__" = pure none := by rw [typeLookup_type, builtinLookup_eq_fast]; kernel_rfl
theorem zip_hint : typeLookup (.type "zip") "__length_hint__" = pure none := by rw [typeLookup_type, builtinLookup_eq_fast]; kernel_rfl
theorem zl_call {Q : Value → Shared → Prop} {u : Shared} {z TI TO i1 i2 l1 l2 N : Addr} {xs ys : Array Value} {n : Nat} (hh : A.handled = none) (D : ZipApart z TI TO i1 i2 l1 l2) (st : Zst u.heap u.heap.objs.size z TI TO i1 i2 l1 l2 xs ys 0) (big : ∀ b ∈ [z, TO, i1, i2], N ≤ b ∧ b < u.heap.objs.size) (ns : ∀ b ∈ [z, TI, TO, i1, i2, l1, l2], b ≠ u.heap.objs.size) (hx : xs.size = n) (hy : ys.size = n) (hn : n ≤ sizeLine)
    (hQ : ∀ h' tk acc c as, Below N u.heap h' → h'.get? u.heap.objs.size = some { cls := .type "list", dict := none, data := .seq acc c, slots := #[] } → as.length = n → ZMade xs ys u.heap.objs.size h' as → acc.toList = as.map Value.ref → Q (.ref u.heap.objs.size) { u with heap := h', toks := tk }) :
    wpAny (model P w) A (call (.type "list") [.ref z]) Q E u := by
  have hzT : ∀ h tk, Zst h u.heap.objs.size z TI TO i1 i2 l1 l2 xs ys 0 → Shared.TypeIs { u with heap := h, toks := tk } (.ref z) "zip" := fun h tk s => by
    rcases s.zip with ⟨a, b, q1, q2⟩ | ⟨T, f, oT, q1, q2, _⟩
    · exact ⟨_, q1, rfl⟩
    · exact ⟨_, q1, rfl⟩
  have hNS : N ≤ u.heap.objs.size := Nat.le_of_lt (Nat.lt_of_le_of_lt (big z (by simp)).1 (big z (by simp)).2)
  refine callType_codes (Q₁ := fun obj v => obj = .ref u.heap.objs.size ∧ v = { u with heap := u.heap.push { cls := .type "list", data := .seq #[] } }) PySem.F.called_list (PySem.F.typeCall_list_1 _) PySem.F.entry_list_init (code_list_new _ ⟨rfl, rfl⟩) fun obj v hv => ?_
  obtain ⟨rfl, rfl⟩ := hv
  have hS : (u.heap.push { cls := .type "list", data := .seq #[] }).get? u.heap.objs.size = some { cls := .type "list", data := .seq #[] } := Heap.get?_push_size _ rfl
  refine ⟨⟨_, hS, rfl⟩, PySem.F.args_list_init_2 _ _, ?_⟩
  show wpAny _ A.in1.in1 (do let old ← Builtin.List.listItems (.ref u.heap.objs.size); Builtin.List.listUpdate (.ref u.heap.objs.size) (fun _ => #[]); letGo old.toList.reverse; Builtin.List.listExtendWith (.ref u.heap.objs.size) (.ref z) .none) _ _ _
  refine wpAny_bind ?_
  unfold Builtin.List.listItems
  refine wpAny_bind (wpAny_seqItems hS rfl (wpAny_pure ?_))
  show wpAny _ A.in1.in1 (updateSeq u.heap.objs.size (fun _ => #[]) >>= fun _ => letGo (#[] : Array Value).toList.reverse >>= fun _ => Builtin.List.listExtendWith (.ref u.heap.objs.size) (.ref z) .none) _ _ _
  refine wpAny_bind (wpAny_updateSeq hS rfl ?_)
  have hS2 := Heap.get?_update_self (Obj.mapSeq (fun _ => (#[] : Array Value))) hS rfl
  have up : ∀ (h : Heap) (f : Obj → Obj), ∀ b o, b ≠ u.heap.objs.size → h.get? b = some o → (h.update u.heap.objs.size f).get? b = some o := fun h f b o hb e => (Heap.get?_update_other _ _ (Ne.symm hb)).trans e
  have st1 : Zst (u.heap.push { cls := .type "list", data := .seq #[] }) u.heap.objs.size z TI TO i1 i2 l1 l2 xs ys 0 := zst_keep st ns fun b o _ e => Heap.get?_push_of_some _ e
  have st2 := zst_keep st1 ns (up _ (Obj.mapSeq (fun _ => (#[] : Array Value))))
  refine wpAny_bind (wpAny_letGo ?_)
  unfold Builtin.List.listExtendWith
  refine wpAny_bind (wpAny_typeOf (hzT _ _ st2) ?_)
  have h1 : Builtin.List.listSameRef (.ref u.heap.objs.size) (.ref z) = false := by simp [Builtin.List.listSameRef, (ns z (by simp)).symm]
  have h2 : (Value.type "zip" == Value.type "list") = false := by decide
  have h3 : (Value.type "zip" == Value.type "tuple") = false := by decide
  simp only [h1, h2, h3, Bool.or_false, Bool.false_eq_true, if_false]
  have itr : ∀ (h : Heap) (tk : Nat) (B : Around) (E' : Value → Shared → Prop) (Q' : Value → Shared → Prop), Zst h u.heap.objs.size z TI TO i1 i2 l1 l2 xs ys 0 → Q' (.ref z) { u with heap := h, toks := tk } → wpAny (model P w) B (pyIter (.ref z)) Q' E' { u with heap := h, toks := tk } := fun h tk B E' Q' s q => by
    rcases s.zip with ⟨a, b, q1, q2⟩ | ⟨T, f, oT, q1, q2, _⟩
    · exact wpAny_pyIter_zip q1 q
    · have hT := hzT h tk s
      refine wpAny_pyIter_slot hT F.slot_zip_iter (wpAny_call_entry F.slot_zip_iter hT F.entry_zip_iter ?_ (F.args_zip_iter_1 _))
      show wpAny _ _ (ret (.ref z)) _ _ _
      exact wpAny_pure ⟨_, rfl, "zip", _, hT, F.slot_zip_next.lookup, q⟩
  refine wpAny_bind (itr _ _ _ _ _ st2 (wpAny_bind (wpAny_holding ?_)))
  unfold Builtin.List.listLengthHint
  refine wpAny_bind (wpAny_specialOf (hzT _ _ st2) zip_len ?_)
  show wpAny _ A.in1.in1 (specialOf (Value.ref z) (Str.ofString "__length_hint__") >>= _) _ _ _
  refine wpAny_bind (wpAny_specialOf (hzT _ _ st2) zip_hint (wpAny_pure ?_))
  show wpAny _ A.in1.in1 (rule "list.extend.makes-room" >>= fun _ => Builtin.List.listTouch (.ref u.heap.objs.size) >>= fun _ => again (.builtin "list.extend.loop" ⟨[.ref u.heap.objs.size, .ref z, .none], []⟩)) _ _ _
  refine wpAny_bind (wpAny_rule (wpAny_bind ?_))
  show wpAny _ A.in1.in1 (updateSeq u.heap.objs.size (·.push .none) >>= fun _ => updateSeq u.heap.objs.size (·.pop)) _ _ _
  refine wpAny_bind (wpAny_updateSeq hS2 rfl ?_)
  have hS3 := Heap.get?_update_self (Obj.mapSeq (·.push Value.none)) hS2 rfl
  refine wpAny_updateSeq (hz := by seq_fits) hS3 rfl ?_
  have hS4 := Heap.get?_update_self (Obj.mapSeq (·.pop)) hS3 rfl
  have st4 := zst_keep (zst_keep st2 ns (up _ (Obj.mapSeq (·.push Value.none)))) ns (up _ (Obj.mapSeq (·.pop)))
  refine wpAny_pure ⟨plainId_quiet PySem.F.plain_extend_loop _, zl_loop (A := A.in1) (u := u) (N := N) (h₀ := u.heap) (n := n) hh D ns big hx hy hn .none (fun h' tk acc c as lo hS' hl hG hacc => ⟨rfl, hQ h' tk acc c as lo hS' hl hG hacc⟩) n 0 _ _ _ #[] [] (Nat.sub_zero _) (Nat.zero_le _) st4 (fun b o hb e => ?_) hS4 rfl rfl ⟨.nil, fun a ha => (nomatch ha), fun j a hj => by simp at hj⟩⟩
  have hb' : b ≠ u.heap.objs.size := Nat.ne_of_lt (Nat.lt_of_lt_of_le hb hNS)
  exact up _ _ b o hb' (up _ _ b o hb' (up _ _ b o hb' (Heap.get?_push_of_some _ e)))
end
end K70
namespace K70
open PySem PySem.Spec PyProof.Rows L2
/-- list(zip(t, u)), one length -/
def eLZ (K : PySem.W.Frag) (ta : TA) : TE := fun σ H Q => ta σ H fun vs H1 => ∃ (a b : Addr) (xs ys : List V), vs = [.ref a, .ref b] ∧ SqT K H1 a xs ∧ SqT K H1 b ys ∧ xs.length = ys.length ∧ xs.length ≤ sizeLine ∧
  ∀ (H2 : Hp) (l : Addr) (ts : List Addr), Same H1 H2 → H1 l = none → H2 l = some (.lst (ts.map V.ref)) → ts.length = xs.length → (∀ (j : Nat) (t : Addr), ts[j]? = some t → ∃ x y, xs[j]? = some x ∧ ys[j]? = some y ∧ H2 t = some (.tup [x, y])) → Q (.ref l) H2
theorem pe_listZip {X : Cx} {e e2 : Expr} {ta : TA} {p p2 pos pos2 : Pos} (hc : X.calm = true) (gl : Gl X "list") (gz : Gl X "zip") (ml : X.mg "list" = none) (mz : X.mg "zip" = none) (ha : PA X [e, e2] ta)
    (hs : starEach [e, e2] X.env = (false, eval e X.env) :: starEach [e2] X.env := by rfl) (hpl : (backTo pos2 (starEach [e2] X.env)).any (·.1) = false := by rfl)
    (hs2 : starEach [.Call (.Name "zip" p2) [e, e2] [] pos2] X.env = (false, eval (.Call (.Name "zip" p2) [e, e2] [] pos2) X.env) :: starEach [] X.env := by rfl) (hpl2 : (backTo pos (starEach [] X.env)).any (·.1) = false := by rfl) :
    PE X (.Call (.Name "list" p) [.Call (.Name "zip" p2) [e, e2] [] pos2] [] pos) (eLZ X.K ta) := by
  refine ⟨fun pins s σ H Q I h => ?_⟩
  refine wpAny_Call_Name_kw (ld_blt I gl ml PyProof.Rows.boot_list (PyProof.Rows.callWith_type1 ?_ hs2 hpl2))
  rw [hs2]
  show wpAny _ _ (spliced ((false, eval (.Call (.Name "zip" p2) [e, e2] [] pos2) X.env) :: backTo pos (starEach [] X.env))) _ _ s
  refine Calls.spliced_cons (wpAny_Call_Name_kw (ld_blt I gz mz PyProof.Rows.boot_zip (PyProof.Rows.callWith_type1 (thn (ha.run pos2 pins s σ H _ I h) fun us s1 ⟨vs, H1, I1, r1, q1⟩ => ?_) hs hpl)))
  obtain ⟨a, b, xs, ys, rfl, ta', tb', hl, hz, q⟩ := q1
  cases r1 with
  | cons r rr =>
    cases rr with
    | cons r' rr =>
      cases rr
      cases r
      cases r'
      obtain ⟨its, rv, p1, _⟩ := I1.tuple ta'
      obtain ⟨its2, rv2, p2', _⟩ := I1.tuple tb'
      obtain ⟨o1, ho1, _⟩ := id p1
      obtain ⟨o2, ho2, _⟩ := id p2'
      have la := Heap.lt_size ho1
      have lb := Heap.lt_size ho2
      have n1 := rv.length
      have n2 := rv2.length
      refine RZ.call_zipT (show s1.heap.IsTuple a its.toArray from p1) (show s1.heap.IsTuple b its2.toArray from p2') fun h' hz' hTI hTO h1 h2 hsz hk => ?_
      refine Calls.spliced_nil ?_
      show wpAny _ _ (call (.type "list") [.ref (s1.heap.objs.size + 4)]) _ _ { s1 with heap := h' }
      have st : Zst h' h'.objs.size (s1.heap.objs.size + 4) (s1.heap.objs.size + 2) (s1.heap.objs.size + 3) s1.heap.objs.size (s1.heap.objs.size + 1) a b its.toArray its2.toArray 0 := ⟨.inl ⟨_, _, hz', hTO⟩, hTI, h1, h2, ⟨o1, hk _ _ ho1, by obtain ⟨o, e, r⟩ := id p1; rw [ho1] at e; cases e; exact r⟩, ⟨o2, hk _ _ ho2, by obtain ⟨o, e, r⟩ := id p2'; rw [ho2] at e; cases e; exact r⟩⟩
      have la' : a < s1.heap.objs.size := la
      have lb' : b < s1.heap.objs.size := lb
      refine zl_call (u := { s1 with heap := h' }) (N := s1.heap.objs.size) (n := its.length) (I1.ok.hd hc) (PySem.W.ktu_apart s1.heap.objs.size a b la lb) st ?_ ?_ (by simp) (by simp; omega) (by omega) fun h2' tk acc c as lo hS hlen hG hacc => ?_
      · intro q hq
        show s1.heap.objs.size ≤ q ∧ q < h'.objs.size
        rw [hsz]
        simp only [List.mem_cons, List.not_mem_nil, or_false] at hq
        rcases hq with rfl | rfl | rfl | rfl <;> exact ⟨by first | exact Nat.le_refl _ | exact Nat.le_add_right _ _, by first | exact Nat.lt_add_of_pos_right (by decide) | exact Nat.add_lt_add_left (by decide) _⟩
      · intro q hq
        show q ≠ h'.objs.size
        rw [hsz]
        refine Nat.ne_of_lt ?_
        simp only [List.mem_cons, List.not_mem_nil, or_false] at hq
        rcases hq with rfl | rfl | rfl | rfl | rfl | rfl | rfl <;> first | exact Nat.lt_add_of_pos_right (by decide) | exact Nat.add_lt_add_left (by decide) _ | exact Nat.lt_of_lt_of_le la' (Nat.le_add_right _ _) | exact Nat.lt_of_lt_of_le lb' (Nat.le_add_right _ _)
      · have hN : s1.heap.objs.size ≤ h'.objs.size := by rw [hsz]; exact Nat.le_add_right _ _
        have kF : ∀ b o, s1.heap.get? b = some o → h2'.get? b = some o := fun b o e => lo b o (Heap.lt_size e) (hk b o e)
        have I2 : Inv X pins σ H1 { s1 with heap := h2', toks := tk } := I1.kept (t' := tk) kF
        have f0 : H1 h'.objs.size = none := I1.hok.fresh hN
        have eacc : Vals (as.map V.ref) acc.toList := by
          rw [hacc]
          exact vals_maps (fun z : Addr => V.ref z) (fun z => Value.ref z) as fun _ _ => rfl
        have I3 : Inv X pins σ (upd H1 h'.objs.size (.lst (as.map V.ref))) { s1 with heap := h2', toks := tk } := I2.take (h' := h2') (t' := tk) (fun b ob _ e => e) (I1.fpOk hN f0) ⟨by rw [List.length_map, hlen]; omega, acc.toList, c, eacc, hS⟩
        have nd : as.Nodup := List.Pairwise.imp (fun h => Nat.ne_of_lt h) hG.rise
        obtain ⟨H2, I4, g, qt⟩ := L2.DX.takeT (P := fun b vs => ∃ (j : Nat) (x y : V), as[j]? = some b ∧ xs[j]? = some x ∧ ys[j]? = some y ∧ vs = [x, y]) I1 as _ I3 nd fun b hb => by
          obtain ⟨j, hj⟩ := List.mem_iff_getElem?.mp hb
          obtain ⟨x, y, e1, e2, e3⟩ := hG.pairs j b hj
          have hab := hG.above b hb
          have hbl : s1.heap.objs.size ≤ b := Nat.le_trans hN (Nat.le_of_lt hab)
          have lj : j < as.length := (List.getElem?_eq_some_iff.mp hj).1
          obtain ⟨vx, ex⟩ : ∃ vx, xs[j]? = some vx := ⟨_, List.getElem?_eq_getElem (by omega)⟩
          obtain ⟨vy, ey⟩ : ∃ vy, ys[j]? = some vy := ⟨_, List.getElem?_eq_getElem (by omega)⟩
          obtain ⟨u1, hu1, r1⟩ := rv.get ex
          obtain ⟨u2, hu2, r2⟩ := rv2.get ey
          have ex1 : u1 = x := by simp at e1; rw [e1] at hu1; exact (Option.some.inj hu1).symm
          have ex2 : u2 = y := by simp at e2; rw [e2] at hu2; exact (Option.some.inj hu2).symm
          rw [ex1] at r1
          rw [ex2] at r2
          refine ⟨hbl, by rw [upd_ne (Nat.ne_of_gt hab)]; exact I1.hok.fresh hbl, [vx, vy], ⟨j, vx, vy, hj, ex, ey, rfl⟩, fun H3 => ⟨by show 2 ≤ sizeLine; decide, [x, y], .cons r1 (.cons r2 .nil), ⟨_, e3, rfl, 0, rfl⟩⟩⟩
        refine ⟨.ref h'.objs.size, H2, I4, rfl, q H2 h'.objs.size as (fun b o e => g b o (by rw [upd_ne (ne_of_none e f0)]; exact e)) f0 (g _ _ upd_same) (by omega) fun j t hj => ?_⟩
        obtain ⟨vs, ⟨j', x, y, e1, e2, e3, ev⟩, hH⟩ := qt t (List.mem_of_getElem? hj)
        have ej : j = j' := (List.getElem?_inj (List.getElem?_eq_some_iff.mp hj).1 nd).mp (hj.trans e1.symm)
        rw [← ej] at e2 e3
        exact ⟨x, y, e2, e3, by rw [hH, ev]⟩
end K70
namespace K70
open PySem PySem.Spec PyProof.Rows L2
/-! ### pointers_at, met -/
/-- the pointers of a file with their levels -/
def ptrs (d : Dim) (pl : Int → List Int) (f : Int) : List (Int × Nat) := [(cell pl (d.ff + f) 3, 0), (cell pl (d.ff + f) 4, 0), (cell pl (d.ff + f) 5, 0), (cell pl (d.ff + f) 6, 1), (cell pl (d.ff + f) 7, 2)]
/-- pairs of ints stand in a list at q -/
def PtsAt (H : Hp) (q : Addr) (l : List (Int × Nat)) : Prop := ∃ ts : List Addr, H q = some (.lst (ts.map V.ref)) ∧ ts.length = l.length ∧
  ∀ (i : Nat) (t : Addr) (a : Int × Nat), ts[i]? = some t → l[i]? = some a → H t = some (.tup [.int a.1, .int (a.2 : Int)])
theorem eight {l : List Int} (h : l.length = 8) : ∃ a b c d e f g i, l = [a, b, c, d, e, f, g, i] := by
  match l, h with
  | [a, b, c, d, e, f, g, i], _ => exact ⟨a, b, c, d, e, f, g, i, rfl⟩
def metAll (d : Dim) (pl : Int → List Int) (l : List (Int × Nat)) : List Int := l.flatMap fun a => metR d pl a.2 a.1
section
variable {P : Program} {w : World} {K : PySem.W.Frag} {mg : Str → Option Value} {base : Heap} {C : Addr}
def spPointersAt (C : Addr) : Sp := fun vs H Q _ => ∃ (h sh : Addr) (d : Dim) (pl : Int → List Int) (k : Int), vs = [.ref h, .ref sh, .int k] ∧ Hm C H h sh d pl ∧ (0 ≤ k ∧ k < d.F) ∧ ∀ H' q, Same H H' → PtsAt H' q (ptrs d pl k) → Q (.ref q) H'
theorem scPointersAt : FnScope ["home", "shape", "file", "plate", "levels"] ["home", "shape", "file"] (defScope sPointersAt) := ⟨rfl, rfl, rfl, by decide +kernel, rfl, by decide +kernel, by decide +kernel⟩
theorem ok_pointers_at (F : At K mg "pointers_at" sPointersAt) (T : Txt K mg C) (h1 : HasM P w K mg base CX0 1 C "file_plate" ["self", "file"] (spFilePlate C)) :
    Has P w K mg base CX0 2 "pointers_at" ["home", "shape", "file"] (spPointersAt C) := by
  obtain ⟨f, fd, F, m⟩ := F.ex
  obtain ⟨f1, fd1, G_file_plate, M_file_plate, b_file_plate⟩ := h1.ex
  refine ⟨f, fd, F.ok scPointersAt (fun vs H Q E h => ?_) (fun cdv A outer s H vs Q E hr h => ?_), m, F.kp, F.binds fun _ _ _ _ _ _ us hl => match us, hl with | [_, _, _], _ => rfl⟩
  · obtain ⟨h, sh, d, pl, k, rfl, _⟩ := h
    rfl
  · obtain ⟨h, sh, d, pl, k, rfl, hm, ⟨k0, k1⟩, q⟩ := h
    refine ⟨_, ((pss_cons (ps_set (i := 3) scPointersAt.nd rfl (Or.inl rfl) (pe_dget (hu_of hr) (pv 0) (pe_meth (pv 1) T.cS M_file_plate G_file_plate (hr.mono (by first | decide | omega)) b_file_plate .nil pass0 (pa_cons (pv 2) pa_nil)) (fun _ _ => rfl)))
  (pss_cons (ps_set (i := 4) scPointersAt.nd rfl (Or.inl rfl) (pe_op op_catA (pe_op op_repT (pe_tup (pa_cons pe_int pa_nil)) (pe_gi rfl T.gDIRECT)) (pe_tup (pa_cons pe_int (pa_cons pe_int pa_nil)))))
  (pss_one (ps_ret (pe_listZip rfl rfl rfl T.zlist T.zzip (pa_cons (pe_slice sl_tup (pv 3) (po_some (pe_op op_sub (pe_op op_sub (pe_gi rfl T.gWIDTH) (pe_gi rfl T.gDIRECT)) pe_int)) po_none) (pa_cons (pv 4) pa_nil)))))))), ?_⟩
    obtain ⟨dx, hs⟩ := hm.shape
    obtain ⟨p0, p1⟩ := file_place hm.o k0 k1
    obtain ⟨t, g, ht, hl⟩ := hm.home.get p0 p1
    obtain ⟨x0, x1, x2, x3, x4, x5, x6, x7, ex⟩ := eight hl
    have eq : ptrs d pl k = [(x3, 0), (x4, 0), (x5, 0), (x6, 1), (x7, 2)] := by
      unfold ptrs cell
      rw [ex]
      rfl
    rw [eq] at q
    rw [ex] at ht
    refine ⟨_, rfl, _, rfl, sh, dx, _, rfl, hs, (sf_none d).2.2.2.2.2.1, _, rfl, sh, d, k, rfl, hm.shape, h, _, rfl, g, ?_⟩
    refine ⟨(by show 1 ≤ sizeLine; decide), fun a na => ⟨a, 3, [.int 0], rfl, rfl, st_of upd_same, (by simp), by decide, by decide, by decide, fun b nb => ⟨(by show 2 ≤ sizeLine; decide), fun c nc => ?_⟩⟩⟩
    have sa : Same H _ := same_upd (o := .tup [.int 0]) na
    have sb := same_upd (o := .tup (List.replicate (Int.toNat 3) [V.int 0]).flatten) nb
    have sc' := same_upd (o := .tup [.int 1, .int 2]) nc
    refine ⟨b, c, _, _, rfl, rfl, st_of (sc' _ _ upd_same), st_of upd_same, (by show 5 ≤ sizeLine; decide), (fun z => by simp [List.replicate] at z), (fun _ z => by cases z), fun _ _ e ne => ?_⟩
    have se := same_upd (o := .tup [.int 0, .int 0, .int 0, .int 1, .int 2]) ne
    have s1 := ((sa.trans sb).trans sc').trans se
    refine ⟨_, rfl, _, _, rfl, rfl, _, _, rfl, rfl, _, rfl, t, _, rfl, st_of (s1 _ _ ht), (by show ¬ (HT.sIx 8 0 (some (8 - 3 - 2)) = 0 ∧ HT.sIx 8 8 none = 8); decide), fun z nz => ⟨_, rfl, z, e, _, _, rfl, st_of upd_same, st_of (same_upd nz _ _ upd_same), rfl, (by show 5 ≤ sizeLine; decide), fun H2 l ts s2 nl hL hlen hts => ?_⟩⟩
    refine q H2 l ((s1.trans (same_upd nz)).trans s2) ⟨ts, hL, hlen, fun i t' a e1 e2 => ?_⟩
    obtain ⟨x, y, y1, y2, y3⟩ := hts i t' e1
    rw [y3]
    match i, e2, y1, y2 with
    | 0, e2, y1, y2 => cases e2; cases y1; cases y2; rfl
    | 1, e2, y1, y2 => cases e2; cases y1; cases y2; rfl
    | 2, e2, y1, y2 => cases e2; cases y1; cases y2; rfl
    | 3, e2, y1, y2 => cases e2; cases y1; cases y2; rfl
    | 4, e2, y1, y2 => cases e2; cases y1; cases y2; rfl
    | n + 5, e2, _, _ => simp at e2
def spMet (C : Addr) : Sp := fun vs H Q _ => ∃ (h sh : Addr) (d : Dim) (pl : Int → List Int) (k : Int), vs = [.ref h, .ref sh, .int k] ∧ Hm C H h sh d pl ∧ (0 ≤ k ∧ k < d.F) ∧ RetL H ((metAll d pl (ptrs d pl k)).map V.int) Q
theorem scMet : FnScope ["home", "shape", "file", "found", "pointer", "level"] ["home", "shape", "file"] (defScope sMet) := ⟨rfl, rfl, rfl, by decide +kernel, rfl, by decide +kernel, by decide +kernel⟩
theorem ok_met (F : At K mg "met" sMet) (T : Txt K mg C) (h1 : Has P w K mg base CX0 2 "pointers_at" ["home", "shape", "file"] (spPointersAt C)) (h2 : Has P w K mg base CX0 4 "met_below" ["home", "shape", "pointer", "level"] (spMetBelow C)) :
    Has P w K mg base CX0 5 "met" ["home", "shape", "file"] (spMet C) := by
  obtain ⟨f, fd, F, m⟩ := F.ex
  obtain ⟨f1, fd1, G_pointers_at, m_pointers_at, k_pointers_at, b_pointers_at⟩ := h1.ex
  obtain ⟨f2, fd2, G_met_below, m_met_below, k_met_below, b_met_below⟩ := h2.ex
  refine ⟨f, fd, F.ok scMet (fun vs H Q E h => ?_) (fun cdv A outer s H vs Q E hr h => ?_), m, F.kp, F.binds fun _ _ _ _ _ _ us hl => match us, hl with | [_, _, _], _ => rfl⟩
  · obtain ⟨h, sh, d, pl, k, rfl, _⟩ := h
    rfl
  · obtain ⟨h, sh, d, pl, k, rfl, hm, ⟨k0, k1⟩, q⟩ := h
    refine ⟨_, ((pss_cons (ps_set (i := 3) scMet.nd rfl (Or.inl rfl) (pe_lst pa_nil))
  (pss_cons (ps_for PassesOwn.never rfl (pi_list (pe_call G_pointers_at (hr.mono (by first | decide | omega)) rfl m_pointers_at k_pointers_at b_pointers_at .nil pass0 (pa_cons (pv 0) (pa_cons (pv 1) (pa_cons (pv 2) pa_nil))))) (pg_tup (by rfl) (pgs_cons (pg_name (i := 4) scMet.nd rfl (Or.inl rfl)) (pgs_cons (pg_name (i := 5) scMet.nd rfl (Or.inl rfl)) pgs_nil)))
  (pss_one (ps_set (i := 3) scMet.nd rfl (Or.inl rfl) (pe_op op_cat (pv 3) (pe_call G_met_below (hr.mono (by first | decide | omega)) rfl m_met_below k_met_below b_met_below .nil pass0 (pa_cons (pv 0) (pa_cons (pv 1) (pa_cons (pv 4) (pa_cons (pv 5) pa_nil)))))))))
  (pss_one (ps_ret (pv 3)))))), ?_⟩
    refine ⟨Nat.zero_le _, fun l nl => ?_⟩
    have s1 : Same H (upd H l (.lst [])) := same_upd nl
    refine ⟨_, rfl, _, rfl, _, rfl, h, sh, d, pl, k, rfl, hm.same s1, ⟨k0, k1⟩, fun H2 p s2 hpt => ?_⟩
    obtain ⟨ts, hp, lt, hts⟩ := hpt
    refine ⟨p, rfl, ⟨_, sl_of hp⟩, for_list (K := K) (a := p) (xs := ts.map V.ref) (fun i σ H' => ∃ (x y : Option V) (u : Addr), σ = [some (.ref h), some (.ref sh), some (.int k), some (.ref u), x, y] ∧ Same H2 H' ∧ H u = none ∧ H' u = some (.lst ((metAll d pl ((ptrs d pl k).take i)).map V.int)))
      ⟨none, none, l, rfl, Same.refl _, nl, s2 _ _ upd_same⟩ (fun i σ H' _ ⟨x, y, u, _, s3, _⟩ => sl_of (s3 _ _ hp)) ?_ ?_⟩
    · rintro i y σ H' hi ⟨x, y', u, rfl, s3, nu, hu⟩
      obtain ⟨t, ht, rfl⟩ : ∃ t, ts[i]? = some t ∧ y = V.ref t := by
        rw [List.getElem?_map] at hi
        cases q1 : ts[i]? with
        | none => rw [q1] at hi; cases hi
        | some t => rw [q1] at hi; exact ⟨t, rfl, (Option.some.inj hi).symm⟩
      have hi5 : i < (ptrs d pl k).length := by
        have := (List.getElem?_eq_some_iff.mp ht).1
        omega
      obtain ⟨a, ha⟩ : ∃ a, (ptrs d pl k)[i]? = some a := ⟨_, List.getElem?_eq_getElem hi5⟩
      have hta := s3 _ _ (hts i t a ht ha)
      have s4 := (s1.trans s2).trans s3
      have a2 : a.2 ≤ 2 := by
        have hmem := List.mem_of_getElem? ha
        unfold ptrs at hmem
        simp only [List.mem_cons, List.not_mem_nil, or_false] at hmem
        rcases hmem with rfl | rfl | rfl | rfl | rfl <;> (first | exact Nat.zero_le _ | exact Nat.le_succ _ | exact Nat.le_refl _)
      have et : (ptrs d pl k).take (i + 1) = (ptrs d pl k).take i ++ [a] := by
        rw [List.take_succ, ha]
        rfl
      have bm := fun x : Int × Nat => (met_len hm.o hm.len x.2 x.1)
      have hle : (metAll d pl ((ptrs d pl k).take i)).length ≤ 5 * 73 := by
        have b1 : ∀ l : List (Int × Nat), (∀ x ∈ l, x.2 ≤ 2) → (metAll d pl l).length ≤ l.length * 73 := fun l => by
          induction l with
          | nil => intro _; exact Nat.zero_le _
          | cons x r ih =>
            intro hx
            have e1 := bm x
            have e2 := mbound_le (hx x (List.mem_cons_self ..))
            have e3 := ih fun y hy => hx y (List.mem_cons_of_mem _ hy)
            unfold metAll at e3 ⊢
            rw [List.flatMap_cons, List.length_append, List.length_cons]
            omega
        have e4 := b1 ((ptrs d pl k).take i) fun x hx => by
          have hx := List.mem_of_mem_take hx
          unfold ptrs at hx
          simp only [List.mem_cons, List.not_mem_nil, or_false] at hx
          rcases hx with rfl | rfl | rfl | rfl | rfl <;> (first | exact Nat.zero_le _ | exact Nat.le_succ _ | exact Nat.le_refl _)
        have e5 : ((ptrs d pl k).take i).length ≤ 5 := by
          rw [List.length_take]
          have : (ptrs d pl k).length = 5 := rfl
          omega
        omega
      refine ⟨t, _, rfl, st_of hta, rfl, _, _, rfl, _, _, rfl, rfl, ?_⟩
      refine ⟨_, rfl, _, rfl, _, rfl, _, rfl, _, rfl, a.2, a2, h, sh, d, pl, a.1, rfl, hm.same s4, fun H3 r s5 nr hr' => ?_⟩
      have lm := bm a
      have lb := mbound_le a2
      refine ⟨u, r, _, _, rfl, rfl, s5 _ _ hu, hr', ?_, fun z nz => ?_⟩
      · rw [List.length_map, List.length_map, sizeLine_eq]
        omega
      · refine ⟨_, _, z, rfl, same_new (s3.trans s5) nz, (s4.trans s5).free nz, ?_⟩
        rw [upd_same, ← List.map_append, et]
        unfold metAll
        rw [List.flatMap_append, List.flatMap_singleton]
    · rintro σ H' ⟨x, y', u, rfl, s3, nu, hu⟩
      have e6 : (ptrs d pl k).take (ts.map V.ref).length = ptrs d pl k := by rw [List.length_map, lt, List.take_length]
      rw [e6] at hu
      exact ⟨_, rfl, q _ u ((s1.trans s2).trans s3) nu hu⟩
end
end K70
namespace K70
open PySem PySem.Spec PySem.W PySem.Calls PyProof.Rows PySem.HandSPX
/-! ### BadShape: an own error over an own error; its __init__ calls super's and stores a field -/
abbrev exT : List Value := [.type "Exception", .type "BaseException", .type "object"]
/-- what the written part says of BadShape, at C, and of its __init__, at fI -/
structure BadTxt (P : Program) (K : Frag) (mg : Str → Option Value) (C fI : Addr) : Prop where
  gC : mg "BadShape" = some (.ref C)
  cls : ∃ nm q N bs bm sn sub ab col dd k0 k1 k2 k3 k5, K.lookup C = some (excClassObj nm q C N bs bm true sn sub ab col dd k0 k1 k2 k3 k5 "Exception.__new__") ∧ excTail exT bm = true
  sa : findIn K (.ref C) "__setattr__" = some (some (.builtin "object.__setattr__"))
  xf : L2.XfC K C
  noN : findIn K (.ref C) "word" = some none
  iC : findIn K (.ref C) "__init__" = some (some (.ref fI))
  tC : typeIn K (.ref fI) = some (.type "function")
  kC : keepIn K (.ref C) = true
  exX : subIn K (.ref C) (.type "Exception") = some true
  tyC : typeIn K (.ref C) = some (.type "type")
  te : exmOne K (.ref C) (.ref C) = some true
  op : nsIn K cStatics "thirdparty.any" = some none
  su : ks_superIn K C C "__init__" = some (some (.builtin "Exception.__init__"))
  mr : mroIn K C (.ref C) = some true
  ns : mg "super" = none
  fn : ∃ (oc : Value) (od : Option Addr) (doc pm : Value) (an : Option Addr) (cda cc : Addr) (ct : Value) (osl : Array (Option Value)) (ccl : Value) (cdd : Option Addr) (vs : Array Value) (ccs : Array (Option Value)) (file : Str) (tf : Tok) (cl : Value) (cld : Option Addr) (csl : Array (Option Value)),
    K.lookup fI = some ⟨oc, od, .func (fnX "__init__" "BadShape.__init__" (L2.defArgs sBadInit) (L2.defBody sBadInit) (L2.defScope sBadInit) [("__class__", cc)] .none .none doc pm an (.ref cda) ct), osl⟩ ∧ codeIn K (.ref cda) "BadShape.__init__" = true ∧
    K.lookup cda = some ⟨ccl, cdd, .fields vs, ccs⟩ ∧ vs[2]? = some (.str file tf) ∧ (P.main.file == file) = true ∧ K.lookup cc = some ⟨cl, cld, .cell (some (.ref C)), csl⟩
  top : (P.main.scope.names.lookup ("super" : Str)).isSome = false
theorem one_len (v : Value) : [v].length ≤ sizeLine := by
  rw [sizeLine_eq]
  exact (by decide : 1 ≤ 16777216)
section
variable {P : Program} {w : World} {A : Around} {E : Value → Shared → Prop} {R : Result → Shared → Prop} {hp : Heap} {g : Array GenState} {d : Drawn} {t : Nat} {os : OsState} {K : Frag}
/-- the first field of an exception of an own class over own classes -/
theorem bs_osa {name : Str} {tk : Tok} {v : Value} {x C : Addr} {fv : Array Value} {cd : ClassData} {bm : List Value}
    (X : K.In hp) (hx : hp.get? x = some { cls := .ref C, data := .fields fv }) (hcd : clsIn K C = some cd) (hm : cd.mro = .ref C :: bm) (hb : excTail exT bm = true) (hh : cd.hasDict = true) (ha : findIn K (.ref C) name = some none)
    (hq : ∀ h' tk' dx, (∀ b o, b ≠ x → hp.get? b = some o → h'.get? b = some o) → hp.objs.size ≤ dx → dx ≠ x → h'.get? x = some { cls := .ref C, dict := some dx, data := .fields fv } → h'.Ns1 dx (fun y => if y = name then some v else none) → R (.ok (.ret .none)) ⟨h', g, d, tk', os⟩) :
    codeAny (model P w) A (.call (.builtin "object.__setattr__") ⟨[.ref x, .str name tk, v], []⟩) R ⟨hp, g, d, t, os⟩ := by
  have I : InstAt hp x { cls := .ref C, data := .fields fv } C none := ⟨hx, rfl, rfl, trivial⟩
  have hxs : x ≠ hp.objs.size := Nat.ne_of_lt (Heap.lt_size hx)
  have hov : excOver K C exT = true := by
    unfold excOver
    rw [hcd]
    show (match cd.mro with | .ref C' :: bm => C' == C && excTail exT bm | _ => false) = true
    rw [hm]
    simp [hb]
  refine osa_openX (s := ⟨hp, g, d, t, os⟩) (od := none) (r := none) F.store_Exception X I hov (by unfold takerIn; rw [ha] <;> rfl) fun b => ?_
  have hcls : Looks (model P w) hp (classData C) cd := looks_clsIn X hcd
  obtain ⟨nm, bs, mro, ns, qn, hd, sn, sb, ab, col, del⟩ := cd
  dsimp only at hh
  subst hh
  unfold Builtin.ObjectAttr.storeInOwnDict Builtin.ObjectAttr.ownDictForStores
  repeat (first | with_reducible refine store_in_new ?_ ?_ | with_reducible refine wpAny_loadPart_at hx ?_ | with_reducible refine hcls.at ?_ | wp_step)
  · exact ⟨_, #[], _, (Heap.get?_update_ne _ _ _ _ hxs.symm).trans (Heap.get?_push_at rfl rfl), rfl, fun e he => absurd he (by simp), fun _ => rfl⟩
  · intro h' tk' hn' hs
    have hx1 : (hp.push { cls := .type "dict", data := .dict #[] }).get? x = some { cls := .ref C, data := .fields fv } := Heap.get?_push_of_some _ hx
    refine hq h' tk' hp.objs.size (fun b o hb ho => ?_) (Nat.le_refl _) hxs.symm ?_ hn'
    · exact (hs.2 b (Nat.ne_of_lt (Heap.lt_size ho))).trans ((Heap.get?_update_ne _ _ _ _ hb).trans (Heap.get?_push_of_some _ ho))
    · exact (hs.2 x hxs).trans (Heap.get?_update_self _ hx1 rfl)
/-- what __init__ leaves of a fresh exception at x -/
structure IniEnd (h h' : Heap) (x C dx t1 : Addr) (v : Value) : Prop where
  keep : ∀ b o, b ≠ x → h.get? b = some o → h'.get? b = some o
  obj : h'.get? x = some { cls := .ref C, dict := some dx, data := .fields #[.ref t1, .none, .none, .none, .bool false, .none] }
  big : h.objs.size ≤ dx
  ne : dx ≠ x
  ns : h'.Ns1 dx (fun y => if y = "word" then some v else none)
theorem ns_move {h h' : Heap} {L : Addr} {m : Str → Option Value} (n : h.Ns L m) (k : ∀ o, h.get? L = some o → h'.get? L = some o) : h'.Ns L m := by
  obtain ⟨o, es, ep, ho, r⟩ := n
  exact ⟨o, es, ep, k _ ho, r⟩
theorem bad_init {mg mb : Str → Option Value} {C fI : Addr} (T : BadTxt P K mg C fI) {x t0 : Addr} {v : Value} {s : Shared} (X : K.In s.heap) (hlim : s.heap.NoLimit) (G : s.heap.Ns mainGlobals mg) (B : s.heap.Ns builtinsNs mb) (hb : mb "super" = some (.type "super")) (hx : s.heap.get? x = some (excO C t0)) (hnx : K.lookup x = none) (hroom : A.depth < recursionLimit)
    (hq : ∀ h' tk dx t1, IniEnd s.heap h' x C dx t1 v → R (.ok (.ret .none)) { s with heap := h', toks := tk }) :
    codeAny (model P w) A (.call (.ref fI) ⟨[.ref x, v], []⟩) R s := by
  obtain ⟨oc, od, doc, pm, an, cda, cc, ct, osl, ccl, cdd, vs, ccs, file, tf, cl, cld, csl, ho, hcd, hcda, hvs, hfile, hcc⟩ := T.fn
  obtain ⟨nm, q, N, bs, bm, sn, sub, ab, col, dd, k0, k1, k2, k3, k5, hC, hbm⟩ := T.cls
  have hcl : clsIn K C = some { name := nm, bases := bs, mro := .ref C :: bm, ns := N, qualname := q, hasDict := true, slotNames := sn, subclasses := sub, abstract := ab, collection := col, hasDel := false } := by unfold clsIn; rw [hC] <;> rfl
  have lx := Heap.lt_size hx
  refine ks_codeAny_call_defAt (binds := [("self", .ref x), ("word", v)]) hroom (X _ _ ho) rfl hlim (codeRec_of X hcd) rfl (BindsTo.of_eq (by first | rfl | with_unfolding_all rfl)) (show ∀ x ∈ (L2.defScope sBadInit).names, x.2 ≠ .cell by decide +kernel) (fun y hy => ?_) (fun h1 hn1 hk1 => ?_) rfl rfl rfl
  · have l1 : (L2.defScope sBadInit).names.lookup ("self" : Str) = some .local := by decide +kernel
    have l2 : (L2.defScope sBadInit).names.lookup ("word" : Str) = some .local := by decide +kernel
    rcases List.mem_cons.mp hy with e | hy
    · rw [e]; exact l1
    · rw [List.mem_singleton.mp hy]; exact l2
  have X1 : K.In h1 := X.keeps hk1
  have hL : s.heap.objs.size ≠ x := Nat.ne_of_gt lx
  refine ks_wpAt_execs_cons (ks_wpAt_Expr_any (ks_wpAt_MethodCall ?_ (by rfl)) rfl rfl)
  refine ks_wpAt_super_base (f := fI) (cc := cda) (ar := { arg := "self", annotation := none, pos := ⟨9, 17, 9, 21⟩ }) (by rfl) (by rfl) (by rfl) (by rfl) (X1 _ _ ho) rfl (by rfl) (by rfl) (X1 _ _ hcda) rfl hvs hfile T.top ?_
  refine ks_loadName_global (by rfl) (by rfl) (loadGlobal_builtin (G.keeps hk1) T.ns (B.keeps hk1) hb ⟨rfl, ?_⟩)
  refine wpAny_loadName_free (c := cc) (by rfl) (by rfl) (by rfl) ⟨_, X1 _ _ hcc, rfl⟩ ?_
  refine wpAny_loadName_local (v := .ref x) (by rfl) (by rfl) hn1 (by first | rfl | with_unfolding_all rfl) ?_
  refine ks_wpAny_isType_cls (X1 _ _ hC) rfl ⟨rfl, ?_⟩
  have hx1 := hk1 _ _ hx
  refine ks_wpAny_call_super (X1 _ _ hC) rfl hx1 rfl (fun c e => by cases e) (looks_mroIn X1 T.mr) (fun h2 so k2 => ?_)
  have X2 : K.In h2 := X1.keeps k2
  have hx2 := k2 _ _ hx1
  have I2 : InstAt h2 x (excO C t0) C none := ⟨hx2, rfl, rfl, trivial⟩
  have su := T.su
  unfold ks_superIn at su
  rw [hcl] at su
  refine ESX.getMethod_super (l₀ := .ref C :: bm) so (looks_opaque X2 T.op) (fun A Q E s k q => wpAny_bind ((looks_clsIn X2 hcl) A _ E s k (wpAny_pure q))) rfl X2 su (ks_ne X2 I2 hcl) (by decide) (I2.type.andThen (looks_subIn X2 T.exX)) ?_
  have k3 : ∀ b o, h2.get? b = some o → (h2.push (ESX.bw x)).get? b = some o := fun b o e => Heap.get?_push_of_some _ e
  have hx3 := k3 _ _ hx2
  have hu3 : (h2.push (ESX.bw x)).get? h2.objs.size = some (ESX.bw x) := Heap.get?_push_size _ rfl
  have X3 : K.In (h2.push (ESX.bw x)) := X2.keeps k3
  refine ESX.callWith_bound (x := x) ?_ (by rfl) (by rfl)
  refine Calls.spliced_cons ?_
  show wpAny _ _ (eval (.Constant (.str "a bad shape") 0 ⟨10, 25, 10, 38⟩) _) _ _ _
  refine Calls.Constant_str (Calls.spliced_nil ⟨hu3, ?_⟩)
  refine ESX.call_bw (X3 _ _ hC) hx3 hu3 (one_len _) (fun h4 t1 k4 hx4 => ?_)
  have X4 : K.In h4 := fun a o e => k4 a o (fun z => by rw [z, hnx] at e; cases e) (X3 a o e)
  have hn4 : h4.Ns s.heap.objs.size (fun y => ([(("self" : Str), Value.ref x), (("word" : Str), v)] : List (Str × Value)).reverse.lookup y) := ns_move hn1 fun o e => k4 _ _ hL (k3 _ _ (k2 _ _ e))
  have k14 : ∀ b o, b ≠ x → s.heap.get? b = some o → h4.get? b = some o := fun b o n e => k4 b o n (k3 _ _ (k2 _ _ (hk1 b o e)))
  refine wpAt_of_wpAny (wpAny_execs_cons (plainObj_wpAny_Assign_Attribute ?_))
  refine ESX.ldL (v := v) hn4 (by first | rfl | with_unfolding_all rfl) (ESX.ldL (v := .ref x) hn4 (by first | rfl | with_unfolding_all rfl) ?_ (by rfl) (by rfl)) (by rfl) (by rfl)
  refine set_plain X4 (ox := excO C t1) (od := none) ⟨hx4, rfl, rfl, trivial⟩ T.sa ?_
  refine bs_osa X4 hx4 hcl rfl hbm rfl T.noN (fun h5 tk5 dx k5' dn dne hx5 hn5 => ?_)
  refine wpAny_execs_nil (hq h5 tk5 dx t1 ⟨fun b o n e => k5' b o n (k14 b o n e), hx5, ?_, dne, hn5⟩)
  obtain ⟨oL, _, _, hoL, _⟩ := hn4
  exact Nat.le_of_lt (Nat.lt_of_lt_of_le (Heap.lt_size hoL) dn)
/-- BadShape(v) made -/
structure BadMade (h h' : Heap) (e C d : Addr) (v : Value) : Prop where
  keep : ∀ b o, h.get? b = some o → h'.get? b = some o
  new : h.objs.size ≤ e
  obj : ∃ oe vs, h'.get? e = some oe ∧ oe.cls = .ref C ∧ oe.dict = some d ∧ oe.data = .fields vs ∧ vs[1]? = some .none
  big : h.objs.size ≤ d
  ne : d ≠ e
  ns : h'.Ns1 d (fun y => if y = "word" then some v else none)
theorem bad_made {mg mb : Str → Option Value} {C fI : Addr} (T : BadTxt P K mg C fI) {v : Value} {s : Shared} (X : K.In s.heap) (hlim : s.heap.NoLimit) (G : s.heap.Ns mainGlobals mg) (B : s.heap.Ns builtinsNs mb) (hb : mb "super" = some (.type "super")) (hroom : A.depth + 1 < recursionLimit)
    (hq : ∀ h' tk e d, BadMade s.heap h' e C d v → R (.ok (.ret (.ref e))) { s with heap := h', toks := tk }) :
    codeAny (model P w) A (.call (.ref C) ⟨[v], []⟩) R s := by
  obtain ⟨nm, q, N, bs, bm, sn, sub, ab, col, dd, k0, k1, k2, k3, k5, hC, hbm⟩ := T.cls
  obtain ⟨hp, g, dr, tk, os⟩ := s
  have k : ∀ b o, hp.get? b = some o → ((hp.push (kdv_tup [v])).push (excO C hp.objs.size)).get? b = some o := fun b o e => Heap.get?_push_of_some _ (Heap.get?_push_of_some _ e)
  have hget : ((hp.push (kdv_tup [v])).push (excO C hp.objs.size)).get? (hp.objs.size + 1) = some (excO C hp.objs.size) := by heap_get
  have hnx : K.lookup (hp.objs.size + 1) = none := by
    cases e : K.lookup (hp.objs.size + 1) with
    | none => rfl
    | some o =>
      have z : hp.get? (hp.objs.size + 1) = some o := X _ _ e
      exact absurd (Nat.lt_of_succ_lt (Heap.lt_size z)) (Nat.lt_irrefl _)
  refine call_own F.excBase_Exception (fun X => excTail_contains X bm hbm) (X _ _ hC) (looks_findIn X T.iC) (fun self => bind_fn X self T.tC) (one_len v) ?_
  refine bad_init (s := ⟨(hp.push (kdv_tup [v])).push (excO C hp.objs.size), g, dr, tk, os⟩) T (X.keeps k) (hlim.keeps k) (G.keeps k) (B.keeps k) hb hget hnx ?_ fun h' tk' dx t1 M => ?_
  · show A.depth + 1 < recursionLimit
    exact hroom
  · have old : ∀ b o, hp.get? b = some o → h'.get? b = some o := fun b o e => M.keep b o (Nat.ne_of_lt (Nat.lt_succ_of_lt (Heap.lt_size e))) (k b o e)
    have z : hp.objs.size + 1 + 1 ≤ dx := by
      have q := M.big
      simpa only [Heap.size_push] using q
    exact ⟨rfl, hq h' tk' (hp.objs.size + 1) dx ⟨old, Nat.le_succ _, ⟨_, _, M.obj, rfl, rfl, rfl, rfl⟩, Nat.le_trans (Nat.le_trans (Nat.le_succ _) (Nat.le_succ _)) z, M.ne, M.ns⟩⟩
end
end K70
namespace K70
open PySem PySem.Spec PyProof.Rows L2
/-! ### raise BadShape(what) -/
theorem relO_one {n : Str} {v : V} {u : Value} (r : RelV v u) (f : Str) : RelO (List.lookup f [(n, v)]) (if f = n then some u else none) := by
  by_cases hw : f = n
  · rw [hw, if_pos rfl]
    have q : List.lookup n [(n, v)] = some v := by simp [List.lookup]
    rw [q]
    exact r
  · rw [if_neg hw]
    have qw : (f == n) = false := by simpa using hw
    have q2 : List.lookup f [(n, v)] = none := by simp [List.lookup, qw]
    rw [q2]
    trivial
section
variable {X : Cx} {C fI : Addr}
/-- BadShape(e) -/
def tMkBad (C : Addr) (ta : TA) : L2.St → Hp → XK → Prop := fun σ H Q => ta σ H fun vs H1 => ∃ v, vs = [v] ∧ ∀ d, H1 d = none → Q (.ref C) (some d) (upd H1 d (.xd [(("word" : Str), v)]))
theorem pmk_bad {a : Expr} {ta : TA} {p pos : Pos} {k : Nat} (T : BadTxt X.prog X.K X.mg C fI) (hr : Room k X.A) (ha : PA X [a] ta) (hg : Gl X "BadShape" := by rfl)
    (he : starEach (a :: []) X.env = (false, eval a X.env) :: starEach [] X.env := by rfl) (hpl : (backTo pos (starEach [] X.env)).any (·.1) = false := by rfl) :
    PMk X (.Call (.Name "BadShape" p) [a] [] pos) (tMkBad C ta) := by
  intro pins s σ H Q I h
  refine wpAny_Call_Name_kw (ld_glob I hg T.gC ?_)
  refine PySem.W.callWith_K (h₀ := X.base) I.ok.mod.kin T.kC (thn (ha.run pos pins s σ H _ I h) fun us s1 ⟨vs, H1, I1, r1, v, ev, q1⟩ => ⟨I1.kIn, ?_⟩) he hpl
  subst ev
  obtain ⟨v', rfl, rv⟩ := vals1 r1
  · show wpAny _ _ (call (.ref C) [v']) _ _ _
    have hlim := I1.nolimit
    obtain ⟨mb, b1, b2⟩ := I1.mod.blt
    have hG := I1.mod.glob.keeps I1.bk
    have hB := b1.keeps I1.bk
    have hs : mb "super" = some (.type "super") := (b2 "super" (by decide)).trans (by decide +kernel)
    obtain ⟨hp, g, dr, tk, os⟩ := s1
    refine wpAny_call (bad_made T I1.kIn hlim hG hB hs (by have := hr.dp; omega) fun h' tk' e d M => ?_)
    show MkP X pins σ Q (.ref e) ⟨h', g, dr, tk', os⟩
    obtain ⟨oe, fv, hoe, hc, hd, hdat, h1⟩ := M.obj
    have hns := M.ns
    obtain ⟨G', g1, g2⟩ := restrict h' fun b => decide (b ≠ e)
    have gk : ∀ b, b ≠ e → G'.get? b = h'.get? b := fun b hb => g1 b (decide_eq_true hb)
    have ge : G'.get? e = none := g2 e (by simp)
    have old : ∀ b o, hp.get? b = some o → G'.get? b = some o := fun b o q => (gk b (Nat.ne_of_lt (Nat.lt_of_lt_of_le (Heap.lt_size q) M.new))).trans (M.keep b o q)
    have ob : ObjOk X.prog X.w (upd H1 d (.xd [(("word" : Str), v)])) G' d (.xd [(("word" : Str), v)]) := ⟨_, hns.at (fun o q => (gk d M.ne).trans q), fun f => relO_one rv f⟩
    have J : Inv X pins σ (upd H1 d (.xd [(("word" : Str), v)])) ⟨G', g, dr, tk', os⟩ := I1.laid (t' := tk') old M.big ob
    refine ⟨e, oe, fv, ⟨G', g, dr, tk', os⟩, _, .ref C, some d, rfl, J, fun b o q => ?_, ge, hoe, ⟨hc, hd⟩, hdat, h1, ?_, rfl, I1.bare, raises_own T.xf.exC T.tyC, q1 d (I1.hok.fresh M.big)⟩
    · by_cases hb : b = e
      · have q' : G'.get? b = some o := q
        rw [hb, ge] at q'; cases q'
      · exact (gk b hb).symm.trans q
    · rw [upd_ne (Ne.symm M.ne)]
      exact I1.hok.fresh M.new
/-- raise BadShape(e) -/
def tRaiseBad (C : Addr) (W : WX) (ta : TA) : TS := fun _ σ H => tMkBad C ta σ H fun cls d H' => W cls d σ H'
theorem ps_raiseBad {a : Expr} {ta : TA} {W : WX} {p pos pos2 : Pos} {k : Nat} (hc : X.calm = true) (T : BadTxt X.prog X.K X.mg C fI) (hr : Room k X.A) (tk : Takes X W) (ha : PA X [a] ta) (hg : Gl X "BadShape" := by rfl)
    (he : starEach (a :: []) X.env = (false, eval a X.env) :: starEach [] X.env := by rfl) (hpl : (backTo pos (starEach [] X.env)).any (·.1) = false := by rfl) :
    PS X (.Raise (some (.Call (.Name "BadShape" p) [a] [] pos)) none pos2) (tRaiseBad C W ta) := ps_raise hc tk (pmk_bad T hr ha hg he hpl)
end
end K70
namespace K70
open PySem PySem.Spec PyProof.Rows L2
section
variable {P : Program} {w : World} {K : PySem.W.Frag} {mg : Str → Option Value} {base : Heap} {C CB fB : Addr}
/-- is_whole as it stands behind the top -/
structure AtD (K : PySem.W.Frag) (mg : Str → Option Value) : Prop where
  ex : ∃ (f : Addr) (fd : FuncData), FunD K "is_whole" "is_whole" (defArgs sIsWhole) (defBody sIsWhole) (defScope sIsWhole) [.non, .non] [] f fd ∧ mg "is_whole" = some (.ref f)
theorem has_is_whole (F : AtD K mg) (T : Txt K mg C) : Has P w K mg base CX0 1 "is_whole" ["thing", "low", "high"] spIsWhole := by
  obtain ⟨f, fd, F, m⟩ := F.ex
  obtain ⟨ds, hv, hb⟩ := F.binds1 (ps := ["thing", "low", "high"]) 3 2 (by simp) rfl fun T kV doc pm an cdv ct us its hu hi =>
    match us, hu, its, hi with
    | [a, b, c], _, [x, y], _ => by first | exact ⟨_, rfl, rfl⟩ | exact ⟨_, by with_unfolding_all rfl, by with_unfolding_all rfl⟩
  cases hv
  exact ⟨f, fd, ok_is_whole F T, m, F.kp, hb⟩
/-! ### Shape.__init__ -/
/-- the numbers with their bounds -/
def rowsB (v0 v1 v2 v3 v4 : V) : List (Str × V × Int × Int) := [("dirs", v0, 2, 40), ("rows", v1, 1, 60), ("files", v2, 1, 40), ("blocks", v3, 1, 200), ("users", v4, 1, 4)]
def okB (r : Str × V × Int × Int) : Bool := okV r.2.1 r.2.2.1 r.2.2.2
/-- the first that is out of its bounds -/
def firstBad (l : List (Str × V × Int × Int)) : Option Str := (l.find? fun r => !okB r).map (·.1)
def tupB (r : Str × V × Int × Int) : List V := [.str r.1, r.2.1, .int r.2.2.1, .int r.2.2.2]
def spShInit (C CB : Addr) : Sp := fun vs H Q E => ∃ (x dx : Addr) (v0 v1 v2 v3 v4 : V), vs = [.ref x, v0, v1, v2, v3, v4] ∧ (flat4 v0 = true ∧ flat4 v1 = true ∧ flat4 v2 = true ∧ flat4 v3 = true ∧ flat4 v4 = true) ∧ H x = some (.ins C dx []) ∧
  (∀ wd, firstBad (rowsB v0 v1 v2 v3 v4) = some wd → ∀ H' d, Same H H' → H' d = some (.xd [(("word" : Str), .str wd)]) → E (.ref CB) (some d) H') ∧
  (firstBad (rowsB v0 v1 v2 v3 v4) = none → ∀ d : Dim, v0 = .int d.D → v1 = .int d.R → v2 = .int d.F → v3 = .int d.B → v4 = .int d.U → d.ok → ∀ H', SameB x H H' → H' x = some (.ins C dx (sf d)) → Q .non H')
theorem okV_int {v : V} {lo hi : Int} (h : okV v lo hi = true) : ∃ i, v = .int i ∧ lo ≤ i ∧ i ≤ hi := by
  cases v with
  | int i =>
    have e : (decide (lo ≤ i) && decide (i ≤ hi)) = true := h
    rw [Bool.and_eq_true, decide_eq_true_eq, decide_eq_true_eq] at e
    exact ⟨i, rfl, e.1, e.2⟩
  | _ => cases h
theorem okB_of {v0 v1 v2 v3 v4 : V} (h : firstBad (rowsB v0 v1 v2 v3 v4) = none) : ∃ d : Dim, d.ok ∧ v0 = .int d.D ∧ v1 = .int d.R ∧ v2 = .int d.F ∧ v3 = .int d.B ∧ v4 = .int d.U := by
  unfold firstBad at h
  rw [Option.map_eq_none_iff, List.find?_eq_none] at h
  have g : ∀ r ∈ rowsB v0 v1 v2 v3 v4, okB r = true := fun r hr => by
    have := h r hr
    simpa using this
  unfold rowsB at g
  obtain ⟨a, rfl, a1, a2⟩ := okV_int (g ("dirs", v0, 2, 40) (by simp))
  obtain ⟨b, rfl, b1, b2⟩ := okV_int (g ("rows", v1, 1, 60) (by simp))
  obtain ⟨c, rfl, c1, c2⟩ := okV_int (g ("files", v2, 1, 40) (by simp))
  obtain ⟨e, rfl, e1, e2⟩ := okV_int (g ("blocks", v3, 1, 200) (by simp))
  obtain ⟨f, rfl, f1, f2⟩ := okV_int (g ("users", v4, 1, 4) (by simp))
  exact ⟨⟨a, b, c, e, f⟩, ⟨⟨a1, a2⟩, ⟨b1, b2⟩, ⟨c1, c2⟩, ⟨e1, e2⟩, ⟨f1, f2⟩⟩, rfl, rfl, rfl, rfl, rfl⟩
theorem scShInit : FnScope ["self", "dirs", "rows", "files", "blocks", "users", "what", "number", "low", "high"] ["self", "dirs", "rows", "files", "blocks", "users"] (defScope sShInit) := ⟨rfl, rfl, rfl, by decide +kernel, rfl, by decide +kernel, by decide +kernel⟩
theorem ok_sh_init (F : AtM K C "__init__" "Shape.__init__" sShInit) (T : Txt K mg C) (TB : BadTxt P K mg CB fB) (h1 : Has P w K mg base CX0 1 "is_whole" ["thing", "low", "high"] spIsWhole) (h2 : Has P w K mg base CX0 1 "plates_for" ["cells"] spPlatesFor) :
    ∃ (f : Addr) (fd : FuncData), FnOk P w K mg base (L2.CX P w) 4 f fd ["self", "dirs", "rows", "files", "blocks", "users"] (spShInit C CB) ∧ Meth K C "__init__" f ∧ Binds K fd ["self", "dirs", "rows", "files", "blocks", "users"] [] := by
  obtain ⟨f, fd, F, m⟩ := F.ex
  obtain ⟨f1, fd1, G_is_whole, m_is_whole, k_is_whole, b_is_whole⟩ := h1.ex
  obtain ⟨f2, fd2, G_plates_for, m_plates_for, k_plates_for, b_plates_for⟩ := h2.ex
  refine ⟨f, fd, F.okX scShInit (fun vs H Q E h => ?_) (fun cdv A outer s H vs Q E hr h => ?_), m, F.binds fun _ _ _ _ _ _ us hl => match us, hl with | [_, _, _, _, _, _], _ => rfl⟩
  · obtain ⟨x, dx, v0, v1, v2, v3, v4, rfl, _⟩ := h
    rfl
  · obtain ⟨x, dx, v0, v1, v2, v3, v4, rfl, ⟨f0, f1, f2, f3, f4⟩, hx, qE, qN⟩ := h
    refine ⟨_, ((pss_cons (ps_for (passes_of rfl) rfl (pi_tup (pe_tup (pa_cons (pe_tup (pa_cons pe_str (pa_cons (pv 1) (pa_cons pe_int (pa_cons pe_int pa_nil))))) (pa_cons (pe_tup (pa_cons pe_str (pa_cons (pv 2) (pa_cons pe_int (pa_cons pe_int pa_nil))))) (pa_cons (pe_tup (pa_cons pe_str (pa_cons (pv 3) (pa_cons pe_int (pa_cons pe_int pa_nil))))) (pa_cons (pe_tup (pa_cons pe_str (pa_cons (pv 4) (pa_cons pe_int (pa_cons pe_int pa_nil))))) (pa_cons (pe_tup (pa_cons pe_str (pa_cons (pv 5) (pa_cons pe_int (pa_cons pe_int pa_nil))))) pa_nil))))))) (pg_tup (by rfl) (pgs_cons (pg_name (i := 6) scShInit.nd rfl (Or.inl rfl)) (pgs_cons (pg_name (i := 7) scShInit.nd rfl (Or.inl rfl)) (pgs_cons (pg_name (i := 8) scShInit.nd rfl (Or.inl rfl)) (pgs_cons (pg_name (i := 9) scShInit.nd rfl (Or.inl rfl)) pgs_nil)))))
  (pss_one (ps_if (pt_not (pt_val (pe_call G_is_whole (hr.mono (by first | decide | omega)) rfl m_is_whole k_is_whole b_is_whole .nil pass0 (pa_cons (pv 7) (pa_cons (pv 8) (pa_cons (pv 9) pa_nil))))))
  (pss_one (ps_raiseBad rfl TB hr (takes_of rfl rfl rfl rfl) (by exact (pa_cons (pv 6) pa_nil))))
  pss_nil)))
  (pss_cons (ps_fld (pv 0) (pv 1) rfl)
  (pss_cons (ps_fld (pv 0) (pv 2) rfl)
  (pss_cons (ps_fld (pv 0) (pv 3) rfl)
  (pss_cons (ps_fld (pv 0) (pv 4) rfl)
  (pss_cons (ps_fld (pv 0) (pv 5) rfl)
  (pss_cons (ps_fld (pv 0) (pe_op op_add pe_int (pe_call G_plates_for (hr.mono (by first | decide | omega)) rfl m_plates_for k_plates_for b_plates_for .nil pass0 (pa_cons (pv 1) pa_nil))) rfl)
  (pss_cons (ps_fld (pv 0) (pe_op op_add (pe_fld (pv 0) rfl) (pe_call G_plates_for (hr.mono (by first | decide | omega)) rfl m_plates_for k_plates_for b_plates_for .nil pass0 (pa_cons (pv 2) pa_nil))) rfl)
  (pss_cons (ps_fld (pv 0) (pe_op op_add (pe_fld (pv 0) rfl) (pe_call G_plates_for (hr.mono (by first | decide | omega)) rfl m_plates_for k_plates_for b_plates_for .nil pass0 (pa_cons (pv 5) pa_nil))) rfl)
  (pss_cons (ps_fld (pv 0) (pe_op op_add (pe_fld (pv 0) rfl) (pv 3)) rfl)
  (pss_one (ps_fld (pv 0) (pe_op op_add (pe_fld (pv 0) rfl) (pv 4)) rfl))))))))))))), ?_⟩
    refine ⟨_, rfl, (by show 4 ≤ sizeLine; decide), fun t0 n0 => ⟨_, rfl, (by show 4 ≤ sizeLine; decide), fun t1 n1 => ⟨_, rfl, (by show 4 ≤ sizeLine; decide), fun t2 n2 => ⟨_, rfl, (by show 4 ≤ sizeLine; decide), fun t3 n3 => ⟨_, rfl, (by show 4 ≤ sizeLine; decide), fun t4 n4 => ⟨(by show 5 ≤ sizeLine; decide), fun tt nt => ?_⟩⟩⟩⟩⟩⟩
    have s0 := same_upd (o := .tup (tupB ("dirs", v0, 2, 40))) n0
    have s1 := same_upd (o := .tup (tupB ("rows", v1, 1, 60))) n1
    have s2 := same_upd (o := .tup (tupB ("files", v2, 1, 40))) n2
    have s3 := same_upd (o := .tup (tupB ("blocks", v3, 1, 200))) n3
    have s4 := same_upd (o := .tup (tupB ("users", v4, 1, 4))) n4
    have s5 := same_upd (o := .tup [.ref t0, .ref t1, .ref t2, .ref t3, .ref t4]) nt
    obtain ⟨HT, hHT, sT, eT, all⟩ : ∃ HT, HT = upd (upd (upd (upd (upd (upd H t0 (.tup (tupB ("dirs", v0, 2, 40)))) t1 (.tup (tupB ("rows", v1, 1, 60)))) t2 (.tup (tupB ("files", v2, 1, 40)))) t3 (.tup (tupB ("blocks", v3, 1, 200)))) t4 (.tup (tupB ("users", v4, 1, 4)))) tt (.tup [.ref t0, .ref t1, .ref t2, .ref t3, .ref t4]) ∧
        Same H HT ∧ HT tt = some (.tup ([t0, t1, t2, t3, t4].map V.ref)) ∧ ∀ (i : Nat) (t : Addr), [t0, t1, t2, t3, t4][i]? = some t → ∃ r, (rowsB v0 v1 v2 v3 v4)[i]? = some r ∧ HT t = some (.tup (tupB r)) := by
      refine ⟨_, rfl, ((((s0.trans s1).trans s2).trans s3).trans s4).trans s5, upd_same, fun i t e => ?_⟩
      match i, e with
      | 0, e => cases e; exact ⟨_, rfl, s5 _ _ (s4 _ _ (s3 _ _ (s2 _ _ (s1 _ _ upd_same))))⟩
      | 1, e => cases e; exact ⟨_, rfl, s5 _ _ (s4 _ _ (s3 _ _ (s2 _ _ upd_same)))⟩
      | 2, e => cases e; exact ⟨_, rfl, s5 _ _ (s4 _ _ (s3 _ _ upd_same))⟩
      | 3, e => cases e; exact ⟨_, rfl, s5 _ _ (s4 _ _ upd_same)⟩
      | 4, e => cases e; exact ⟨_, rfl, s5 _ _ upd_same⟩
      | n + 5, e => simp at e
    have flt : ∀ r ∈ rowsB v0 v1 v2 v3 v4, flat4 r.2.1 = true := fun r hr => by
      unfold rowsB at hr
      simp only [List.mem_cons, List.not_mem_nil, or_false] at hr
      rcases hr with rfl | rfl | rfl | rfl | rfl
      · exact f0
      · exact f1
      · exact f2
      · exact f3
      · exact f4
    refine ⟨tt, rfl, ⟨_, st_of upd_same⟩, for_tup (K := K) (a := tt) (xs := [t0, t1, t2, t3, t4].map V.ref) (fun i σ H' => ∃ a b c e : Option V, σ = [some (.ref x), some v0, some v1, some v2, some v3, some v4, a, b, c, e] ∧ H' = HT ∧ ∀ r ∈ (rowsB v0 v1 v2 v3 v4).take i, okB r = true)
      ⟨none, none, none, none, rfl, hHT.symm, fun r hr => by simp at hr⟩ (fun i σ H' _ ⟨_, _, _, _, _, e, _⟩ => by rw [e]; exact st_of eT) ?_ ?_⟩
    · rintro i y σ H' hi ⟨a, b, c, e, rfl, rfl, ok⟩
      obtain ⟨t, ht, rfl⟩ : ∃ t, [t0, t1, t2, t3, t4][i]? = some t ∧ y = V.ref t := by
        rw [List.getElem?_map] at hi
        cases q1 : [t0, t1, t2, t3, t4][i]? with
        | none => rw [q1] at hi; cases hi
        | some t => rw [q1] at hi; exact ⟨t, rfl, (Option.some.inj hi).symm⟩
      obtain ⟨r, hr', hT⟩ := all i t ht
      refine ⟨t, _, rfl, st_of hT, rfl, _, _, rfl, _, _, rfl, _, _, rfl, _, _, rfl, rfl, ?_⟩
      refine ⟨_, rfl, _, rfl, _, rfl, r.2.1, r.2.2.1, r.2.2.2, rfl, flt r (List.mem_of_getElem? hr'), ?_⟩
      have et : (rowsB v0 v1 v2 v3 v4).take (i + 1) = (rowsB v0 v1 v2 v3 v4).take i ++ [r] := by
        rw [List.take_succ, hr']
        rfl
      by_cases c1 : okB r = true
      · have c2 : okV r.2.1 r.2.2.1 r.2.2.2 = true := c1
        rw [c2]
        refine ⟨true, rfl, iteF ?_⟩
        refine ⟨_, _, _, _, rfl, rfl, fun z hz => ?_⟩
        rw [et] at hz
        rcases List.mem_append.mp hz with hz | hz
        · exact ok z hz
        · rw [List.mem_singleton.mp hz]; exact c1
      · have c2 : okV r.2.1 r.2.2.1 r.2.2.2 = false := Bool.eq_false_iff.mpr c1
        rw [c2]
        refine ⟨false, rfl, iteT ?_⟩
        refine ⟨_, rfl, _, rfl, fun d nd => ?_⟩
        refine qE r.1 ?_ _ d (same_new sT nd) upd_same
        unfold firstBad
        have hlt := (List.getElem?_eq_some_iff.mp hr')
        have e1 : rowsB v0 v1 v2 v3 v4 = (rowsB v0 v1 v2 v3 v4).take i ++ r :: (rowsB v0 v1 v2 v3 v4).drop (i + 1) := by
          obtain ⟨h1, h2⟩ := hlt
          have := List.take_append_drop i (rowsB v0 v1 v2 v3 v4)
          rw [List.drop_eq_getElem_cons h1, h2] at this
          exact this.symm
        have e2 : (rowsB v0 v1 v2 v3 v4).find? (fun r => !okB r) = some r := by
          rw [e1, List.find?_append]
          have : ((rowsB v0 v1 v2 v3 v4).take i).find? (fun r => !okB r) = none := by
            rw [List.find?_eq_none]
            intro z hz
            simp [ok z hz]
          rw [this, List.find?_cons]
          have c3 : okB r = false := c2
          simp [c3]
        rw [e2]
        rfl
    · rintro σ H' ⟨a, b, c, e, rfl, rfl, ok⟩
      have hb : firstBad (rowsB v0 v1 v2 v3 v4) = none := by
        unfold firstBad
        have e2 : (rowsB v0 v1 v2 v3 v4).find? (fun r => !okB r) = none := by
          rw [List.find?_eq_none]
          intro z hz
          have := ok z hz
          simp [this]
        rw [e2]
        rfl
      obtain ⟨d, od, rfl, rfl, rfl, rfl, rfl⟩ := okB_of hb
      have qN := qN hb d rfl rfl rfl rfl rfl od
      have hx' := sT _ _ hx
      refine ⟨_, rfl, _, rfl, x, C, dx, _, rfl, hx', T.cS, T.na, (show (0 : Nat) < 1000 by decide), ?_⟩
      refine ⟨_, rfl, _, rfl, x, C, dx, _, rfl, upd_same, T.cS, T.na, (show (1 : Nat) < 1000 by decide), ?_⟩
      refine ⟨_, rfl, _, rfl, x, C, dx, _, rfl, upd_same, T.cS, T.na, (show (2 : Nat) < 1000 by decide), ?_⟩
      refine ⟨_, rfl, _, rfl, x, C, dx, _, rfl, upd_same, T.cS, T.na, (show (3 : Nat) < 1000 by decide), ?_⟩
      refine ⟨_, rfl, _, rfl, x, C, dx, _, rfl, upd_same, T.cS, T.na, (show (4 : Nat) < 1000 by decide), ?_⟩
      refine ⟨_, rfl, _, rfl, _, _, rfl, rfl, _, rfl, x, C, dx, _, rfl, upd_same, T.cS, T.na, (show (5 : Nat) < 1000 by decide), ?_⟩
      refine ⟨_, rfl, x, C, dx, _, _, rfl, upd_same, T.cS, T.na, (by rfl), _, rfl, _, rfl, _, _, rfl, rfl, _, rfl, x, C, dx, _, rfl, upd_same, T.cS, T.na, (show (6 : Nat) < 1000 by decide), ?_⟩
      refine ⟨_, rfl, x, C, dx, _, _, rfl, upd_same, T.cS, T.na, (by rfl), _, rfl, _, rfl, _, _, rfl, rfl, _, rfl, x, C, dx, _, rfl, upd_same, T.cS, T.na, (show (7 : Nat) < 1000 by decide), ?_⟩
      refine ⟨_, rfl, x, C, dx, _, _, rfl, upd_same, T.cS, T.na, (by rfl), _, rfl, _, _, rfl, rfl, _, rfl, x, C, dx, _, rfl, upd_same, T.cS, T.na, (show (8 : Nat) < 1000 by decide), ?_⟩
      refine ⟨_, rfl, x, C, dx, _, _, rfl, upd_same, T.cS, T.na, (by rfl), _, rfl, _, _, rfl, rfl, _, rfl, x, C, dx, _, rfl, upd_same, T.cS, T.na, (show (9 : Nat) < 1000 by decide), ?_⟩
      refine qN _ ?_ (by rw [upd_same]; rfl)
      intro b o n e
      repeat rw [upd_ne n]
      exact sT b o e
end
end K70
namespace K70
open PySem PySem.Spec PyProof.Rows L2
/-! ### an instance made in a try -/
section
variable {X : Cx} {CX : CXT} {k : Nat} {f C : Addr} {fd : FuncData} {ps : List Str} {sp : Sp} {E : L2.St → XK} {x : Str} {p pos : Pos} {e : Expr} {es : List Expr} {t : TA}
def tMakeS (C : Addr) (sp : Sp) (E : L2.St → XK) (t : TA) : TE := fun σ H Q => t σ H fun vs H1 => ∀ x dx, H1 x = none → H1 dx = none → dx ≠ x → sp (.ref x :: vs) (upd (upd H1 dx (.own x)) x (.ins C dx [])) (fun v H2 => v = .non ∧ Q (.ref x) H2) (E σ)
theorem run_makeS {pins : List (Addr × Obj)} {σ : L2.St} {H : Hp} {u : Shared} {Q : VK} {us : List Value} {vs : List V} (M : Mk X.K C f) (F : FnOk X.prog X.w X.K X.mg X.base CX k f fd ps sp) (hr : Room (k + 1) X.A) (hb : Binds X.K fd ps []) (hx : PassesAt CX X σ (E σ)) (I : Inv X pins σ H u) (r : Vals vs us)
    (h : ∀ x dx, H x = none → H dx = none → dx ≠ x → sp (.ref x :: vs) (upd (upd H dx (.own x)) x (.ins C dx [])) (fun v H2 => v = .non ∧ Q (.ref x) H2) (E σ)) : wpAny (model X.prog X.w) X.A (call (.ref C) us) (EP X pins σ Q) X.xe u := by
  have hq := h (u.heap.objs.size + 1) u.heap.objs.size (I.hok.fresh (Nat.le_succ _)) (I.hok.fresh (Nat.le_refl _)) (Nat.ne_of_lt (Nat.lt_succ_self _))
  have J := Inv.made (C := C) I
  have rr : Vals (V.ref (u.heap.objs.size + 1) :: vs) (Value.ref (u.heap.objs.size + 1) :: us) := .cons rfl r
  have hl : (Value.ref (u.heap.objs.size + 1) :: us).length = ps.length := by rw [← rr.length]; exact F.len _ _ _ _ hq
  have b := hb _ (Value.ref (u.heap.objs.size + 1) :: us) J.kIn (by rw [List.append_nil]; exact hl)
  rw [List.append_nil] at b
  refine wpAny_call (make_map (f := f) I.kIn M.makes M.init (beq_iff_eq.mp M.fn) (codeAny_mono (F.run _ X.stack _ _ ⟨Value.ref (u.heap.objs.size + 1) :: us, []⟩ _ _ _ (E σ) (hr.make C us []) (J.env0.make C us []) b rr hq) fun q s' hq' => ?_))
  cases q with
  | error e => exact hx pins _ _ e s' J hq'
  | ok fl =>
    cases fl with
    | ret y =>
      obtain ⟨v, H', I3, rv, ev, q3⟩ := J.after hq'
      subst ev
      exact ⟨rv, V.ref (u.heap.objs.size + 1), H', I3, rfl, q3⟩
    | next => exact False.elim hq'
    | brk => exact False.elim hq'
    | cont => exact False.elim hq'
theorem pe_makeS (M : Mk X.K C f) (F : FnOk X.prog X.w X.K X.mg X.base CX k f fd ps sp) (hr : Room (k + 1) X.A) (hg : Gl X x) (hm : X.mg x = some (.ref C)) (hb : Binds X.K fd ps []) (hx : ∀ σ, PassesAt CX X σ (E σ)) (ha : PA X (e :: es) t) (hdb : (x == ("__debug__" : Str)) = false := by decide)
    (he : starEach (e :: es) X.env = (false, eval e X.env) :: starEach es X.env := by rfl) (hpl : (backTo pos (starEach es X.env)).any (·.1) = false := by rfl) : PE X (.Call (.Name x p) (e :: es) [] pos) (tMakeS C sp E t) := by
  refine ⟨fun pins s σ H Q I h => wpAny_Call_Name_kw (ld_glob I hg hm ?_ hdb)⟩
  exact PySem.W.callWith_K (h₀ := X.base) I.ok.mod.kin M.kp (thn (ha.run pos pins s σ H _ I h) fun us s1 ⟨vs, H1, I1, r, q⟩ => ⟨I1.kIn, run_makeS M F hr hb (hx σ) I1 r q⟩) he hpl
end
section
variable {P : Program} {w : World} {K : PySem.W.Frag} {mg : Str → Option Value} {base : Heap} {C CB fB : Addr}
/-- the class Shape can be made, and what its __init__ keeps -/
structure HasMk (P : Program) (w : World) (K : PySem.W.Frag) (mg : Str → Option Value) (base : Heap) (C CB : Addr) : Prop where
  ex : ∃ (f : Addr) (fd : FuncData), FnOk P w K mg base (L2.CX P w) 4 f fd ["self", "dirs", "rows", "files", "blocks", "users"] (spShInit C CB) ∧ Mk K C f ∧ Binds K fd ["self", "dirs", "rows", "files", "blocks", "users"] []
def spIsRefused : Sp := fun vs H Q _ => ∃ (a : Addr) (wd : Str) (v0 v1 v2 v3 v4 : V), vs = [.ref a, .str wd] ∧ H a = some (.lst [v0, v1, v2, v3, v4]) ∧ (flat4 v0 = true ∧ flat4 v1 = true ∧ flat4 v2 = true ∧ flat4 v3 = true ∧ flat4 v4 = true) ∧
  firstBad (rowsB v0 v1 v2 v3 v4) = some wd ∧ RetV H (.bl true) Q
theorem scIsRefused : FnScope ["_law_numbers", "_law_word", "_law_bad"] ["_law_numbers", "_law_word"] (defScope sLawIsRefused) := ⟨rfl, rfl, rfl, by decide +kernel, rfl, by decide +kernel, by decide +kernel⟩
theorem ok_is_refused (F : At K mg "_law_is_refused" sLawIsRefused) (T : Txt K mg C) (TB : BadTxt P K mg CB fB) (h1 : HasMk P w K mg base C CB) : Has P w K mg base CX0 6 "_law_is_refused" ["_law_numbers", "_law_word"] spIsRefused := by
  obtain ⟨f, fd, F, m⟩ := F.ex
  obtain ⟨f1, fd1, G, M, b⟩ := h1.ex
  refine ⟨f, fd, F.ok scIsRefused (fun vs H Q E h => ?_) (fun cdv A outer s H vs Q E hr h => ?_), m, F.kp, F.binds fun _ _ _ _ _ _ us hl => match us, hl with | [_, _], _ => rfl⟩
  · obtain ⟨a, wd, v0, v1, v2, v3, v4, rfl, _⟩ := h
    rfl
  · obtain ⟨a, wd, v0, v1, v2, v3, v4, rfl, ha, fl, hb, q⟩ := h
    refine ⟨_, (pss_cons (ps_try_as (i := 2) (tb := fun W => tDrop (tMakeS C (spShInit C CB) (WE W) (tCons (tOp (rIxL K) (tVar 0) (tC (.int 0))) (tCons (tOp (rIxL K) (tVar 0) (tC (.int 1))) (tCons (tOp (rIxL K) (tVar 0) (tC (.int 2))) (tCons (tOp (rIxL K) (tVar 0) (tC (.int 3))) (tCons (tOp (rIxL K) (tVar 0) (tC (.int 4))) tNil))))))) (ts := fun a cls d => tRet (tOp rEq (tXf a cls d CB "word" (tVar 2)) (tVar 1))) (Wout := fun _ _ _ _ => False) rfl rfl scIsRefused.nd rfl rfl ⟨rfl, by decide, Or.inl TB.gC⟩ takes0
        (fun W pn xe tk _ => pss_one (ps_expr (by exact pe_makeS M G hr rfl T.gShape b (fun σ => passAt tk σ) (by exact (pa_cons (pe_ix ix_list (pv 0) pe_int (fun _ _ => rfl)) (pa_cons (pe_ix ix_list (pv 0) pe_int (fun _ _ => rfl)) (pa_cons (pe_ix ix_list (pv 0) pe_int (fun _ _ => rfl)) (pa_cons (pe_ix ix_list (pv 0) pe_int (fun _ _ => rfl)) (pa_cons (pe_ix ix_list (pv 0) pe_int (fun _ _ => rfl)) pa_nil)))))))))
        (fun a oe cls d pn hz hf => pss_one (ps_ret (by exact (pe_cmpR op_eq (pe_xf TB.xf TB.noN hz hf (pv 2)) (pv 1) (nomark _))))))
      (pss_one (ps_ret pe_bl))), ?_⟩
    refine ⟨_, rfl, a, _, 0, _, rfl, rfl, sl_of ha, atI_nat (j := 0) rfl, _, rfl, a, _, 1, _, rfl, rfl, sl_of ha, atI_nat (j := 1) rfl, _, rfl, a, _, 2, _, rfl, rfl, sl_of ha, atI_nat (j := 2) rfl, _, rfl, a, _, 3, _, rfl, rfl, sl_of ha, atI_nat (j := 3) rfl, _, rfl, a, _, 4, _, rfl, rfl, sl_of ha, atI_nat (j := 4) rfl, fun x dx nx ndx ne => ?_⟩
    have s1 : Same H (upd (upd H dx (.own x)) x (.ins C dx [])) := (same_upd ndx).trans (same_upd (by rw [upd_ne (Ne.symm ne)]; exact nx))
    refine ⟨x, dx, v0, v1, v2, v3, v4, rfl, fl, upd_same, fun wd' e H' d s2 hd => ?_, fun e => ?_⟩
    · have ew : wd' = wd := by
        rw [hb] at e
        exact (Option.some.inj e).symm
      rw [ew] at hd
      refine ⟨true, TB.te, fun _ a2 na => ?_, fun z => nomatch z⟩
      refine ⟨_, rfl, rfl, rfl, d, _, _, rfl, hd, (by first | rfl | simp [List.lookup]), _, rfl, rfl, ?_⟩
      rw [decide_eq_true rfl]
      exact q H' (s1.trans s2)
    · rw [hb] at e
      cases e
end
end K70
namespace K70
open PySem PySem.Spec PyProof.Rows L2
/-! ### x != y of two instances whose class has an __eq__ of its own and object's __ne__ -/
section
variable {P : Program} {w : World} {M : Model} {A : Around} {E : Value → Shared → Prop} {u : Shared} {K : PySem.W.Frag} {x y C f : Addr} {ox : Obj} {od : Option Obj}
theorem ifBound_ne {args : List Value} {Q : Option Value → Shared → Prop} (X : K.In u.heap) (I : PySem.W.InstAt u.heap x ox C od) (hs : PySem.W.findIn K (.ref C) "__ne__" = some (some (.builtin "object.__ne__")))
    (h : wpAny M A (call (.builtin "object.__ne__") (.ref x :: args)) (fun v => Q (some v)) E u) : wpAny M A (callSpecialIfBound? (.ref x) "__ne__" args) Q E u := by
  simp only [callSpecialIfBound?, bindSpecialIfBound?]
  refine wpAny_holding (wpAny_bind (wpAny_bind (wpAny_bind (I.type.here ((PySem.W.looks_findIn X hs).here (wpAny_bind (wpAny_askSetting (wpAny_ite ?_))))))))
  have fin : wpAny M A (call (.builtin "object.__ne__") ([.ref x] ++ args) >>= fun v => pure (some v)) Q E u := wpAny_bind (thn h fun v s' q => wpAny_pure q)
  split
  · exact wpAny_bind (wpAny_of_eq (F.cmp_object.ne.bind _) (wpAny_pure (by exact fin)))
  · exact wpAny_tryCatch (wpAny_bind (wpAny_of_eq (F.cmp_object.ne.bind _) (wpAny_pure (by exact fin))))
theorem run_objNe {Q : Fin → Shared → Prop} (X : K.In u.heap) (I : PySem.W.InstAt u.heap x ox C od) (hu : A.units < cLine) (hs : PySem.W.findIn K (.ref C) "__eq__" = some (some (.ref f))) (hf : PySem.W.isFn K (.ref f) = true)
    (h : wpAny (model P w) A (call (.ref f) [.ref x, .ref y]) (fun v s' => ∃ b, v = .bool b ∧ Q (.done (.ret (.bool (!b)))) s') E u) : wpAny (model P w) A (Builtin.«object.__ne__» ⟨[.ref x, .ref y], []⟩) Q E u := by
  unfold Builtin.«object.__ne__»
  repeat (first
    | with_reducible refine wpAny_cRoomFor hu ?_
    | (refine wpAny_bind (m := callSpecialIfBound? (.ref x) (Str.ofString "__eq__") [.ref y]) (PySem.W.ifBound_K X I hs hf (thn h fun r s' hr => ?_)))
    | wp_step)
  obtain ⟨b, rfl, q⟩ := hr
  refine wpAny_bind (m := truthy (.bool b)) (wpAny_truthy_bool ?_)
  exact wpAny_pure q
theorem rich_ne {oy : Obj} {Q : Value → Shared → Prop} (X : K.In u.heap) (I : PySem.W.InstAt u.heap x ox C od) (hy : u.heap.get? y = some oy) (hyc : oy.cls = .ref C) (hu : A.units + 1 < cLine) (hm : PySem.W.mroIn K C (.type "object") = some true)
    (hn : PySem.W.findIn K (.ref C) "__ne__" = some (some (.builtin "object.__ne__"))) (hs : PySem.W.findIn K (.ref C) "__eq__" = some (some (.ref f))) (hf : PySem.W.isFn K (.ref f) = true)
    (h : wpAny (model P w) A.in1 (call (.ref f) [.ref x, .ref y]) (fun v s' => ∃ b, v = .bool b ∧ Q (.bool (!b)) s') E u) : wpAny (model P w) A (compareOp .NotEq (.ref x) (.ref y)) Q E u := by
  have one : wpAny (model P w) A (tryCompare (.ref x) "__ne__" (.ref y)) (fun r s' => ∃ b, r = some (.bool b) ∧ Q (.bool b) s') E u := by
    unfold tryCompare
    refine wpAny_bind (ifBound_ne X I hn (wpAny_call (codeAny_call_builtin F.cmp_object.ne.plain F.cmpEntry_ne (PySem.W.check_slot F.cmpKind_ne F.cmpSplit_ne (I.type.andThen (PySem.W.looks_mroIn X hm)) (F.cmpArgs_ne _ _) (run_objNe (A := A.in1) X I hu hs hf (thn h fun v s' hv => ?_))))))
    obtain ⟨b, rfl, q⟩ := hv
    exact ⟨b, rfl, wpAny_pure ⟨_, rfl, q⟩⟩
  unfold compareOp richCompare
  simp only [oneThing_ref]
  refine wpAny_holding (wpAny_bind (wpAny_cRoomFor (Nat.lt_of_succ_lt hu) ?_))
  rw [cmpInfo_NotEq]
  dsimp only
  refine wpAny_bind (I.type.here (wpAny_bind (wpAny_typeOf_ref hy ?_)))
  rw [hyc, show (Value.ref C != Value.ref C) = false from by simp]
  simp only [Bool.false_eq_true, if_false]
  refine wpAny_bind (wpAny_pure ?_)
  simp only [Bool.false_eq_true, if_false]
  refine wpAny_bind (thn one fun v s' hv => ?_)
  obtain ⟨b, rfl, q⟩ := hv
  first | exact wpAny_pure q | exact wpAny_pure (wpAny_pure q)
end
section
variable {X : Cx} {C f : Addr} {fd : FuncData} {ps : List Str} {sp : Sp} {n : Nat}
def rNeS (C : Addr) (sp : Sp) : R2 := fun x y H Q => ∃ (a b dx dy : Addr) (fs gs : List (Str × V)), x = .ref a ∧ y = .ref b ∧ H a = some (.ins C dx fs) ∧ H b = some (.ins C dy gs) ∧ sp [.ref a, .ref b] H (fun v H' => ∃ k, v = .bl k ∧ Q (.bl (!k)) H') E0
theorem op_neS (F : FnOk X.prog X.w X.K X.mg X.base CX0 n f fd ps sp) (hr : Room (n + 1) X.A) (hm : PySem.W.mroIn X.K C (.type "object") = some true) (hn : PySem.W.findIn X.K (.ref C) "__ne__" = some (some (.builtin "object.__ne__"))) (hs : PySem.W.findIn X.K (.ref C) "__eq__" = some (some (.ref f))) (hf : PySem.W.isFn X.K (.ref f) = true)
    (hb : Binds X.K fd ps []) : OpR X (compareOp .NotEq) (rNeS C sp) := by
  intro pins s σ H x y v u Q I rx ry h
  obtain ⟨a, b, dx, dy, fs, gs, rfl, rfl, ha, hb', q⟩ := h
  cases rx
  cases ry
  obtain ⟨mA, J, _⟩ := ins_get I.hok ha
  obtain ⟨mB, J', _⟩ := ins_get I.hok hb'
  obtain ⟨od, J, _⟩ := J.look
  obtain ⟨od', J', _⟩ := J'.look
  have hu : X.A.units + 1 < cLine := by have := hr.un; omega
  refine rich_ne I.kIn J J'.at_ J'.cls hu hm hn hs hf ?_
  have hl := F.len _ _ _ _ q
  have e0 := I.env0.in1
  refine wpAny_call (codeAny_mono (F.run X.A.in1 X.stack s H ⟨[.ref a, .ref b], []⟩ [.ref a, .ref b] [.ref a, .ref b] _ E0 hr.in1 e0 (by
    have := hb s [.ref a, .ref b] I.kIn (by simpa using hl)
    simpa using this) (.cons rfl (.cons rfl .nil)) q) fun r s' hq => ?_)
  cases r with
  | error e => exact pass0 pins σ H s e s' I hq
  | ok fl =>
    cases fl with
    | ret w =>
      obtain ⟨z, H', I', rz, k, ez, q'⟩ := I.after hq
      subst ez
      cases rz
      exact ⟨k, rfl, .bl (!k), H', I', rfl, q'⟩
    | next => exact False.elim hq
    | brk => exact False.elim hq
    | cont => exact False.elim hq
end
end K70
namespace K70
open PySem PySem.Spec PyProof.Rows L2
/-! ### data: ints, tuples of ints, lists of both -/
theorem lay_ints : ∀ l : List Int, PyData.canLayAll0 (l.map PyData.int) = true
  | [] => rfl
  | i :: r => by
    have ih := lay_ints r
    simp [PyData.canLayAll0, PyData.canLay0, ih]
theorem dep_ints : ∀ l : List Int, PyData.depthAll (l.map PyData.int) = 0
  | [] => rfl
  | i :: r => by
    have ih := dep_ints r
    simp [PyData.depthAll, PyData.depth, ih]
abbrev dT (l : List Int) : PyData := .tuple (l.map PyData.int)
abbrev dL (l : List Int) : PyData := .list (l.map PyData.int)
theorem shT (l : List Int) : SeqAt.shaped (dT l) = true := by
  unfold SeqAt.shaped
  simp [PyData.canLay0, PyData.depth, lay_ints, dep_ints]
theorem shL (l : List Int) : SeqAt.shaped (dL l) = true := by
  unfold SeqAt.shaped
  simp [PyData.canLay0, PyData.depth, lay_ints, dep_ints]
theorem lay_tups : ∀ l : List (List Int), PyData.canLayAll0 (l.map dT) = true
  | [] => rfl
  | i :: r => by
    have ih := lay_tups r
    simp [PyData.canLayAll0, PyData.canLay0, lay_ints, ih]
theorem dep_tups : ∀ l : List (List Int), PyData.depthAll (l.map dT) ≤ 1
  | [] => by simp [PyData.depthAll]
  | i :: r => by
    have ih := dep_tups r
    simp [PyData.depthAll, PyData.depth, dep_ints, ih]
abbrev dLT (l : List (List Int)) : PyData := .list (l.map dT)
theorem shLT (l : List (List Int)) : SeqAt.shaped (dLT l) = true := by
  have := dep_tups l
  unfold SeqAt.shaped
  simp [PyData.canLay0, PyData.depth, lay_tups]
  omega
theorem eqv_same {d : PyData} (h : SeqAt.shaped d = true) : PyData.eqv d d = true := SeqAt.eqv_refl d (SeqAt.canLay_of_shaped h)
section
variable {K : PySem.W.Frag} {H : Hp}
theorem dp_ints : ∀ l : List Int, DpAll K H (l.map V.int) (l.map PyData.int)
  | [] => .nil
  | i :: r => .cons (.int i) (dp_ints r)
theorem dpT {p : Addr} {l : List Int} (h : H p = some (.tup (l.map V.int))) : Dp K H (.ref p) (dT l) := .tup (st_of h) (dp_ints l)
theorem dpL {p : Addr} {l : List Int} (h : H p = some (.lst (l.map V.int))) : Dp K H (.ref p) (dL l) := .lst (sl_of h) (dp_ints l)
theorem dp_tups : ∀ (ts : List Addr) (l : List (List Int)), ts.length = l.length → (∀ (i : Nat) (t : Addr) (x : List Int), ts[i]? = some t → l[i]? = some x → H t = some (.tup (x.map V.int))) → DpAll K H (ts.map V.ref) (l.map dT)
  | [], [], _, _ => .nil
  | t :: ts, x :: l, hl, h => .cons (dpT (h 0 t x rfl rfl)) (dp_tups ts l (by simpa using hl) fun i t' x' e1 e2 => h (i + 1) t' x' (by simpa using e1) (by simpa using e2))
  | [], _ :: _, hl, _ => by simp at hl
  | _ :: _, [], hl, _ => by simp at hl
end
/-! ### Shape.__eq__ -/
section
variable {P : Program} {w : World} {K : PySem.W.Frag} {mg : Str → Option Value} {base : Heap} {C : Addr}
/-- more of what the written part says of Shape -/
structure EqTxt (K : PySem.W.Frag) (C : Addr) : Prop where
  ha : PySem.W.findIn K (.ref C) "__class__" = some (some (.builtin "object.__class__"))
  hn : PySem.W.specialIn K (.builtin "object.__class__") "__get__" = some (some (.builtin "getset_descriptor.__get__"))
  htk : PySem.W.takesIn K (.builtin "object.__class__") = some true
  hm : PySem.W.mroIn K C (.type "object") = some true
  ne : PySem.W.findIn K (.ref C) "__ne__" = some (some (.builtin "object.__ne__"))
def spEqS (C : Addr) : Sp := fun vs H Q _ => ∃ (a b : Addr) (d : Dim), vs = [.ref a, .ref b] ∧ ShapeAt C H a d ∧ ShapeAt C H b d ∧ RetV H (.bl true) Q
theorem scShEq : FnScope ["self", "other"] ["self", "other"] (defScope sShEq) := ⟨rfl, rfl, rfl, by decide +kernel, rfl, by decide +kernel, by decide +kernel⟩
theorem ok_sh_eq (F : AtM K C "__eq__" "Shape.__eq__" sShEq) (T : Txt K mg C) (TE : EqTxt K C) (h1 : HasM P w K mg base CX0 1 C "told" ["self"] (spTold C)) : HasM P w K mg base CX0 2 C "__eq__" ["self", "other"] (spEqS C) := by
  obtain ⟨f, fd, F, m⟩ := F.ex
  obtain ⟨f1, fd1, G_told, M_told, b_told⟩ := h1.ex
  refine ⟨f, fd, F.ok scShEq (fun vs H Q E h => ?_) (fun cdv A outer s H vs Q E hr h => ?_), m, F.binds fun _ _ _ _ _ _ us hl => match us, hl with | [_, _], _ => rfl⟩
  · obtain ⟨a, b, d, rfl, _⟩ := h
    rfl
  · obtain ⟨a, b, d, rfl, ⟨da, ha⟩, ⟨db, hb⟩, q⟩ := h
    refine ⟨_, ((pss_one (ps_ret (pe_and (pe_callB call_isi (by rfl) T.zisinstance (by decide +kernel) (pa_cons (pv 1) (pa_cons (pe_glob (v := .ref C) rfl T.gShape rfl) pa_nil))) (pe_one (pe_cmpR (op_eqD hr.units) (pe_meth0 (pv 0) T.cS M_told G_told (hr.mono (by first | decide | omega)) b_told .nil pass0) (pe_meth0 (pv 1) T.cS M_told G_told (hr.mono (by first | decide | omega)) b_told .nil pass0) (nomark _))))))), ?_⟩
    refine ⟨_, rfl, _, _, .ref C, .ref C, true, rfl, .own C, .base (.ins hb T.cS TE.ha TE.hn TE.htk TE.hm), if_pos (beq_self_eq_true _), true, rfl, iteT ?_⟩
    refine ⟨_, rfl, a, da, _, rfl, ha, (sf_none d).1, a, d, rfl, ⟨da, ha⟩, fun H1 p s1 np hp => ?_⟩
    refine ⟨_, rfl, b, db, _, rfl, s1 _ _ hb, (sf_none d).1, b, d, rfl, ⟨db, s1 _ _ hb⟩, fun H2 p2 s2 np2 hp2 => ?_⟩
    refine ⟨dT [d.D, d.R, d.F, d.B, d.U], dT [d.D, d.R, d.F, d.B, d.U], dpT (s2 _ _ hp), dpT hp2, shT _, shT _, ?_⟩
    rw [eqv_same (shT _)]
    exact q H2 (s1.trans s2)
end
end K70
namespace K70
open PySem PySem.Spec PyProof.Rows L2
/-! ### draw[i] in an augmented store -/
theorem pget_list {X : Cx} : PGet X (fun o i H Q => ∃ p xs k z, o = .ref p ∧ i = .int k ∧ SqL X.K H p xs ∧ 0 ≤ k ∧ xs[k.toNat]? = some z ∧ Q z H) := by
  intro pins s σ H o i ov iv Q I ro ri h
  obtain ⟨p, xs, k, z, rfl, rfl, hq, k0, he, q⟩ := h
  cases ro
  obtain ⟨t, rfl⟩ := ri
  obtain ⟨its, r, pl, hz⟩ := I.list hq
  obtain ⟨w, ew, rw'⟩ := r.get he
  have hl := r.length
  have hn := line63
  have hlt := (List.getElem?_eq_some_iff.mp ew).1
  exact wpAny_getItem_list pl.isList k0 (by omega) (by simpa using ew) ⟨z, H, I, rw', q⟩
theorem sqL_same {K : PySem.W.Frag} {H H' : Hp} {a : Addr} {xs : List V} (s : Same H H') (h : SqL K H a xs) : SqL K H' a xs := SqL.ext h fun c o e => s c o e
theorem sqL_sameB {K : PySem.W.Frag} {H H' : Hp} {a d : Addr} {xs : List V} (s : SameB d H H') (n : a ≠ d) (h : SqL K H a xs) : SqL K H' a xs :=
  h.elim (fun h => .inl (h.elim (fun h => .inl (s _ _ n h)) fun ⟨o, h⟩ => .inr ⟨o, s _ _ n h⟩)) fun h => .inr h
theorem ite_any {c : Bool} {A B : Prop} (a : A) (b : B) : if c = true then A else B := by
  cases c
  · exact b
  · exact a
/-- how far the drawing is -/
def DrI (H : Hp) (dr sc : Addr) : Prop := ∃ k : Int, 0 ≤ k ∧ H dr = some (.lst [.ref sc, .int k])
structure DrawOk (K : PySem.W.Frag) (H : Hp) (dr sc : Addr) : Prop where
  scr : ∃ ns : List Int, ∀ H', SameB dr H H' → SqL K H' sc (ns.map V.int)
  at_ : DrI H dr sc
theorem DrawOk.next {K : PySem.W.Frag} {H H' : Hp} {dr sc : Addr} (d : DrawOk K H dr sc) (s : SameB dr H H') (n : DrI H' dr sc) : DrawOk K H' dr sc := ⟨let ⟨ns, h⟩ := d.scr; ⟨ns, fun H2 s2 => h H2 (s.trans s2)⟩, n⟩
theorem DrawOk.same {K : PySem.W.Frag} {H H' : Hp} {dr sc : Addr} (d : DrawOk K H dr sc) (s : Same H H') : DrawOk K H' dr sc := d.next (SameB.of s) (let ⟨k, k0, e⟩ := d.at_; ⟨k, k0, s _ _ e⟩)
section
variable {P : Program} {w : World} {K : PySem.W.Frag} {mg : Str → Option Value} {base : Heap} {C : Addr}
def spLawNumber (K : PySem.W.Frag) : Sp := fun vs H Q _ => ∃ (sc : Addr) (ns : List Int) (k : Int), vs = [.ref sc, .int k] ∧ SqL K H sc (ns.map V.int) ∧ 0 ≤ k ∧ ∀ r H', Same H H' → Q (.int r) H'
theorem scLawNumber : FnScope ["_law_script", "_law_index", "_law_cell", "_law_blend"] ["_law_script", "_law_index"] (defScope sLawNumber) := ⟨rfl, rfl, rfl, by decide +kernel, rfl, by decide +kernel, by decide +kernel⟩
theorem ok_law_number (F : At K mg "_law_number" sLawNumber) (T : Txt K mg C) : Has P w K mg base CX0 1 "_law_number" ["_law_script", "_law_index"] (spLawNumber K) := by
  obtain ⟨f, fd, F, m⟩ := F.ex
  refine ⟨f, fd, F.ok scLawNumber (fun vs H Q E h => ?_) (fun cdv A outer s H vs Q E hr h => ?_), m, F.kp, F.binds fun _ _ _ _ _ _ us hl => match us, hl with | [_, _], _ => rfl⟩
  · obtain ⟨sc, ns, k, rfl, _⟩ := h
    rfl
  · obtain ⟨sc, ns, k, rfl, hs, k0, q⟩ := h
    refine ⟨_, ((pss_cons (ps_if (pt_cmpR (op_eqD hr.units) (pv 0) (pe_lst pa_nil) (nomark _))
  (pss_one (ps_ret (pe_callTy call_int1 (by rfl) T.zint (by decide +kernel) (pa_cons (pe_op op_mod (pe_op op_add (pe_op op_mul (pv 1) pe_int) pe_int) pe_int) pa_nil))))
  pss_nil)
  (pss_cons (ps_set (i := 2) scLawNumber.nd rfl (Or.inl rfl) (pe_ix ix_list (pv 0) (pe_op op_mod (pv 1) (pe_callB call_len_seq (by rfl) T.zlen (by decide +kernel) (pa_cons (pv 0) pa_nil))) (fun _ _ => rfl)))
  (pss_cons (ps_if (pt_cmpR op_ge (pe_callB call_abs (by rfl) T.zabs (by decide +kernel) (pa_cons (pv 2) pa_nil)) (pe_op op_pow pe_int pe_int) (nomark _))
  (pss_one (ps_set (i := 2) scLawNumber.nd rfl (Or.inl rfl) (pe_op op_mod (pv 2) (pe_op op_pow pe_int pe_int))))
  pss_nil)
  (pss_cons (ps_set (i := 3) scLawNumber.nd rfl (Or.inl rfl) (pe_op op_mod (pe_op op_add (pe_op op_mul (pe_op op_add (pv 2) (pe_op op_mul pe_int (pv 1))) pe_int) (pe_op op_mul pe_int (pe_callB call_len_seq (by rfl) T.zlen (by decide +kernel) (pa_cons (pv 0) pa_nil)))) pe_int))
  (pss_one (ps_ret (pe_callTy call_int1 (by rfl) T.zint (by decide +kernel) (pa_cons (pe_op op_mod (pe_op op_add (pe_op op_mul (pe_op op_mod (pe_op op_mul (pv 3) pe_int) pe_int) pe_int) (pv 1)) pe_int) pa_nil))))))))), ?_⟩
    have cR : ∀ i j : Int, (-(2 ^ 64) < j ∧ j < 2 ^ 64) → CMul i j := fun i j h => .inr h
    have cL : ∀ i j : Int, (-(2 ^ 64) < i ∧ i < 2 ^ 64) → CMul i j := fun i j h => .inl h
    refine ⟨_, rfl, Nat.zero_le _, fun p np => ?_⟩
    have s1 : Same H (upd H p (.lst [])) := same_upd np
    refine ⟨dL ns, dL [], .lst (sqL_same s1 hs) (dp_ints ns), dpL (by rw [upd_same]; rfl), shL _, shL _, ?_⟩
    cases ns with
    | nil =>
      refine ⟨true, rfl, iteT ?_⟩
      refine ⟨_, rfl, _, _, rfl, rfl, cR _ _ ⟨by decide, by decide⟩, _, _, rfl, rfl, _, _, rfl, rfl, (by show (0 : Int) < _; decide), .inl ⟨_, rfl, q _ _ s1⟩⟩
    | cons z r =>
      refine ⟨false, rfl, iteF ?_⟩
      have hs1 := sqL_same s1 hs
      have hL : (0 : Int) < (((z :: r).map V.int).length : Int) := by simp only [List.map_cons, List.length_cons]; omega
      have i0 := Int.emod_nonneg k (Int.ne_of_gt hL)
      have i1 := Int.emod_lt_of_pos k hL
      obtain ⟨c, hc⟩ : ∃ c : Int, ((z :: r).map V.int)[(k % (((z :: r).map V.int).length : Int)).toNat]? = some (.int c) := by
        have hlt : (k % (((z :: r).map V.int).length : Int)).toNat < (z :: r).length := by
          rw [List.length_map] at i0 i1 ⊢
          omega
        exact ⟨(z :: r)[(k % (((z :: r).map V.int).length : Int)).toNat], by rw [List.getElem?_map, List.getElem?_eq_getElem hlt]; rfl⟩
      refine ⟨_, rfl, _, rfl, _, rfl, sc, _, rfl, .inl hs1, _, _, rfl, rfl, hL, sc, _, _, _, rfl, rfl, hs1, list_at i0 hc, ?_⟩
      refine ⟨_, rfl, c, rfl, _, _, rfl, rfl, ⟨by decide, by decide, by decide⟩, _, _, rfl, rfl, ?_⟩
      refine ⟨_, rfl, ite_any ?_ ?_⟩
      · refine ⟨_, rfl, _, _, rfl, rfl, ⟨by decide, by decide, by decide⟩, _, _, rfl, rfl, (by show (0 : Int) < _; decide), ?_⟩
        exact ⟨_, rfl, _, rfl, _, _, rfl, rfl, cL _ _ ⟨by decide, by decide⟩, _, _, rfl, rfl, _, _, rfl, rfl, cR _ _ ⟨by decide, by decide⟩, _, rfl, sc, _, rfl, .inl hs1, _, _, rfl, rfl, cL _ _ ⟨by decide, by decide⟩, _, _, rfl, rfl, _, _, rfl, rfl, (by show (0 : Int) < _; decide), _, rfl, _, _, rfl, rfl, cR _ _ ⟨by decide, by decide⟩, _, _, rfl, rfl, (by show (0 : Int) < _; decide), _, _, rfl, rfl, cR _ _ ⟨by decide, by decide⟩, _, rfl, _, _, rfl, rfl, _, _, rfl, rfl, (by show (0 : Int) < _; decide), .inl ⟨_, rfl, q _ _ s1⟩⟩
      · exact ⟨_, rfl, _, rfl, _, _, rfl, rfl, cL _ _ ⟨by decide, by decide⟩, _, _, rfl, rfl, _, _, rfl, rfl, cR _ _ ⟨by decide, by decide⟩, _, rfl, sc, _, rfl, .inl hs1, _, _, rfl, rfl, cL _ _ ⟨by decide, by decide⟩, _, _, rfl, rfl, _, _, rfl, rfl, (by show (0 : Int) < _; decide), _, rfl, _, _, rfl, rfl, cR _ _ ⟨by decide, by decide⟩, _, _, rfl, rfl, (by show (0 : Int) < _; decide), _, _, rfl, rfl, cR _ _ ⟨by decide, by decide⟩, _, rfl, _, _, rfl, rfl, _, _, rfl, rfl, (by show (0 : Int) < _; decide), .inl ⟨_, rfl, q _ _ s1⟩⟩
def spLawTake (K : PySem.W.Frag) : Sp := fun vs H Q _ => ∃ (dr sc : Addr) (m : Int), vs = [.ref dr, .int m] ∧ DrawOk K H dr sc ∧ 0 < m ∧ ∀ r H', 0 ≤ r → r < m → SameB dr H H' → DrI H' dr sc → Q (.int r) H'
theorem scLawTake : FnScope ["_law_draw", "_law_many"] ["_law_draw", "_law_many"] (defScope sLawTake) := ⟨rfl, rfl, rfl, by decide +kernel, rfl, by decide +kernel, by decide +kernel⟩
theorem ok_law_take (F : At K mg "_law_take" sLawTake) (T : Txt K mg C) (h1 : Has P w K mg base CX0 1 "_law_number" ["_law_script", "_law_index"] (spLawNumber K)) : Has P w K mg base CX0 2 "_law_take" ["_law_draw", "_law_many"] (spLawTake K) := by
  obtain ⟨f, fd, F, m⟩ := F.ex
  obtain ⟨f1, fd1, G_law_number, m_law_number, k_law_number, b_law_number⟩ := h1.ex
  refine ⟨f, fd, F.ok scLawTake (fun vs H Q E h => ?_) (fun cdv A outer s H vs Q E hr h => ?_), m, F.kp, F.binds fun _ _ _ _ _ _ us hl => match us, hl with | [_, _], _ => rfl⟩
  · obtain ⟨dr, sc, n, rfl, _⟩ := h
    rfl
  · obtain ⟨dr, sc, n, rfl, d, n0, q⟩ := h
    refine ⟨_, ((pss_cons (ps_augS (pv 0) pe_int pget_list pe_int ip_add set_list)
  (pss_one (ps_ret (pe_op op_mod (pe_callTy call_int1 (by rfl) T.zint (by decide +kernel) (pa_cons (pe_call G_law_number (hr.mono (by first | decide | omega)) rfl m_law_number k_law_number b_law_number .nil pass0 (pa_cons (pe_ix ix_list (pv 0) pe_int (fun _ _ => rfl)) (pa_cons (pe_callTy call_int1 (by rfl) T.zint (by decide +kernel) (pa_cons (pe_ix ix_list (pv 0) pe_int (fun _ _ => rfl)) pa_nil)) pa_nil))) pa_nil)) (pv 1)))))), ?_⟩
    obtain ⟨ns, hs⟩ := d.scr
    obtain ⟨k, k0, hd⟩ := d.at_
    refine ⟨_, rfl, dr, _, 1, .int k, rfl, rfl, sl_of hd, by decide, rfl, k, 1, rfl, rfl, dr, _, 1, 1, rfl, rfl, hd, rfl, ?_⟩
    have s1 : SameB dr H (upd H dr (.lst [.ref sc, .int (k + 1)])) := SameB.upd
    refine ⟨_, rfl, dr, _, 0, _, rfl, rfl, sl_of upd_same, atI_nat (j := 0) rfl, _, rfl, dr, _, 1, _, rfl, rfl, sl_of upd_same, atI_nat (j := 1) rfl, .inl ⟨_, rfl, sc, ns, k + 1, rfl, hs _ s1, by omega, fun r H' s2 => .inl ⟨_, rfl, _, rfl, _, _, rfl, rfl, n0, ?_⟩⟩⟩
    exact q _ H' (Int.emod_nonneg _ (Int.ne_of_gt n0)) (Int.emod_lt_of_pos _ n0) (s1.trans (SameB.of s2)) ⟨k + 1, by omega, s2 _ _ upd_same⟩
def spLawPick (K : PySem.W.Frag) : Sp := fun vs H Q _ => ∃ (dr sc it : Addr) (xs : List V), vs = [.ref dr, .ref it] ∧ DrawOk K H dr sc ∧ SqL K H it xs ∧ it ≠ dr ∧ xs ≠ [] ∧ ∀ v ∈ xs, ∀ H', SameB dr H H' → DrI H' dr sc → Q v H'
theorem scLawPick : FnScope ["_law_draw", "_law_items"] ["_law_draw", "_law_items"] (defScope sLawPick) := ⟨rfl, rfl, rfl, by decide +kernel, rfl, by decide +kernel, by decide +kernel⟩
theorem ok_law_pick (F : At K mg "_law_pick" sLawPick) (T : Txt K mg C) (h1 : Has P w K mg base CX0 2 "_law_take" ["_law_draw", "_law_many"] (spLawTake K)) : Has P w K mg base CX0 3 "_law_pick" ["_law_draw", "_law_items"] (spLawPick K) := by
  obtain ⟨f, fd, F, m⟩ := F.ex
  obtain ⟨f1, fd1, G_law_take, m_law_take, k_law_take, b_law_take⟩ := h1.ex
  refine ⟨f, fd, F.ok scLawPick (fun vs H Q E h => ?_) (fun cdv A outer s H vs Q E hr h => ?_), m, F.kp, F.binds fun _ _ _ _ _ _ us hl => match us, hl with | [_, _], _ => rfl⟩
  · obtain ⟨dr, sc, it, xs, rfl, _⟩ := h
    rfl
  · obtain ⟨dr, sc, it, xs, rfl, d, hi, hne, hxs, q⟩ := h
    refine ⟨_, ((pss_one (ps_ret (pe_ix ix_list (pv 1) (pe_call G_law_take (hr.mono (by first | decide | omega)) rfl m_law_take k_law_take b_law_take .nil pass0 (pa_cons (pv 0) (pa_cons (pe_callB call_len_seq (by rfl) T.zlen (by decide +kernel) (pa_cons (pv 1) pa_nil)) pa_nil))) (fun _ _ => rfl))))), ?_⟩
    have hl : (0 : Int) < (xs.length : Int) := by
      have := List.length_pos_iff.mpr hxs
      omega
    refine ⟨_, rfl, _, rfl, _, rfl, it, xs, rfl, .inl hi, dr, sc, _, rfl, d, hl, fun r H' r0 r1 s1 d1 => ?_⟩
    have hlt : r.toNat < xs.length := by omega
    exact ⟨it, xs, r, _, rfl, rfl, sqL_sameB s1 hne hi, list_at r0 (List.getElem?_eq_getElem hlt), q _ (List.getElem_mem hlt) H' s1 d1⟩
end
end K70
namespace K70
open PySem PySem.Spec PyProof.Rows L2
theorem ip_ext {X : Cx} : PIp X .Add rExt2 := iop_ext
/-! ### lists of tuples of ints -/
def TupsAt (H : Hp) (q : Addr) (l : List (List Int)) : Prop := ∃ ts : List Addr, H q = some (.lst (ts.map V.ref)) ∧ ts.length = l.length ∧ ∀ (i : Nat) (t : Addr) (x : List Int), ts[i]? = some t → l[i]? = some x → H t = some (.tup (x.map V.int))
theorem TupsAt.same {H H' : Hp} {q : Addr} {l : List (List Int)} (s : Same H H') (x : TupsAt H q l) : TupsAt H' q l := by
  obtain ⟨ts, e, n, a⟩ := x
  exact ⟨ts, s _ _ e, n, fun i t y e1 e2 => s _ _ (a i t y e1 e2)⟩
theorem tups_nil {H : Hp} {q : Addr} : TupsAt (L2.upd H q (.lst [])) q [] := ⟨[], upd_same, rfl, fun i t x e => by simp at e⟩
theorem tup_stay {H : Hp} {D t : Addr} {xs ys zs : List V} (hD : H D = some (.lst xs)) (e : H t = some (.tup zs)) : L2.upd H D (.lst ys) t = some (.tup zs) := by
  rw [upd_ne (ne_of e hD (fun z => nomatch z))]
  exact e
theorem tups_step {Hb H1 H4 : Hp} {D p : Addr} {l : List (List Int)} {x : List Int} (nD : Hb D = none) (s1 : Same Hb H1) (t : TupsAt H1 D l) (s2 : Same H1 H4) (hp : H4 p = some (.tup (x.map V.int))) (hl : l.length < 1000) :
    ∃ acc, H4 D = some (.lst acc) ∧ acc.length < sizeLine ∧ Same Hb (L2.upd H4 D (.lst (acc ++ [.ref p]))) ∧ TupsAt (L2.upd H4 D (.lst (acc ++ [.ref p]))) D (l ++ [x]) := by
  obtain ⟨ts, e, n, a⟩ := t
  have eD := s2 _ _ e
  refine ⟨_, eD, by rw [List.length_map, n, sizeLine_eq]; omega, same_mut (s1.trans s2) nD, ts ++ [p], by rw [upd_same, List.map_append]; rfl, by rw [List.length_append, List.length_append, n]; rfl, fun i t y e1 e2 => ?_⟩
  rcases snoc_get e1 with ⟨c, f⟩ | ⟨c, f⟩
  · rcases snoc_get e2 with ⟨c', f'⟩ | ⟨c', f'⟩
    · exact tup_stay eD (s2 _ _ (a i t y f f'))
    · omega
  · rcases snoc_get e2 with ⟨c', f'⟩ | ⟨c', f'⟩
    · omega
    · rw [← f, ← f']
      exact tup_stay eD hp
theorem tups_cat {H : Hp} {a b : Addr} {l m : List (List Int)} (x : TupsAt H a l) (y : TupsAt H b m) : ∃ xs zs, H a = some (.lst xs) ∧ H b = some (.lst zs) ∧ xs.length = l.length ∧ zs.length = m.length ∧
    ∀ (H' : Hp) (r : Addr), (∀ t ys, H t = some (.tup ys) → H' t = some (.tup ys)) → H' r = some (.lst (xs ++ zs)) → TupsAt H' r (l ++ m) := by
  obtain ⟨ts, e, n, p⟩ := x
  obtain ⟨us, e', n', p'⟩ := y
  refine ⟨_, _, e, e', by rw [List.length_map, n], by rw [List.length_map, n'], fun H' r k h => ⟨ts ++ us, by rw [h, List.map_append], by rw [List.length_append, List.length_append, n, n'], fun i t y e1 e2 => ?_⟩⟩
  rcases Nat.lt_or_ge i ts.length with c | c
  · rw [List.getElem?_append_left c] at e1
    rw [List.getElem?_append_left (by omega)] at e2
    exact k _ _ (p i t y e1 e2)
  · rw [List.getElem?_append_right c] at e1
    rw [List.getElem?_append_right (by omega), ← n] at e2
    exact k _ _ (p' _ t y e1 e2)
theorem rmap_more (g : Nat → List Int) (i : Nat) : (List.range (i + 1)).map g = (List.range i).map g ++ [g i] := by
  rw [List.range_succ, List.map_append]
  rfl
def cD (d : Dim) : List (List Int) := (List.range d.D.toNat).map fun n : Nat => [1 + (n : Int) / 8, (n : Int) % 8]
def cR (d : Dim) : List (List Int) := (List.range d.R.toNat).map fun n : Nat => [d.fr + (n : Int) / 8, (n : Int) % 8]
def cU (d : Dim) : List (List Int) := (List.range d.U.toNat).map fun n : Nat => [d.fu + (n : Int) / 8, (n : Int) % 8]
def cF (d : Dim) : List (List Int) := (List.range d.F.toNat).map fun n : Nat => [d.ff + (n : Int), 0]
def cB (d : Dim) : List (List Int) := (List.range d.B.toNat).map fun n : Nat => [d.fb + (n : Int), 0]
def cellsL (d : Dim) : List (List Int) := (([[0, 0]] ++ (cD d ++ cR d ++ cU d)) ++ cF d) ++ cB d
theorem c_len (d : Dim) : (cD d).length = d.D.toNat ∧ (cR d).length = d.R.toNat ∧ (cU d).length = d.U.toNat ∧ (cF d).length = d.F.toNat ∧ (cB d).length = d.B.toNat := by
  unfold cD cR cU cF cB
  simp
section
variable {P : Program} {w : World} {K : PySem.W.Frag} {mg : Str → Option Value} {base : Heap} {C : Addr}
def spLawCells (C : Addr) : Sp := fun vs H Q _ => ∃ (sh : Addr) (d : Dim), vs = [.ref sh] ∧ ShapeAt C H sh d ∧ d.ok ∧ ∀ H' q, Same H H' → TupsAt H' q (cellsL d) → Q (.ref q) H'
theorem scLawCells : FnScope ["_law_shape", "_law_places", "_law_one"] ["_law_shape"] (defScope sLawCellsOf) := ⟨rfl, rfl, rfl, by decide +kernel, rfl, by decide +kernel, by decide +kernel⟩
theorem ok_law_cells (F : At K mg "_law_cells_of" sLawCellsOf) (T : Txt K mg C) (h1 : HasM P w K mg base CX0 1 C "clock_cell" ["self"] (spClock C)) (h2 : HasM P w K mg base CX0 1 C "dir_cell" ["self", "number"] (spDirCell C)) (h3 : HasM P w K mg base CX0 1 C "row_cell" ["self", "number"] (spRowCell C))
    (h4 : HasM P w K mg base CX0 1 C "user_cell" ["self", "user"] (spUserCell C)) (h5 : HasM P w K mg base CX0 1 C "file_plate" ["self", "file"] (spFilePlate C)) (h6 : HasM P w K mg base CX0 1 C "block_plate" ["self", "block"] (spBlockPlate C)) : Has P w K mg base CX0 2 "_law_cells_of" ["_law_shape"] (spLawCells C) := by
  obtain ⟨f, fd, F, m⟩ := F.ex
  obtain ⟨f1, fd1, G_clock_cell, M_clock_cell, b_clock_cell⟩ := h1.ex
  obtain ⟨f2, fd2, G_dir_cell, M_dir_cell, b_dir_cell⟩ := h2.ex
  obtain ⟨f3, fd3, G_row_cell, M_row_cell, b_row_cell⟩ := h3.ex
  obtain ⟨f4, fd4, G_user_cell, M_user_cell, b_user_cell⟩ := h4.ex
  obtain ⟨f5, fd5, G_file_plate, M_file_plate, b_file_plate⟩ := h5.ex
  obtain ⟨f6, fd6, G_block_plate, M_block_plate, b_block_plate⟩ := h6.ex
  refine ⟨f, fd, F.ok scLawCells (fun vs H Q E h => ?_) (fun cdv A outer s H vs Q E hr h => ?_), m, F.kp, F.binds fun _ _ _ _ _ _ us hl => match us, hl with | [_], _ => rfl⟩
  · obtain ⟨sh, d, rfl, _⟩ := h
    rfl
  · obtain ⟨sh, d, rfl, ⟨dx, hs⟩, od, q⟩ := h
    refine ⟨_, ((pss_cons (ps_set (i := 1) scLawCells.nd rfl (Or.inl rfl) (pe_op op_cat (pe_lc (own := [("_law_one", 2)]) (g := gName 2) (tt := tYes) rfl scLawCells.nd (pi_range1 rfl T.zrange (pa_cons (pe_fld (pv 0) rfl) pa_nil)) (blkOk_by (own := [("_law_one", 2)]) (N := ["_law_shape", "_law_places", "_law_one"]) (sc := defScope sLawCellsOf) (by decide +kernel)) (fun _ _ _ _ _ => (pg_name (i := 2) scLawCells.nd rfl (Or.inl rfl))) (fun _ _ _ _ _ => pts_nil) (fun _ _ _ _ _ => (pe_meth (pv 0) T.cS M_dir_cell G_dir_cell (hr.mono (by first | decide | omega)) b_dir_cell .nil pass0 (pa_cons (pv 2) pa_nil)))) (pe_lc (own := [("_law_one", 2)]) (g := gName 2) (tt := tYes) rfl scLawCells.nd (pi_range1 rfl T.zrange (pa_cons (pe_fld (pv 0) rfl) pa_nil)) (blkOk_by (own := [("_law_one", 2)]) (N := ["_law_shape", "_law_places", "_law_one"]) (sc := defScope sLawCellsOf) (by decide +kernel)) (fun _ _ _ _ _ => (pg_name (i := 2) scLawCells.nd rfl (Or.inl rfl))) (fun _ _ _ _ _ => pts_nil) (fun _ _ _ _ _ => (pe_meth (pv 0) T.cS M_row_cell G_row_cell (hr.mono (by first | decide | omega)) b_row_cell .nil pass0 (pa_cons (pv 2) pa_nil))))))
  (pss_cons (ps_aug (i := 1) scLawCells.nd rfl (Or.inl rfl) (pe_lc (own := [("_law_one", 2)]) (g := gName 2) (tt := tYes) rfl scLawCells.nd (pi_range1 rfl T.zrange (pa_cons (pe_fld (pv 0) rfl) pa_nil)) (blkOk_by (own := [("_law_one", 2)]) (N := ["_law_shape", "_law_places", "_law_one"]) (sc := defScope sLawCellsOf) (by decide +kernel)) (fun _ _ _ _ _ => (pg_name (i := 2) scLawCells.nd rfl (Or.inl rfl))) (fun _ _ _ _ _ => pts_nil) (fun _ _ _ _ _ => (pe_meth (pv 0) T.cS M_user_cell G_user_cell (hr.mono (by first | decide | omega)) b_user_cell .nil pass0 (pa_cons (pv 2) pa_nil)))) ip_ext)
  (pss_one (ps_ret (pe_op op_cat (pe_op op_cat (pe_op op_cat (pe_lst (pa_cons (pe_meth0 (pv 0) T.cS M_clock_cell G_clock_cell (hr.mono (by first | decide | omega)) b_clock_cell .nil pass0) pa_nil)) (pv 1)) (pe_lc (own := [("_law_one", 2)]) (g := gName 2) (tt := tYes) rfl scLawCells.nd (pi_range1 rfl T.zrange (pa_cons (pe_fld (pv 0) rfl) pa_nil)) (blkOk_by (own := [("_law_one", 2)]) (N := ["_law_shape", "_law_places", "_law_one"]) (sc := defScope sLawCellsOf) (by decide +kernel)) (fun _ _ _ _ _ => (pg_name (i := 2) scLawCells.nd rfl (Or.inl rfl))) (fun _ _ _ _ _ => pts_nil) (fun _ _ _ _ _ => (pe_tup (pa_cons (pe_meth (pv 0) T.cS M_file_plate G_file_plate (hr.mono (by first | decide | omega)) b_file_plate .nil pass0 (pa_cons (pv 2) pa_nil)) (pa_cons pe_int pa_nil)))))) (pe_lc (own := [("_law_one", 2)]) (g := gName 2) (tt := tYes) rfl scLawCells.nd (pi_range1 rfl T.zrange (pa_cons (pe_fld (pv 0) rfl) pa_nil)) (blkOk_by (own := [("_law_one", 2)]) (N := ["_law_shape", "_law_places", "_law_one"]) (sc := defScope sLawCellsOf) (by decide +kernel)) (fun _ _ _ _ _ => (pg_name (i := 2) scLawCells.nd rfl (Or.inl rfl))) (fun _ _ _ _ _ => pts_nil) (fun _ _ _ _ _ => (pe_tup (pa_cons (pe_meth (pv 0) T.cS M_block_plate G_block_plate (hr.mono (by first | decide | omega)) b_block_plate .nil pass0 (pa_cons (pv 2) pa_nil)) (pa_cons pe_int pa_nil))))))))))), ?_⟩
    obtain ⟨l1, l2, l3, l4, l5⟩ := c_len d
    obtain ⟨⟨a1, a2⟩, ⟨b1, b2⟩, ⟨c1, c2⟩, ⟨e1, e2⟩, ⟨f1, f2⟩⟩ := od
    refine ⟨_, rfl, sh, C, dx, _, _, rfl, Same.refl H _ _ hs, T.cS, T.na, sf_dirs d, _, rfl, (by omega), (by omega), fun D1 nD1 => ?_⟩
    refine lc_range (lo := 0) (n := d.D.toNat) (fun i H' => Same H H' ∧ TupsAt H' D1 ((List.range i).map fun n : Nat => [1 + (n : Int) / 8, (n : Int) % 8])) ⟨same_upd nD1, tups_nil⟩ ?_ ?_
    · rintro i Hi hi ⟨t1, tp⟩
      have ei : (0 : Int) + (i : Nat) = (i : Int) := Int.zero_add _
      rw [ei]
      have hs1 := t1 _ _ (Same.refl H _ _ hs)
      refine ⟨rfl, _, rfl, sh, dx, _, rfl, hs1, (sf_none d).2.2.1, _, rfl, sh, i, rfl, fun H3 p s3 np hp => ?_⟩
      have st := tups_step (x := _) nD1 t1 tp s3 hp (by rw [List.length_map, List.length_range]; omega)
      rw [← rmap_more] at st
      exact st
    rintro H1 ⟨s1, tD⟩
    refine ⟨_, rfl, sh, C, dx, _, _, rfl, s1 _ _ hs, T.cS, T.na, sf_rows d, _, rfl, (by omega), (by omega), fun D2 nD2 => ?_⟩
    refine lc_range (lo := 0) (n := d.R.toNat) (fun i H' => Same H1 H' ∧ TupsAt H' D2 ((List.range i).map fun n : Nat => [d.fr + (n : Int) / 8, (n : Int) % 8])) ⟨same_upd nD2, tups_nil⟩ ?_ ?_
    · rintro i Hi hi ⟨t1, tp⟩
      have ei : (0 : Int) + (i : Nat) = (i : Int) := Int.zero_add _
      rw [ei]
      have hs1 := t1 _ _ (s1 _ _ hs)
      refine ⟨rfl, _, rfl, sh, dx, _, rfl, hs1, (sf_none d).2.2.2.1, _, rfl, sh, d, i, rfl, ⟨dx, hs1⟩, fun H3 p s3 np hp => ?_⟩
      have st := tups_step (x := _) nD2 t1 tp s3 hp (by rw [List.length_map, List.length_range]; omega)
      rw [← rmap_more] at st
      exact st
    rintro H2 ⟨s2, tR⟩
    have s02 := s1.trans s2
    obtain ⟨xs, zs, hxs, hzs, lx, lz, cat⟩ := tups_cat (tD.same s2) tR
    refine ⟨D1, D2, xs, zs, rfl, rfl, hxs, hzs, (by rw [lx, lz, List.length_map, List.length_range, List.length_map, List.length_range, sizeLine_eq]; omega), fun pl npl => ?_⟩
    have s3 : Same H2 (upd H2 pl (.lst (xs ++ zs))) := same_upd npl
    have tDR : TupsAt (upd H2 pl (.lst (xs ++ zs))) pl (cD d ++ cR d) := cat _ _ (fun t ys e => s3 _ _ e) upd_same
    have s03 := s02.trans s3
    have npl0 : H pl = none := s02.free npl
    generalize upd H2 pl (.lst (xs ++ zs)) = H3 at s3 tDR s03
    refine ⟨_, rfl, _, rfl, sh, C, dx, _, _, rfl, s03 _ _ hs, T.cS, T.na, sf_users d, _, rfl, (by omega), (by omega), fun D3 nD3 => ?_⟩
    refine lc_range (lo := 0) (n := d.U.toNat) (fun i H' => Same H3 H' ∧ TupsAt H' D3 ((List.range i).map fun n : Nat => [d.fu + (n : Int) / 8, (n : Int) % 8])) ⟨same_upd nD3, tups_nil⟩ ?_ ?_
    · rintro i Hi hi ⟨t1, tp⟩
      have ei : (0 : Int) + (i : Nat) = (i : Int) := Int.zero_add _
      rw [ei]
      have hs1 := t1 _ _ (s03 _ _ hs)
      refine ⟨rfl, _, rfl, sh, dx, _, rfl, hs1, (sf_none d).2.2.2.2.1, _, rfl, sh, d, i, rfl, ⟨dx, hs1⟩, fun H3 p s3 np hp => ?_⟩
      have st := tups_step (x := _) nD3 t1 tp s3 hp (by rw [List.length_map, List.length_range]; omega)
      rw [← rmap_more] at st
      exact st
    rintro H4 ⟨s4, tU⟩
    have s04 := s03.trans s4
    obtain ⟨xs, zs, hxs, hzs, lx, lz, cat⟩ := tups_cat (tDR.same s4) tU
    have lDR : (cD d ++ cR d).length = d.D.toNat + d.R.toNat := by rw [List.length_append, l1, l2]
    refine ⟨pl, D3, xs, zs, rfl, rfl, hxs, hzs, (by rw [lx, lz, lDR, List.length_map, List.length_range, sizeLine_eq]; omega), ?_⟩
    have s05 : Same H (upd H4 pl (.lst (xs ++ zs))) := same_mut s04 npl0
    have tP : TupsAt (upd H4 pl (.lst (xs ++ zs))) pl (cD d ++ cR d ++ cU d) := cat _ _ (fun t ys e => tup_stay hxs e) upd_same
    have lP : (cD d ++ cR d ++ cU d).length = d.D.toNat + d.R.toNat + d.U.toNat := by rw [List.length_append, lDR, l3]
    generalize upd H4 pl (.lst (xs ++ zs)) = H5 at s05 tP
    refine ⟨_, rfl, sh, dx, _, rfl, s05 _ _ hs, (sf_none d).2.1, sh, rfl, fun H6 p6 s6 np6 hp6 => ⟨(by show 1 ≤ sizeLine; decide), fun l0 nl0 => ?_⟩⟩
    have s7 : Same H6 (upd H6 l0 (.lst [.ref p6])) := same_upd nl0
    have t0 : TupsAt (upd H6 l0 (.lst [.ref p6])) l0 [[0, 0]] := ⟨[p6], upd_same, rfl, fun i t x e e' => by
      match i, e, e' with
      | 0, e, e' => cases e; cases e'; exact s7 _ _ hp6
      | n + 1, e, _ => simp at e⟩
    have s07 := (s05.trans s6).trans s7
    obtain ⟨xs1, zs1, hxs1, hzs1, lx1, lz1, cat1⟩ := tups_cat t0 ((tP.same s6).same s7)
    refine ⟨_, rfl, l0, pl, xs1, zs1, rfl, rfl, hxs1, hzs1, (by rw [lx1, lz1, lP, sizeLine_eq]; simp only [List.length_cons, List.length_nil]; omega), fun q1 nq1 => ?_⟩
    have s8 := same_upd (o := .lst (xs1 ++ zs1)) nq1
    have tQ := cat1 _ q1 (fun t ys e => s8 _ _ e) upd_same
    have lQ : ([[0, 0]] ++ (cD d ++ cR d ++ cU d)).length = 1 + (d.D.toNat + d.R.toNat + d.U.toNat) := by rw [List.length_append, lP]; rfl
    have s08 := s07.trans s8
    generalize upd (upd H6 l0 (.lst [.ref p6])) q1 (.lst (xs1 ++ zs1)) = H7 at s8 tQ s08
    refine ⟨_, rfl, sh, C, dx, _, _, rfl, s08 _ _ hs, T.cS, T.na, sf_files d, _, rfl, (by omega), (by omega), fun D4 nD4 => ?_⟩
    refine lc_range (lo := 0) (n := d.F.toNat) (fun i H' => Same H7 H' ∧ TupsAt H' D4 ((List.range i).map fun n : Nat => [d.ff + (n : Int), 0])) ⟨same_upd nD4, tups_nil⟩ ?_ ?_
    · rintro i Hi hi ⟨t1, tp⟩
      have ei : (0 : Int) + (i : Nat) = (i : Int) := Int.zero_add _
      rw [ei]
      have hs1 := t1 _ _ (s08 _ _ hs)
      refine ⟨rfl, _, rfl, sh, dx, _, rfl, hs1, (sf_none d).2.2.2.2.2.1, _, rfl, sh, d, i, rfl, ⟨dx, hs1⟩, (by show 2 ≤ sizeLine; decide), fun p np => ?_⟩
      have st := tups_step (x := [d.ff + (i : Int), 0]) nD4 t1 tp (same_upd np) upd_same (by rw [List.length_map, List.length_range]; omega)
      rw [← rmap_more] at st
      exact st
    rintro H8 ⟨s9, tF⟩
    have s09 := s08.trans s9
    obtain ⟨xs2, zs2, hxs2, hzs2, lx2, lz2, cat2⟩ := tups_cat (tQ.same s9) tF
    refine ⟨q1, D4, xs2, zs2, rfl, rfl, hxs2, hzs2, (by rw [lx2, lz2, lQ, List.length_map, List.length_range, sizeLine_eq]; omega), fun q2 nq2 => ?_⟩
    have s10 := same_upd (o := .lst (xs2 ++ zs2)) nq2
    have tW := cat2 _ q2 (fun t ys e => s10 _ _ e) upd_same
    have s010 := s09.trans s10
    have lW : ([[0, 0]] ++ (cD d ++ cR d ++ cU d) ++ cF d).length = 1 + (d.D.toNat + d.R.toNat + d.U.toNat) + d.F.toNat := by rw [List.length_append, lQ, l4]
    generalize upd H8 q2 (.lst (xs2 ++ zs2)) = H9 at s10 tW s010
    refine ⟨_, rfl, sh, C, dx, _, _, rfl, s010 _ _ hs, T.cS, T.na, sf_blocks d, _, rfl, (by omega), (by omega), fun D5 nD5 => ?_⟩
    refine lc_range (lo := 0) (n := d.B.toNat) (fun i H' => Same H9 H' ∧ TupsAt H' D5 ((List.range i).map fun n : Nat => [d.fb + (n : Int), 0])) ⟨same_upd nD5, tups_nil⟩ ?_ ?_
    · rintro i Hi hi ⟨t1, tp⟩
      have ei : (0 : Int) + (i : Nat) = (i : Int) := Int.zero_add _
      rw [ei]
      have hs1 := t1 _ _ (s010 _ _ hs)
      refine ⟨rfl, _, rfl, sh, dx, _, rfl, hs1, (sf_none d).2.2.2.2.2.2, _, rfl, sh, d, i, rfl, ⟨dx, hs1⟩, (by show 2 ≤ sizeLine; decide), fun p np => ?_⟩
      have st := tups_step (x := [d.fb + (i : Int), 0]) nD5 t1 tp (same_upd np) upd_same (by rw [List.length_map, List.length_range]; omega)
      rw [← rmap_more] at st
      exact st
    rintro H10 ⟨s11, tB⟩
    obtain ⟨xs3, zs3, hxs3, hzs3, lx3, lz3, cat3⟩ := tups_cat (tW.same s11) tB
    refine ⟨q2, D5, xs3, zs3, rfl, rfl, hxs3, hzs3, (by rw [lx3, lz3, List.length_map, List.length_range]; have z := lW; unfold cF at z; rw [z, sizeLine_eq]; omega), fun q3 nq3 => ?_⟩
    have s12 := same_upd (o := .lst (xs3 ++ zs3)) nq3
    exact q _ q3 ((s010.trans s11).trans s12) (cat3 _ q3 (fun t ys e => s12 _ _ e) upd_same)
end
end K70
namespace K70
open PySem PySem.Spec PyProof.Rows L2
/-! ### sorted(d), the keys of d tuples of ints: as many as there are keys -/
theorem reads_nil {h : Heap} : ∀ (l : List Int) (vs : List Value) (as : List Addr), ReadsAll h vs (l.map PyData.int) as → as = []
  | [], _, _, r => by cases r; rfl
  | i :: l, _, _, r => by
    cases r with
    | cons h1 h2 =>
      cases h1
      rw [reads_nil l _ _ h2]
      rfl
theorem reads_dT {h : Heap} {l : List Int} {v : Value} {as : List Addr} (r : Reads h v (dT l) as) : as = [] := by
  cases r with
  | tuple h1 h2 h3 h4 => exact reads_nil l _ _ h4
theorem each_of {α β : Type} {R : α → β → Prop} : ∀ (as : List α) (bs : List β), as.length = bs.length → (∀ (i : Nat) (a : α) (b : β), as[i]? = some a → bs[i]? = some b → R a b) → PySem.W.EachIs R as bs
  | [], [], _, _ => .nil
  | a :: as, b :: bs, hl, h => .cons (h 0 a b rfl rfl) (each_of as bs (by simpa using hl) fun i x y e1 e2 => h (i + 1) x y (by simpa using e1) (by simpa using e2))
  | [], _ :: _, hl, _ => by simp at hl
  | _ :: _, [], hl, _ => by simp at hl
theorem each_all {α β : Type} {R : α → β → Prop} : ∀ {as : List α} {bs : List β}, PySem.W.EachIs R as bs → ∀ a ∈ as, ∃ b, R a b
  | _, _, .nil, a, h => by cases h
  | _, _, .cons h t, a, m => by
    rcases List.mem_cons.mp m with e | m
    · rw [e]; exact ⟨_, h⟩
    · exact each_all t a m
abbrev kT (n : List Int) : List L2.Key × V := (n.map Sum.inl, .bl true)
theorem kT_val (n : List Int) : (n.map (Sum.inl : Int → L2.Key)).map kV = n.map V.int := by
  rw [List.map_map]
  rfl
def rSortDT : List V → Hp → VK → Prop := fun vs H Q => ∃ (a : Addr) (ns : List (List Int)), vs = [.ref a] ∧ H a = some (.dT (ns.map kT)) ∧ ns.length ≤ 10000 ∧ (∀ n ∈ ns, n ≠ []) ∧ ∀ (H' : Hp) (r : Addr) (ys : List V), Same H H' → ys.length = ns.length → H' r = some (.lst ys) → Q (.ref r) H'
theorem cr_sortedDT {X : Cx} (hc : X.calm = true) (hu : X.A.units + 64 < cLine) : CallR X (.builtin "sorted") rSortDT := by
  intro pins s σ H xs us Q I r h
  obtain ⟨a, ns, rfl, ha, hn, hne, q⟩ := h
  obtain rfl := Vals.ref1 r
  obtain ⟨z, hd, xs', rel, o, es, ep, ho, hx, hdat, hes, his, hnd⟩ := dt_of I.hok ha
  have l1 : (ns.map kT).length = xs'.length := Paired.length rel
  rw [List.length_map] at l1
  have l2 : es.size = xs'.length := size_of_entries hes
  refine Calls.call_function_entry PyProof.Rows.kind_sorted PyProof.Rows.plain_sorted PyProof.Rows.entry_sorted (PyProof.Rows.args_sorted1 _) ?_
  unfold Builtin.«sorted»
  refine wpAny_bind (m := checkCount "sorted" 1 1 _) (wpAny_pure (wpAny_bind ?_))
  refine PySem.W.kdu_collect (A := X.A.in1) (PySem.KdlSrc.rawDict (es := es) (ep := ep) hd) (I.ok.hd hc) ⟨o, ho, hx, hdat⟩ (by rw [l2, ← l1, sizeLine_eq]; omega) fun h' tk acc hk hacc => ?_
  have hal : acc.toList.length = ns.length := by rw [Array.length_toList, hacc.1, l2, ← l1]
  have I1 : Inv X pins σ H { s with heap := h', toks := tk } := I.kept hk
  have keyAt : ∀ (i : Nat) (v : Value) (n : List Int), acc.toList[i]? = some v → ns[i]? = some n → ∃ b, v = .ref b ∧ H b = some (.tup (n.map V.int)) := by
    intro i v n e1 e2
    obtain ⟨hi, ev⟩ := hacc.2 i v (by rw [← Array.getElem?_toList]; exact e1)
    have e3 : es[i]? = some es[i] := Array.getElem?_eq_getElem hi
    rw [entry_at hes i] at e3
    cases hxj : xs'[i]? with
    | none => rw [hxj] at e3; exact nomatch (show (none : Option DictEntry) = some es[i] from e3)
    | some x =>
      rw [hxj] at e3
      have een : entryOfKey (tupleKind (mixKind X.prog X.w)) x = es[i] := Option.some.inj e3
      obtain ⟨e0, he0, r1, r2, r3⟩ := L2.DX.pget rel hxj
      rw [List.getElem?_map, e2] at he0
      have ee : kT n = e0 := Option.some.inj he0
      rw [← ee] at r2
      refine ⟨x.2.1, ?_, ?_⟩
      · rw [ev, ← een]
        all_goals rfl
      · rw [r2]
        show some (HO.tup ((n.map (Sum.inl : Int → L2.Key)).map kV)) = _
        rw [kT_val]
  refine wpAny_bind (wpAny_newList ?_ (by rw [hal, sizeLine_eq]; omega))
  have hoL : (h'.push (seqObj "list" acc.toList.toArray 0)).get? h'.objs.size = some (seqObj "list" acc.toList.toArray 0) := Heap.get?_push_size _ rfl
  have I2 : Inv X pins σ H { s with heap := h'.push (seqObj "list" acc.toList.toArray 0), toks := tk } := I.kept (t' := tk) fun b u e => Heap.get?_push_of_some _ (hk b u e)
  show wpAny _ _ _ _ _ { s with heap := h'.push (seqObj "list" acc.toList.toArray 0), toks := tk }
  refine wpAny_bind (wpAny_holding (PySem.W.list_sort_data (s := { s with heap := h'.push (seqObj "list" acc.toList.toArray 0), toks := tk }) (R := fun v (n : List Int) => ∃ b, v = .ref b ∧ H b = some (.tup (n.map V.int))) (enc := dT) (bs := ns) hoL
    (each_of _ _ hal keyAt) (each_of _ _ hal fun i v n e1 e2 => ?_) (PySem.W.AllAlike.of fun b b' => by simp [PySem.W.alike, PySem.W.alike_ints]) (.inl fun d hd => ?_) (by rw [sizeLine_eq]; omega) (fun b _ => ?_) fun out o1 o2 => ?_))
  · obtain ⟨b, rfl, e⟩ := keyAt i v n e1 e2
    obtain ⟨as, rd⟩ := Dp.reads I2 (dT n) (.ref b) (.ref b) (dpT e) rfl
    exact ⟨as, rd, by rw [reads_dT rd]; exact List.not_mem_nil⟩
  · obtain ⟨n, hn1, rfl⟩ := List.mem_map.mp hd
    cases n with
    | nil => exact absurd rfl (hne _ hn1)
    | cons i l => exact ⟨_, _, rfl⟩
  · have e : (dT b).depth = 1 := by simp [PyData.depth, dep_ints]
    rw [e]
    show X.A.units + 1 + 1 + 1 < cLine
    omega
  · obtain ⟨e', he'⟩ := PyProof.Rows.sortedHeap_at (vs := acc.toList) (out := out.toArray) hoL
    have hrefs : ∀ u ∈ out, ∃ a, u = Value.ref a := fun u hu => by
      obtain ⟨_, b, e, _⟩ := each_all o2 u hu
      exact ⟨b, e⟩
    have hlen : (out.map backV).length = ns.length := by rw [List.length_map, o1]
    have hf : H h'.objs.size = none := I1.hok.fresh (Nat.le_refl _)
    refine wpAny_pure ⟨_, rfl, .ref h'.objs.size, upd H h'.objs.size (.lst (out.map backV)), I1.laid (t' := tk) (fun b u e => ?_) (Nat.le_refl _)
      (show ObjOk X.prog X.w _ _ _ (.lst (out.map backV)) from ⟨by rw [hlen, sizeLine_eq]; omega, out, e', vals_back hrefs, by simpa using he'⟩), rfl, q _ _ _ (same_upd hf) hlen upd_same⟩
    have hb : b < h'.objs.size := Heap.lt_size e
    rw [PyProof.Rows.sortedHeap_old (Nat.ne_of_lt hb) (by rw [size_push']; exact Nat.lt_succ_of_lt hb)]
    exact Heap.get?_push_of_some _ e
/-! ### _law_unlike -/
theorem inl_inj {n m : List Int} (h : n.map (Sum.inl : Int → L2.Key) = m.map Sum.inl) : n = m := by
  induction n generalizing m with
  | nil => cases m with
    | nil => rfl
    | cons _ _ => cases h
  | cons i n ih => cases m with
    | nil => cases h
    | cons j m =>
      rw [List.map_cons, List.map_cons] at h
      obtain ⟨h1, h2⟩ := List.cons.inj h
      rw [Sum.inl.inj h1, ih h2]
theorem kT_put {l : List (List Int)} {n : List Int} (h : n ∉ l) : putK (l.map kT) (n.map Sum.inl) (.bl true) = (l ++ [n]).map kT := by
  have e : ((l.map kT).any fun kv => decide (kv.1 = n.map Sum.inl)) = false := by
    rw [List.any_map, List.any_eq_false]
    intro x hx
    have : x ≠ n := fun z => h (z ▸ hx)
    have q : ¬ x.map (Sum.inl : Int → L2.Key) = n.map Sum.inl := fun z => this (inl_inj z)
    simpa using q
  unfold putK
  rw [e, if_neg (by decide), List.map_append]
  rfl
section
variable {P : Program} {w : World} {K : PySem.W.Frag} {mg : Str → Option Value} {base : Heap} {C : Addr}
def spLawUnlike : Sp := fun vs H Q _ => ∃ (it : Addr) (l : List (List Int)), vs = [.ref it] ∧ TupsAt H it l ∧ l.Nodup ∧ (∀ n ∈ l, n ≠ []) ∧ l.length ≤ 1000 ∧ ∀ (H' : Hp) (r : Addr) (ys : List V), Same H H' → ys.length = l.length → H' r = some (.lst ys) → Q (.ref r) H'
theorem scLawUnlike : FnScope ["_law_items", "_law_found", "_law_one"] ["_law_items"] (defScope sLawUnlike) := ⟨rfl, rfl, rfl, by decide +kernel, rfl, by decide +kernel, by decide +kernel⟩
theorem ok_law_unlike (F : At K mg "_law_unlike" sLawUnlike) (T : Txt K mg C) : Has P w K mg base CX0 1 "_law_unlike" ["_law_items"] spLawUnlike := by
  obtain ⟨f, fd, F, m⟩ := F.ex
  refine ⟨f, fd, F.ok scLawUnlike (fun vs H Q E h => ?_) (fun cdv A outer s H vs Q E hr h => ?_), m, F.kp, F.binds fun _ _ _ _ _ _ us hl => match us, hl with | [_], _ => rfl⟩
  · obtain ⟨it, l, rfl, _⟩ := h
    rfl
  · obtain ⟨it, l, rfl, ⟨ts, hi, lt, hts⟩, nd, hne, hlen, q⟩ := h
    refine ⟨_, ((pss_cons (ps_set (i := 1) scLawUnlike.nd rfl (Or.inl rfl) pe_dnewT)
  (pss_cons (ps_for PassesOwn.never rfl (pi_list (pv 0)) (pg_name (i := 2) scLawUnlike.nd rfl (Or.inl rfl))
  (pss_one (ps_dput (hu_of hr) (pv 1) (pv 2) pe_bl rfl)))
  (pss_one (ps_ret (pe_callB (cr_sortedDT rfl hr.units) (by rfl) T.zsorted (by decide +kernel) (pa_cons (pv 1) pa_nil))))))), ?_⟩
    refine fun D nD => ?_
    have s1 : Same H (upd H D (.dT [])) := same_upd nD
    refine ⟨_, rfl, it, rfl, ⟨_, sl_of (s1 _ _ hi)⟩, for_list (K := K) (a := it) (xs := ts.map V.ref) (fun i σ H' => ∃ x : Option V, σ = [some (.ref it), some (.ref D), x] ∧ Same H H' ∧ H' D = some (.dT ((l.take i).map kT))) ⟨none, rfl, s1, upd_same⟩ (fun i σ H' _ ⟨_, _, s2, _⟩ => sl_of (s2 _ _ hi)) ?_ ?_⟩
    · rintro i y σ H' hi' ⟨x, rfl, s2, hD⟩
      obtain ⟨t, ht, rfl⟩ : ∃ t, ts[i]? = some t ∧ y = V.ref t := by
        rw [List.getElem?_map] at hi'
        cases q1 : ts[i]? with
        | none => rw [q1] at hi'; cases hi'
        | some t => rw [q1] at hi'; exact ⟨t, rfl, (Option.some.inj hi').symm⟩
      have hlt : i < l.length := by
        have := (List.getElem?_eq_some_iff.mp ht).1
        omega
      have hn : l[i]? = some l[i] := List.getElem?_eq_getElem hlt
      have et : l.take (i + 1) = l.take i ++ [l[i]] := by
        rw [List.take_succ, hn]
        rfl
      have hnot : l[i] ∉ l.take i := fun hm => by
        obtain ⟨j, hj⟩ := List.mem_iff_getElem?.mp hm
        rw [List.getElem?_take] at hj
        by_cases hji : j < i
        · rw [if_pos hji] at hj
          obtain ⟨hjl, ej⟩ := List.getElem?_eq_some_iff.mp hj
          exact absurd ej (List.pairwise_iff_getElem.mp nd j i hjl hlt hji)
        · rw [if_neg hji] at hj
          cases hj
      have hk : H' t = some (.tup ((l[i].map (Sum.inl : Int → L2.Key)).map kV)) := by
        rw [kT_val]
        exact s2 _ _ (hts i t _ ht hn)
      refine ⟨_, rfl, _, rfl, D, _, rfl, DPut.t hD hk ?_, _, rfl, same_mut s2 nD, ?_⟩
      · rw [List.length_map, List.length_take, sizeLine_eq]
        omega
      · rw [upd_same, kT_put hnot, et]
    · rintro σ H' ⟨x, rfl, s2, hD⟩
      rw [List.length_map, lt, List.take_length] at hD
      exact ⟨_, rfl, D, l, rfl, hD, by omega, hne, fun H2 r ys s3 hl' hr' => q H2 r ys (s2.trans s3) hl' hr'⟩
end
end K70
namespace K70
open PySem PySem.Spec PyProof.Rows L2
/-! ### _law_any: a home of drawn numbers -/
theorem sameB_mut {H H1 : Hp} {d p : Addr} {o : HO} (s : SameB d H H1) (n : H p = none) : SameB d H (upd H1 p o) := fun b x nb e => by
  rw [upd_ne (ne_of_none e n)]
  exact s b x nb e
theorem drI_upd {H : Hp} {dr sc p : Addr} {o : HO} (d : DrI H dr sc) (n : p ≠ dr) : DrI (upd H p o) dr sc := by
  obtain ⟨k, k0, e⟩ := d
  exact ⟨k, k0, by rw [upd_ne (Ne.symm n)]; exact e⟩
theorem put_le (c : List (L2.Key × V)) (k : L2.Key) (x : V) : (putK c k x).length ≤ c.length + 1 := by
  unfold putK
  split
  · rw [List.length_map]; omega
  · rw [List.length_append]; exact Nat.le_refl _
def kindsL (d : Dim) : List Int := [0, 0, 1, 2, 3, -1, d.B, d.B + 1, 1 + 2 * NM, 5 + NM, 3 * NM * d.F + 7, 10 ^ Int.toNat 20, 40]
theorem pl_le {d : Dim} (o : d.ok) : 0 ≤ d.pl ∧ d.pl ≤ 300 := by
  obtain ⟨⟨a1, a2, a3⟩, ⟨b1, b2, b3⟩, ⟨c1, c2, c3⟩⟩ := Dim.bounds o
  obtain ⟨⟨_, _⟩, ⟨_, _⟩, ⟨f1, f2⟩, ⟨g1, g2⟩, ⟨_, _⟩⟩ := o
  unfold Dim.pl Dim.fb Dim.ff Dim.fu Dim.fr
  omega
section
variable {P : Program} {w : World} {K : PySem.W.Frag} {mg : Str → Option Value} {base : Heap} {C : Addr}
def spLawAny (K : PySem.W.Frag) (C : Addr) : Sp := fun vs H Q _ => ∃ (dr sc sh : Addr) (d : Dim), vs = [.ref dr, .ref sh] ∧ DrawOk K H dr sc ∧ ShapeAt C H sh d ∧ d.ok ∧ ∀ H' h pl, SameB dr H H' → DrI H' dr sc → HomeAt H' h d.pl pl → Q (.ref h) H'
theorem scLawAny : FnScope ["_law_draw", "_law_shape", "_law_kinds", "_law_home", "_law_plate", "_law_one"] ["_law_draw", "_law_shape"] (defScope sLawAny) := ⟨rfl, rfl, rfl, by decide +kernel, rfl, by decide +kernel, by decide +kernel⟩
theorem ok_law_any (F : At K mg "_law_any" sLawAny) (T : Txt K mg C) (h1 : Has P w K mg base CX0 3 "_law_pick" ["_law_draw", "_law_items"] (spLawPick K)) : Has P w K mg base CX0 4 "_law_any" ["_law_draw", "_law_shape"] (spLawAny K C) := by
  obtain ⟨f, fd, F, m⟩ := F.ex
  obtain ⟨f1, fd1, G_law_pick, m_law_pick, k_law_pick, b_law_pick⟩ := h1.ex
  refine ⟨f, fd, F.ok scLawAny (fun vs H Q E h => ?_) (fun cdv A outer s H vs Q E hr h => ?_), m, F.kp, F.binds fun _ _ _ _ _ _ us hl => match us, hl with | [_, _], _ => rfl⟩
  · obtain ⟨dr, sc, sh, d, rfl, _⟩ := h
    rfl
  · obtain ⟨dr, sc, sh, d, rfl, hd, ⟨dx, hs⟩, od, q⟩ := h
    refine ⟨_, ((pss_cons (ps_set (i := 2) scLawAny.nd rfl (Or.inr rfl) (pe_lst (pa_cons pe_int (pa_cons pe_int (pa_cons pe_int (pa_cons pe_int (pa_cons pe_int (pa_cons (pe_un un_neg pe_int) (pa_cons (pe_fld (pv 1) rfl) (pa_cons (pe_op op_add (pe_fld (pv 1) rfl) pe_int) (pa_cons (pe_op op_add pe_int (pe_op op_mul pe_int (pe_gi rfl T.gNAMES))) (pa_cons (pe_op op_add pe_int (pe_gi rfl T.gNAMES)) (pa_cons (pe_op op_add (pe_op op_mul (pe_op op_mul pe_int (pe_gi rfl T.gNAMES)) (pe_fld (pv 1) rfl)) pe_int) (pa_cons (pe_op op_pow pe_int pe_int) (pa_cons pe_int pa_nil)))))))))))))))
  (pss_cons (ps_set (i := 3) scLawAny.nd rfl (Or.inl rfl) pe_dnewK)
  (pss_cons (ps_for PassesOwn.never rfl (pi_range1 rfl T.zrange (pa_cons (pe_fld (pv 1) rfl) pa_nil)) (pg_name (i := 4) scLawAny.nd rfl (Or.inl rfl))
  (pss_one (ps_dput (hu_of hr) (pv 3) (pv 4) (pe_callTy call_tuple_of (by rfl) T.ztuple (by decide +kernel) (pa_cons (pe_lc (own := [("_law_one", 5)]) (g := gName 5) (tt := tYes) rfl scLawAny.nd (pi_range1 rfl T.zrange (pa_cons (pe_gi rfl T.gWIDTH) pa_nil)) (blkOk_by (own := [("_law_one", 5)]) (N := ["_law_draw", "_law_shape", "_law_kinds", "_law_home", "_law_plate", "_law_one"]) (sc := defScope sLawAny) (by decide +kernel)) (fun _ _ _ _ _ => (pg_name (i := 5) scLawAny.nd rfl (Or.inl rfl))) (fun _ _ _ _ _ => pts_nil) (fun _ _ _ _ _ => (pe_call G_law_pick (hr.mono (by first | decide | omega)) rfl m_law_pick k_law_pick b_law_pick .nil pass0 (pa_cons (pv 0) (pa_cons (pv 2) pa_nil))))) pa_nil)) rfl)))
  (pss_one (ps_ret (pv 3))))))), ?_⟩
    obtain ⟨p0, p1⟩ := pl_le od
    have hF := od.2.2.1
    refine ⟨_, rfl, _, rfl, sh, C, dx, _, _, rfl, hs, T.cS, T.na, sf_blocks d, _, rfl, sh, C, dx, _, _, rfl, hs, T.cS, T.na, sf_blocks d, _, _, rfl, rfl, _, _, rfl, rfl, .inl ⟨by decide, by decide⟩, _, _, rfl, rfl, _, _, rfl, rfl, _, _, rfl, rfl, .inl ⟨by decide, by decide⟩, ?_⟩
    refine ⟨_, rfl, sh, C, dx, _, _, rfl, hs, T.cS, T.na, sf_files d, _, _, rfl, rfl, .inl ⟨by decide, by decide⟩, _, _, rfl, rfl, _, _, rfl, rfl, ⟨by decide, by decide, by decide⟩, (by show 13 ≤ sizeLine; decide), fun kk nkk D nD => ?_⟩
    have s1 : Same H (upd H kk (.lst ((kindsL d).map V.int))) := same_upd nkk
    have hkk : upd H kk (.lst ((kindsL d).map V.int)) kk = some (.lst ((kindsL d).map V.int)) := upd_same
    have nD1 : upd H kk (.lst ((kindsL d).map V.int)) D = none := nD
    have hdr0 := hd.at_
    obtain ⟨k0, k0', edr⟩ := id hdr0
    have hne : kk ≠ dr := fun z => by rw [z, edr] at nkk; cases nkk
    have nDd : D ≠ dr := fun z => by rw [z, s1 _ _ edr] at nD1; cases nD1
    have nDk : D ≠ kk := fun z => by rw [z, hkk] at nD1; cases nD1
    have nDH : H D = none := s1.free nD1
    have hnsh : sh ≠ dr := fun z => by rw [z, edr] at hs; cases hs
    refine ⟨_, rfl, sh, C, dx, _, _, rfl, (same_upd nD1) _ _ (s1 _ _ hs), T.cS, T.na, sf_plates d, _, rfl, (by omega), (by omega), ?_⟩
    refine for_range (lo := 0) (n := d.pl.toNat) (fun i σ H' => ∃ (x : Option V), σ = [some (.ref dr), some (.ref sh), some (.ref kk), some (.ref D), x, none] ∧ SameB dr H H' ∧ DrI H' dr sc ∧ H' kk = some (.lst ((kindsL d).map V.int)) ∧
      ∃ (pl : Int → List Int) (kvs : List (L2.Key × V)), H' D = some (.dK kvs) ∧ kvs.length ≤ i ∧ ∀ j : Int, 0 ≤ j → j < i → (pl j).length = 8 ∧ ∃ t, valV kvs (Sum.inl j) = some (.ref t) ∧ H' t = some (.tup ((pl j).map V.int)))
      ⟨none, rfl, sameB_mut (SameB.of s1) nDH, drI_upd (drI_upd hdr0 hne) nDd, by rw [upd_ne (Ne.symm nDk)]; exact hkk, fun _ => [], [], upd_same, Nat.le_refl _, fun j j0 j1 => by omega⟩ ?_ ?_
    · rintro i σ H' hi ⟨x, rfl, sB, dI, hk, pl, kvs, hD, hl, hall⟩
      have ei : (0 : Int) + (i : Nat) = (i : Int) := Int.zero_add _
      rw [ei]
      refine ⟨_, rfl, (by decide), (by decide), fun L nL => ?_⟩
      have nLd : L ≠ dr := fun z => by
        obtain ⟨_, _, e⟩ := dI
        rw [z, e] at nL
        cases nL
      refine lc_range (lo := 0) (n := Int.toNat 8) (fun j Hj => SameB dr H' Hj ∧ DrI Hj dr sc ∧ ∃ l : List Int, Hj L = some (.lst (l.map V.int)) ∧ l.length = j) ⟨SameB.of (same_upd nL), drI_upd dI nLd, [], upd_same, rfl⟩ ?_ ?_
      · rintro j Hj hj ⟨sj, dj, l, hL, ll⟩
        refine ⟨rfl, _, rfl, _, rfl, dr, sc, kk, (kindsL d).map V.int, rfl, hd.next (sB.trans sj) dj, sl_of (sj _ _ hne hk), hne, (by simp [kindsL]), fun v hv H3 s3 d3 => ?_⟩
        obtain ⟨z, _, rfl⟩ := List.mem_map.mp hv
        have hL3 := s3 _ _ nLd hL
        refine ⟨_, hL3, ?_, sameB_mut (sj.trans s3) nL, drI_upd d3 nLd, l ++ [z], by rw [upd_same, List.map_append]; rfl, by rw [List.length_append, ll]; rfl⟩
        rw [List.length_map, ll, sizeLine_eq]
        have : j < 8 := hj
        omega
      · rintro Hj ⟨sj, dj, l, hL, ll⟩
        refine ⟨L, _, rfl, .inl ⟨sl_of hL, fun p np => ?_⟩⟩
        have hDj := sj _ _ nDd hD
        have nDp : D ≠ p := fun z => by rw [z, np] at hDj; cases hDj
        have nHp : H p = none := by
          cases e : H p with
          | none => rfl
          | some o =>
            by_cases hp : p = dr
            · obtain ⟨_, _, e'⟩ := dj
              rw [hp, e'] at np
              cases np
            · rw [(sB.trans sj) _ _ hp e] at np
              cases np
        have hpd : p ≠ dr := fun z => by
          obtain ⟨_, _, e'⟩ := dj
          rw [z, e'] at np
          cases np
        have hpk : p ≠ kk := fun z => by rw [z, sj _ _ hne hk] at np; cases np
        refine ⟨_, rfl, _, rfl, D, _, rfl, DPut.k (k := Sum.inl (i : Int)) (by rw [upd_ne nDp]; exact hDj) (by rw [sizeLine_eq]; omega), _, rfl, sameB_mut (sameB_mut (sB.trans sj) nHp) nDH, drI_upd (drI_upd dj hpd) nDd, ?_, ?_⟩
        · rw [upd_ne (Ne.symm nDk), upd_ne (Ne.symm hpk)]
          exact sj _ _ hne hk
        · refine ⟨fun j => if j = (i : Int) then l else pl j, _, upd_same, ?_, fun j j0 j1 => ?_⟩
          · exact Nat.le_trans (put_le kvs _ _) (by omega)
          · rw [valV_put]
            dsimp only
            by_cases hj : j = (i : Int)
            · subst hj
              simp only [if_true]
              refine ⟨ll, p, rfl, ?_⟩
              rw [upd_ne (Ne.symm nDp)]
              exact upd_same
            · rw [if_neg hj, if_neg (fun z => hj (Sum.inl.inj z))]
              obtain ⟨g1, t, g2, g3⟩ := hall j j0 (by omega)
              refine ⟨g1, t, g2, ?_⟩
              have ntd : t ≠ dr := fun z => by
                obtain ⟨_, _, e'⟩ := dI
                rw [z, e'] at g3
                cases g3
              have g4 := sj _ _ ntd g3
              have ntp : t ≠ p := fun z => by rw [z, np] at g4; cases g4
              have ntD : t ≠ D := fun z => by rw [z, hDj] at g4; cases g4
              rw [upd_ne ntD, upd_ne ntp]
              exact g4
    · rintro σ H' ⟨x, rfl, sB, dI, hk, pl, kvs, hD, hl, hall⟩
      refine ⟨_, rfl, q H' D pl sB dI ⟨kvs, hD, fun j j0 j1 => ?_⟩⟩
      obtain ⟨g1, t, g2, g3⟩ := hall j j0 (by omega)
      exact ⟨g1, t, g2, g3⟩
end
end K70
namespace K70
open PySem PySem.Spec PyProof.Rows L2
/-! ### _law_is_read -/
theorem cr_range1 {X : Cx} : CallR X (.type "range") (fun vs H Q => ∃ j, vs = [V.int j] ∧ ∀ p, H p = none → Q (.ref p) (upd H p (.rng 0 j))) := by
  intro pins s σ H vs us Q I r h
  obtain ⟨j, rfl, q⟩ := h
  obtain ⟨u, rfl, t, rfl⟩ := vals1 r
  refine call_range_1 ⟨.ref s.heap.objs.size, upd H s.heap.objs.size (.rng 0 j), I.laid (t' := _) (fun b o e => Heap.get?_push_of_some _ e) (Nat.le_refl _) ?_, rfl, q _ (I.hok.fresh (Nat.le_refl _))⟩
  exact ⟨_, _, _, Heap.get?_push_size _ rfl⟩
theorem for_tupP {K : PySem.W.Frag} {a : Addr} {xs : List V} {g : TG} {tb : TS} {D : Ends} {σ : L2.St} {H : Hp} (Pv : Nat → L2.St → Hp → Prop) (Post : L2.St → Hp → Prop) (hpost : ∀ σ H, Post σ H → D.nx σ H) (h0 : Pv 0 σ H) (hl : ∀ i σ H, i ≤ xs.length → Pv i σ H → SqT K H a xs)
    (hs : (∀ σ H, Post σ H → D.nx σ H) → ∀ i x σ H, xs[i]? = some x → Pv i σ H → g x σ H fun σ2 H2 => tb { D with nx := Pv (i + 1), ct := Pv (i + 1), bk := D.nx } σ2 H2) (hd : ∀ σ H, Pv xs.length σ H → Post σ H) :
    ∃ W : Nat → Nat → L2.St → Hp → Prop, (∃ m, W 0 m σ H) ∧ ∀ i m σ H, W i m σ H →
      ((Itt K a).stop i H ∧ D.nx σ H) ∨ ((Itt K a).go i H ∧ ∃ N : L2.St → Hp → Prop, (∀ σ' H', N σ' H' → ∃ m', m' < m ∧ W (i + 1) m' σ' H') ∧ ∀ x H', (Itt K a).yld i H x H' → g x σ H' fun σ2 H2 => tb { D with nx := N, ct := N, bk := D.nx } σ2 H2) :=
  for_tup Pv h0 hl (hs hpost) fun σ H h => hpost _ _ (hd σ H h)
/-- the eight numbers of a file's n-th block -/
def blk (d : Dim) (pl : Int → List Int) (f : Int) (n : Nat) : List Int := match dataR d pl f (n : Int) with
  | .int b => pl (d.fb + b)
  | _ => List.replicate 8 0
theorem blk_len {H : Hp} {C h sh : Addr} {d : Dim} {pl : Int → List Int} (hm : Hm C H h sh d pl) (f : Int) (n : Nat) : (blk d pl f n).length = 8 := by
  unfold blk
  rcases data_ok d pl f n with e | ⟨b, e, b0, b1⟩
  · rw [e]; rfl
  · rw [e]
    obtain ⟨p0, p1⟩ := block_place hm.o b0 b1
    exact hm.len _ p0 p1
def foundR (d : Dim) (pl : Int → List Int) (f : Int) (n : Nat) : List Int := (List.range n).flatMap (blk d pl f)
theorem foundR_more (d : Dim) (pl : Int → List Int) (f : Int) (n : Nat) : foundR d pl f (n + 1) = foundR d pl f n ++ blk d pl f n := by
  unfold foundR
  rw [List.range_succ, List.flatMap_append, List.flatMap_singleton]
theorem foundR_len {H : Hp} {C h sh : Addr} {d : Dim} {pl : Int → List Int} (hm : Hm C H h sh d pl) (f : Int) : ∀ n : Nat, (foundR d pl f n).length = 8 * n
  | 0 => rfl
  | n + 1 => by
    rw [foundR_more, List.length_append, foundR_len hm f n, blk_len hm]
    omega
theorem foundR_get {H : Hp} {C h sh : Addr} {d : Dim} {pl : Int → List Int} (hm : Hm C H h sh d pl) (f : Int) : ∀ (n a : Nat), a < 8 * n → (foundR d pl f n)[a]? = some (numR d pl f (a : Int))
  | 0, a, h => by omega
  | n + 1, a, ha => by
    rw [foundR_more]
    rcases Nat.lt_or_ge a (8 * n) with c | c
    · rw [List.getElem?_append_left (by rw [foundR_len hm]; exact c)]
      exact foundR_get hm f n a c
    · rw [List.getElem?_append_right (by rw [foundR_len hm]; exact c), foundR_len hm]
      have ea : ((a : Int) / 8) = (n : Int) := by omega
      have eb : ((a : Int) % 8).toNat = a - 8 * n := by omega
      have hl := blk_len hm f n
      have hlt : a - 8 * n < (blk d pl f n).length := by omega
      unfold numR
      rw [ea]
      unfold blk at hl hlt ⊢
      rcases data_ok d pl f n with e | ⟨b, e, b0, b1⟩
      · rw [e] at hl hlt ⊢
        rw [List.getElem?_replicate, if_pos (by simpa using hlt)]
      · rw [e] at hl hlt ⊢
        show (pl (d.fb + b))[a - 8 * n]? = some (cell pl (d.fb + b) ((a : Int) % 8))
        unfold cell
        rw [eb, List.getD_eq_getElem?_getD, List.getElem?_eq_getElem hlt]
        rfl
theorem found_take {H : Hp} {C h sh : Addr} {d : Dim} {pl : Int → List Int} (hm : Hm C H h sh d pl) (f : Int) {m : Nat} (hm' : m ≤ 600) : (List.range m).map (fun a : Nat => numR d pl f (a : Int)) = (foundR d pl f 75).take m := by
  refine List.ext_getElem? fun a => ?_
  rw [List.getElem?_map, List.getElem?_take]
  by_cases c : a < m
  · rw [if_pos c, foundR_get hm f 75 a (by omega), List.getElem?_range c]
    rfl
  · rw [if_neg c, List.getElem?_eq_none (by rw [List.length_range]; omega)]
    rfl
end K70
namespace K70
open PySem PySem.Spec PyProof.Rows L2
section
variable {P : Program} {w : World} {K : PySem.W.Frag} {mg : Str → Option Value} {base : Heap} {C : Addr}
/-- a test of the law on a home and one of its files: True -/
def spFileTrue (C : Addr) : Sp := fun vs H Q _ => ∃ (h sh : Addr) (d : Dim) (pl : Int → List Int) (k : Int), vs = [.ref h, .ref sh, .int k] ∧ Hm C H h sh d pl ∧ (0 ≤ k ∧ k < d.F) ∧ RetV H (.bl true) Q
theorem scIsRead : FnScope ["_law_home", "_law_shape", "_law_file", "_law_number_here", "_law_size", "_law_plate", "_law_found", "_law_place", "_law_block", "_law_late"] ["_law_home", "_law_shape", "_law_file"] (defScope sLawIsRead) := ⟨rfl, rfl, rfl, by decide +kernel, rfl, by decide +kernel, by decide +kernel⟩
theorem ok_is_read (F : At K mg "_law_is_read" sLawIsRead) (T : Txt K mg C) (h1 : HasM P w K mg base CX0 1 C "file_plate" ["self", "file"] (spFilePlate C)) (h2 : HasM P w K mg base CX0 1 C "block_plate" ["self", "block"] (spBlockPlate C)) (h3 : Has P w K mg base CX0 1 "spot_of" ["number"] spSpotOf)
    (h4 : Has P w K mg base CX0 2 "data_block" ["home", "shape", "file", "number"] (spDataBlock C)) (h5 : Has P w K mg base CX0 2 "size_at" ["home", "shape", "file"] (spSizeAt C)) (h6 : Has P w K mg base CX0 4 "content_of" ["home", "shape", "file"] (spContentOf C))
    (h7 : Has P w K mg base CX0 3 "numbers_at" ["home", "shape", "file", "start", "end"] (spNumbersAt C)) (h8 : Has P w K mg base CX0 2 "owner_at" ["home", "shape", "file"] (spOwnerAt C)) :
    Has P w K mg base CX0 5 "_law_is_read" ["_law_home", "_law_shape", "_law_file"] (spFileTrue C) := by
  obtain ⟨f, fd, F, m⟩ := F.ex
  obtain ⟨f1, fd1, G_file_plate, M_file_plate, b_file_plate⟩ := h1.ex
  obtain ⟨f2, fd2, G_block_plate, M_block_plate, b_block_plate⟩ := h2.ex
  obtain ⟨f3, fd3, G_spot_of, m_spot_of, k_spot_of, b_spot_of⟩ := h3.ex
  obtain ⟨f4, fd4, G_data_block, m_data_block, k_data_block, b_data_block⟩ := h4.ex
  obtain ⟨f5, fd5, G_size_at, m_size_at, k_size_at, b_size_at⟩ := h5.ex
  obtain ⟨f6, fd6, G_content_of, m_content_of, k_content_of, b_content_of⟩ := h6.ex
  obtain ⟨f7, fd7, G_numbers_at, m_numbers_at, k_numbers_at, b_numbers_at⟩ := h7.ex
  obtain ⟨f8, fd8, G_owner_at, m_owner_at, k_owner_at, b_owner_at⟩ := h8.ex
  refine ⟨f, fd, F.ok scIsRead (fun vs H Q E h => ?_) (fun cdv A outer s H vs Q E hr h => ?_), m, F.kp, F.binds fun _ _ _ _ _ _ us hl => match us, hl with | [_, _, _], _ => rfl⟩
  · obtain ⟨h, sh, d, pl, k, rfl, _⟩ := h
    rfl
  · obtain ⟨h, sh, d, pl, k, rfl, hm, ⟨k0, k1⟩, q⟩ := h
    refine ⟨_, ((pss_cons (ps_par (i := 5) (j := 6) rfl scIsRead.nd rfl rfl (by decide) rfl rfl (pa_cons (pe_dget (hu_of hr) (pv 0) (pe_meth (pv 1) T.cS M_file_plate G_file_plate (hr.mono (by first | decide | omega)) b_file_plate .nil pass0 (pa_cons (pv 2) pa_nil)) (fun _ _ => rfl)) (pa_cons (pe_lst pa_nil) pa_nil)) (by rfl))
  (pss_cons (ps_for PassesOwn.never rfl (pi_range1 rfl T.zrange (pa_cons (pe_gi rfl T.gMOST_BLOCKS) pa_nil)) (pg_name (i := 3) scIsRead.nd rfl (Or.inl rfl))
  (pss_cons (ps_par (i := 8) (j := 9) rfl scIsRead.nd rfl rfl (by decide) rfl rfl (pa_cons pe_non (pa_cons (pv 5) pa_nil)) (by rfl))
  (pss_cons (ps_for PassesOwn.never rfl (pi_tup (pe_call G_spot_of (hr.mono (by first | decide | omega)) rfl m_spot_of k_spot_of b_spot_of .nil pass0 (pa_cons (pv 3) pa_nil))) (pg_name (i := 7) scIsRead.nd rfl (Or.inl rfl))
  (pss_cons (ps_set (i := 8) scIsRead.nd rfl (Or.inl rfl) (pe_ifExp (pt_chain op_le op_le pe_int (pe_ix ix_tup (pv 9) (pv 7) (fun _ _ => rfl)) (pe_fld (pv 1) rfl)) (pe_op op_sub (pe_ix ix_tup (pv 9) (pv 7) (fun _ _ => rfl)) pe_int) pe_non))
  (pss_cons (ps_if (pt_cmpR op_isN (pv 8) pe_non (nomark _))
  (pss_one ps_break)
  pss_nil)
  (pss_one (ps_set (i := 9) scIsRead.nd rfl (Or.inl rfl) (pe_dget (hu_of hr) (pv 0) (pe_meth (pv 1) T.cS M_block_plate G_block_plate (hr.mono (by first | decide | omega)) b_block_plate .nil pass0 (pa_cons (pv 8) pa_nil)) (fun _ _ => rfl)))))))
  (pss_cons (ps_if (pt_cmpR op_ne (pe_call G_data_block (hr.mono (by first | decide | omega)) rfl m_data_block k_data_block b_data_block .nil pass0 (pa_cons (pv 0) (pa_cons (pv 1) (pa_cons (pv 2) (pa_cons (pv 3) pa_nil))))) (pv 8) (nomark _))
  (pss_one (ps_ret pe_bl))
  pss_nil)
  (pss_one (ps_aug (i := 6) scIsRead.nd rfl (Or.inl rfl) (pe_ifExp (pt_cmpR op_isN (pv 8) pe_non (nomark _)) (pe_op op_rep (pe_lst (pa_cons pe_int pa_nil)) (pe_gi rfl T.gWIDTH)) (pe_callTy call_list_of (by rfl) T.zlist (by decide +kernel) (pa_cons (pe_dget (hu_of hr) (pv 0) (pe_meth (pv 1) T.cS M_block_plate G_block_plate (hr.mono (by first | decide | omega)) b_block_plate .nil pass0 (pa_cons (pv 8) pa_nil)) (fun _ _ => rfl)) pa_nil))) ip_ext))))))
  (pss_cons (ps_set (i := 4) scIsRead.nd rfl (Or.inl rfl) (pe_callB (call_max2 rfl) (by rfl) T.zmax (by decide +kernel) (pa_cons pe_int (pa_cons (pe_callB (call_min2 rfl) (by rfl) T.zmin (by decide +kernel) (pa_cons (pe_ix ix_tup (pv 5) pe_int (fun _ _ => rfl)) (pa_cons (pe_gi rfl T.gMOST_SIZE) pa_nil))) pa_nil))))
  (pss_cons (ps_if (PW.pt (pw_or (pt_cmpR op_ne (pe_call G_size_at (hr.mono (by first | decide | omega)) rfl m_size_at k_size_at b_size_at .nil pass0 (pa_cons (pv 0) (pa_cons (pv 1) (pa_cons (pv 2) pa_nil)))) (pv 4) (nomark _)) (pw_or1 (pt_cmpR (op_neD hr.units) (pe_call G_content_of (hr.mono (by first | decide | omega)) rfl m_content_of k_content_of b_content_of .nil pass0 (pa_cons (pv 0) (pa_cons (pv 1) (pa_cons (pv 2) pa_nil)))) (pe_callTy call_tuple_of (by rfl) T.ztuple (by decide +kernel) (pa_cons (pe_slice sl_list (pv 6) po_none (po_some (pv 4))) pa_nil)) (nomark _)))))
  (pss_one (ps_ret pe_bl))
  pss_nil)
  (pss_one (ps_ret (pe_and (pe_cmpR (op_eqD hr.units) (pe_call G_numbers_at (hr.mono (by first | decide | omega)) rfl m_numbers_at k_numbers_at b_numbers_at .nil pass0 (pa_cons (pv 0) (pa_cons (pv 1) (pa_cons (pv 2) (pa_cons pe_int (pa_cons (pe_gi rfl T.gMOST_SIZE) pa_nil)))))) (pe_callTy call_tuple_of (by rfl) T.ztuple (by decide +kernel) (pa_cons (pv 6) pa_nil)) (nomark _)) (pe_one (pe_cmpR op_in_rng (pe_call G_owner_at (hr.mono (by first | decide | omega)) rfl m_owner_at k_owner_at b_owner_at .nil pass0 (pa_cons (pv 0) (pa_cons (pv 1) (pa_cons (pv 2) pa_nil)))) (pe_callTy cr_range1 (by rfl) T.zrange (by decide +kernel) (pa_cons (pe_fld (pv 1) rfl) pa_nil)) (by rfl))))))))))), ?_⟩
    obtain ⟨dx, hs⟩ := hm.shape
    obtain ⟨p0, p1⟩ := file_place hm.o k0 k1
    obtain ⟨t, g, ht, hl⟩ := hm.home.get p0 p1
    have hB := hm.o.2.2.2.1
    refine ⟨_, rfl, _, rfl, sh, dx, _, rfl, hs, (sf_none d).2.2.2.2.2.1, _, rfl, sh, d, k, rfl, hm.shape, h, _, rfl, g, Nat.zero_le _, fun L nL => ⟨_, _, rfl, ?_⟩⟩
    have s0 : Same H (upd H L (.lst [])) := same_upd nL
    refine ⟨_, rfl, (by decide), (by decide), for_range (lo := 0) (n := Int.toNat 75) (fun i σ H' => ∃ (x3 x7 x8 x9 : Option V), σ = [some (.ref h), some (.ref sh), some (.int k), x3, none, some (.ref t), some (.ref L), x7, x8, x9] ∧ Same H H' ∧ H' L = some (.lst ((foundR d pl k i).map V.int)))
      ⟨none, none, none, none, rfl, s0, upd_same⟩ ?_ ?_⟩
    · rintro i σ H' hi ⟨x3, x7, x8, x9, rfl, s1, hL⟩
      have hi75 : i < 75 := hi
      have ei : (0 : Int) + (i : Nat) = (i : Int) := Int.zero_add _
      rw [ei]
      refine ⟨_, rfl, _, _, rfl, ?_⟩
      refine ⟨_, rfl, (i : Int), rfl, fun H1 p s2 np hp => ?_⟩
      have s12 := s1.trans s2
      refine ⟨p, rfl, ⟨_, st_of hp⟩, for_tupP (K := K) (a := p) (xs := (spotR (i : Int)).map V.int) (fun j σ H'' => ∃ (x7 : Option V) (b : V) (u : Addr) (l : List Int), σ = [some (.ref h), some (.ref sh), some (.int k), some (.int (i : Int)), none, some (.ref t), some (.ref L), x7, some b, some (.ref u)] ∧ Same H1 H'' ∧ H'' u = some (.tup (l.map V.int)) ∧ l.length = 8 ∧
          walkR d pl ((spotR (i : Int)).drop j) l b = dataR d pl k (i : Int))
        (fun σ H'' => ∃ (x7 x9 : Option V), σ = [some (.ref h), some (.ref sh), some (.int k), some (.int (i : Int)), none, some (.ref t), some (.ref L), x7, some (dataR d pl k (i : Int)), x9] ∧ Same H1 H'') ?rest ⟨x7, .non, t, pl (d.ff + k), rfl, Same.refl _, s12 _ _ ht, hl, rfl⟩ (fun j σ H'' _ ⟨_, _, _, _, _, s3, _⟩ => st_of (s3 _ _ hp)) (fun post => ?step) ?fin⟩
      case rest =>
        rintro σ H'' ⟨x7, x9, rfl, s3⟩
        have s4 := s12.trans s3
        refine ⟨_, rfl, _, rfl, _, rfl, _, rfl, h, sh, d, pl, k, (i : Int), rfl, hm.same s4, ⟨k0, k1⟩, ⟨by omega, by omega⟩, fun H2 s5 => ?_⟩
        have s6 := s4.trans s5
        have hs6 := s6 _ _ hs
        have hL2 := s5 _ _ (s3 _ _ (s2 _ _ hL))
        have lenF := foundR_len hm k i
        have more := foundR_more d pl k i
        have bl8 := blk_len hm k i
        refine ⟨_, rfl, ?_⟩
        rcases data_ok d pl k (i : Int) with e | ⟨b, e, b0, b1⟩
        · have eb : blk d pl k i = List.replicate 8 0 := by unfold blk; rw [e]
          rw [e]
          refine ⟨rfl, false, rfl, iteF ⟨_, rfl, _, rfl, rfl, true, rfl, iteT ⟨(by show 1 ≤ sizeLine; decide), fun z nz => ⟨z, 8, _, rfl, rfl, upd_same, (by decide), (by decide), (by show 1 * 8 ≤ sizeLine; decide), fun r nr => ?_⟩⟩⟩⟩
          have s7 := same_upd (o := .lst [.int 0]) nz
          have s8 := same_upd (o := .lst (List.replicate (Int.toNat 8) [V.int 0]).flatten) nr
          refine ⟨L, r, _, _, rfl, rfl, s8 _ _ (s7 _ _ hL2), upd_same, ?_, ?_⟩
          · rw [List.length_map, lenF]
            show 8 * i + 8 ≤ sizeLine
            rw [sizeLine_eq]; omega
          · refine ⟨_, _, _, _, rfl, same_mut ((s6.trans s7).trans s8) nL, ?_⟩
            rw [upd_same, more, eb, List.map_append]
            rfl
        · have eb : blk d pl k i = pl (d.fb + b) := by unfold blk; rw [e]
          rw [e]
          obtain ⟨q0, q1⟩ := block_place hm.o b0 b1
          obtain ⟨t2, g2, ht2, hl2⟩ := (hm.home.same s6).get q0 q1
          refine ⟨rfl, false, by simp, iteF ⟨_, rfl, _, rfl, rfl, false, rfl, iteF ⟨_, rfl, _, rfl, sh, dx, _, rfl, hs6, (sf_none d).2.2.2.2.2.2, _, rfl, sh, d, b, rfl, hm.shape.same s6, h, _, rfl, g2, t2, _, rfl, .inr (st_of ht2), fun r nr => ?_⟩⟩⟩
          have s8 := same_upd (o := .lst ((pl (d.fb + b)).map V.int)) nr
          refine ⟨L, r, _, _, rfl, rfl, s8 _ _ hL2, upd_same, ?_, ?_⟩
          · rw [List.length_map, lenF, List.length_map, hl2, sizeLine_eq]; omega
          · refine ⟨_, _, _, _, rfl, same_mut (s6.trans s8) nL, ?_⟩
            rw [upd_same, more, eb, List.map_append]
      case step =>
        rintro j y σ H'' hj ⟨x7, b, u, l, rfl, s3, hu, l8, e⟩
        obtain ⟨jj, hjj, rfl⟩ : ∃ jj, (spotR (i : Int))[j]? = some jj ∧ y = V.int jj := by
          rw [List.getElem?_map] at hj
          cases q1 : (spotR (i : Int))[j]? with
          | none => rw [q1] at hj; cases hj
          | some jj => rw [q1] at hj; exact ⟨jj, rfl, (Option.some.inj hj).symm⟩
        obtain ⟨j0, j1⟩ := spot_in (n := (i : Int)) (by omega) (by omega) jj (List.mem_of_getElem? hjj)
        have ed : (spotR (i : Int)).drop j = jj :: (spotR (i : Int)).drop (j + 1) := by
          obtain ⟨hlt, hg⟩ := List.getElem?_eq_some_iff.mp hjj
          rw [List.drop_eq_getElem_cons hlt, hg]
        rw [ed] at e
        have s4 := s12.trans s3
        have hs' := s4 _ _ hs
        unfold walkR at e
        refine ⟨_, rfl, _, rfl, u, _, jj, _, rfl, rfl, st_of hu, plate_at l8 j0 j1, _, _, rfl, rfl, _, rfl, ?_⟩
        generalize hz : l.getD jj.toNat 0 = z at e ⊢
        by_cases c1 : 1 ≤ z
        · rw [decide_eq_true c1]
          refine iteT ⟨_, rfl, sh, C, dx, _, _, rfl, hs', T.cS, T.na, sf_blocks d, _, _, rfl, rfl, _, rfl, ?_⟩
          by_cases c2 : z ≤ d.B
          · rw [decide_eq_true c2]
            rw [if_pos ⟨c1, c2⟩] at e
            obtain ⟨q0, q1⟩ := block_place hm.o (k := z - 1) (by omega) (by omega)
            obtain ⟨t2, g2, ht2, hl2⟩ := (hm.home.same s4).get q0 q1
            refine iteT ⟨_, rfl, _, rfl, u, _, jj, _, rfl, rfl, st_of hu, plate_at l8 j0 j1, ?_⟩
            rw [hz]
            refine ⟨_, _, rfl, rfl, ?_⟩
            refine ⟨_, rfl, rfl, false, rfl, iteF ⟨_, rfl, _, rfl, sh, dx, _, rfl, hs', (sf_none d).2.2.2.2.2.2, _, rfl, sh, d, _, rfl, hm.shape.same s4, h, _, rfl, g2, ?_⟩⟩
            exact ⟨_, _, t2, _, rfl, s3, ht2, hl2, e⟩
          · rw [decide_eq_false c2]
            rw [if_neg (fun q => c2 q.2)] at e
            refine iteF ⟨_, rfl, rfl, true, rfl, iteT ?_⟩
            exact post _ _ ⟨_, _, by rw [← e]; rfl, s3⟩
        · rw [decide_eq_false c1]
          rw [if_neg (fun q => c1 q.1)] at e
          refine iteF ⟨_, rfl, iteF ⟨_, rfl, rfl, true, rfl, iteT ?_⟩⟩
          exact post _ _ ⟨_, _, by rw [← e]; rfl, s3⟩
      case fin =>
        rintro σ H'' ⟨x7, b, u, l, rfl, s3, hu, l8, e⟩
        rw [List.length_map, List.drop_length] at e
        have e' : b = dataR d pl k (i : Int) := e
        rw [e']
        exact ⟨_, _, rfl, s3⟩
    · rintro σ H' ⟨x3, x7, x8, x9, rfl, s1, hL⟩
      have ht1 := s1 _ _ ht
      have hL75 : H' L = some (.lst ((foundR d pl k 75).map V.int)) := hL
      have len600 : (foundR d pl k 75).length = 600 := foundR_len hm k 75
      refine ⟨_, rfl, t, _, 0, _, rfl, rfl, st_of ht1, plate_at hl (by decide) (by decide), _, _, rfl, _, _, rfl, ?_⟩
      have e : (if (if (600 : Int) < (pl (d.ff + k)).getD (Int.toNat 0) 0 then (600 : Int) else (pl (d.ff + k)).getD (Int.toNat 0) 0) > 0 then (if (600 : Int) < (pl (d.ff + k)).getD (Int.toNat 0) 0 then (600 : Int) else (pl (d.ff + k)).getD (Int.toNat 0) 0) else 0) = sizeR d pl k := by
        unfold sizeR cell
        generalize (pl (d.ff + k)).getD (Int.toNat 0) 0 = z
        split <;> split <;> omega
      rw [e]
      obtain ⟨z0, z1⟩ := size_in d pl k
      refine ⟨_, rfl, _, rfl, _, rfl, h, sh, d, pl, k, rfl, hm.same s1, ⟨k0, k1⟩, ?_⟩
      refine ⟨_, rfl, rfl, false, by simp, iteF ?_⟩
      refine ⟨_, rfl, _, rfl, _, rfl, h, sh, d, pl, k, rfl, hm.same s1, ⟨k0, k1⟩, fun H2 p s2 np hp => ?_⟩
      have hL2 := s2 _ _ hL75
      refine ⟨_, rfl, _, rfl, _, rfl, L, _, rfl, sl_of hL2, fun r nr => ⟨r, _, rfl, .inl ⟨sl_of upd_same, fun p2 np2 => ?_⟩⟩⟩
      have s3 := same_upd (o := .lst (cutV ((foundR d pl k 75).map V.int) none (some (sizeR d pl k)))) nr
      have s4 := same_upd (o := .tup (cutV ((foundR d pl k 75).map V.int) none (some (sizeR d pl k)))) np2
      have ecut : cutV ((foundR d pl k 75).map V.int) none (some (sizeR d pl k)) = ((List.range (sizeR d pl k).toNat).map fun a : Nat => numR d pl k a).map V.int := by
        rw [found_take hm k (by omega), List.map_take]
        unfold cutV
        have e2 : (some (sizeR d pl k) : Option Int) = some (((sizeR d pl k).toNat : Nat) : Int) := by rw [Int.toNat_of_nonneg z0]
        rw [e2, HT.sIx_nat, HT.sIx_none, List.drop_zero, List.length_map, len600]
        congr 1
        omega
      refine ⟨dT ((List.range (sizeR d pl k).toNat).map fun a : Nat => numR d pl k a), dT ((List.range (sizeR d pl k).toNat).map fun a : Nat => numR d pl k a), dpT (s4 _ _ (s3 _ _ hp)), dpT (by rw [upd_same, ecut]), shT _, shT _, ?_⟩
      rw [eqv_same (shT _)]
      refine ⟨false, rfl, iteF ?_⟩
      have s5 := ((s1.trans s2).trans s3).trans s4
      have hL5 := s4 _ _ (s3 _ _ hL2)
      generalize upd (upd H2 r (.lst (cutV ((foundR d pl k 75).map V.int) none (some (sizeR d pl k))))) p2 (.tup (cutV ((foundR d pl k 75).map V.int) none (some (sizeR d pl k)))) = H5 at s5 hL5
      refine ⟨_, rfl, _, rfl, _, rfl, h, sh, d, pl, k, 600, rfl, hm.same s5, ⟨k0, k1⟩, Nat.le_refl _, fun H6 p6 s6 np6 hp6 => ?_⟩
      refine ⟨_, rfl, L, _, rfl, .inl ⟨sl_of (s6 _ _ hL5), fun p7 np7 => ?_⟩⟩
      have s7 := same_upd (o := .tup ((foundR d pl k 75).map V.int)) np7
      have eall : (List.range 600).map (fun a : Nat => numR d pl k (a : Int)) = foundR d pl k 75 := by
        rw [found_take hm k (Nat.le_refl _), List.take_of_length_le (by omega)]
      rw [eall] at hp6
      refine ⟨dT (foundR d pl k 75), dT (foundR d pl k 75), dpT (s7 _ _ hp6), dpT upd_same, shT _, shT _, ?_⟩
      rw [eqv_same (shT _)]
      have s8 := (s5.trans s6).trans s7
      refine ⟨true, rfl, iteT ⟨_, rfl, _, rfl, _, rfl, h, sh, d, pl, k, rfl, hm.same s8, ⟨k0, k1⟩, _, rfl, sh, C, dx, _, _, rfl, s8 _ _ hs, T.cS, T.na, sf_users d, _, rfl, fun p8 np8 => ⟨_, p8, 0, _, rfl, rfl, upd_same, ?_⟩⟩⟩
      have ow : 0 ≤ ownerR d pl k ∧ ownerR d pl k < d.U := by
        have hU := hm.o.2.2.2.2
        unfold ownerR
        split
        · assumption
        · omega
      rw [decide_eq_true ow]
      exact q _ (s8.trans (same_upd np8))
end
end K70
namespace K70
open PySem PySem.Spec PyProof.Rows L2
theorem metAll_more (d : Dim) (pl : Int → List Int) {l : List (Int × Nat)} {i : Nat} {a : Int × Nat} (h : l[i]? = some a) : metAll d pl (l.take (i + 1)) = metAll d pl (l.take i) ++ metR d pl a.2 a.1 := by
  rw [List.take_succ, h]
  unfold metAll
  show List.flatMap _ (List.take i l ++ [a]) = _
  rw [List.flatMap_append, List.flatMap_singleton]
theorem ptrs_lvl {d : Dim} {pl : Int → List Int} {k : Int} {i : Nat} {a : Int × Nat} (h : (ptrs d pl k)[i]? = some a) : a.2 ≤ 2 := by
  have hmem := List.mem_of_getElem? h
  unfold ptrs at hmem
  simp only [List.mem_cons, List.not_mem_nil, or_false] at hmem
  rcases hmem with rfl | rfl | rfl | rfl | rfl <;> first | exact Nat.zero_le _ | exact Nat.le_succ _ | exact Nat.le_refl _
theorem metAll_le {H : Hp} {C h sh : Addr} {d : Dim} {pl : Int → List Int} (hm : Hm C H h sh d pl) (k : Int) : ∀ i : Nat, i ≤ 5 → (metAll d pl ((ptrs d pl k).take i)).length ≤ 73 * i
  | 0, _ => Nat.zero_le _
  | i + 1, hi => by
    have hlt : i < (ptrs d pl k).length := by show i < 5; omega
    have ha : (ptrs d pl k)[i]? = some (ptrs d pl k)[i] := List.getElem?_eq_getElem hlt
    have ih := metAll_le hm k i (by omega)
    have e1 := met_len hm.o hm.len (ptrs d pl k)[i].2 (ptrs d pl k)[i].1
    have e2 := mbound_le (ptrs_lvl ha)
    rw [metAll_more d pl ha, List.length_append]
    omega
def lens (g : Int → List Int) (l : List Int) : List Int := l.map fun x => ((g x).length : Int)
theorem lens_sum (g : Int → List Int) : ∀ l : List Int, (lens g l).sum = ((l.flatMap g).length : Int)
  | [] => rfl
  | x :: r => by
    have ih := lens_sum g r
    unfold lens at ih ⊢
    rw [List.map_cons, List.sum_cons, ih, List.flatMap_cons, List.length_append]
    omega
section
variable {P : Program} {w : World} {K : PySem.W.Frag} {mg : Str → Option Value} {base : Heap} {C : Addr}
theorem scAreMet : FnScope ["_law_home", "_law_shape", "_law_file", "_law_found", "_law_pointer", "_law_level", "_law_block", "_law_more", "_law_one"] ["_law_home", "_law_shape", "_law_file"] (defScope sLawAreMet) := ⟨rfl, rfl, rfl, by decide +kernel, rfl, by decide +kernel, by decide +kernel⟩
theorem ok_are_met (F : At K mg "_law_are_met" sLawAreMet) (T : Txt K mg C) (h1 : HasM P w K mg base CX0 1 C "block_plate" ["self", "block"] (spBlockPlate C)) (h2 : Has P w K mg base CX0 2 "pointers_at" ["home", "shape", "file"] (spPointersAt C))
    (h3 : Has P w K mg base CX0 4 "met_below" ["home", "shape", "pointer", "level"] (spMetBelow C)) (h4 : Has P w K mg base CX0 1 "block_of" ["shape", "pointer"] (spBlockOf C)) (h5 : Has P w K mg base CX0 5 "met" ["home", "shape", "file"] (spMet C)) :
    Has P w K mg base CX0 6 "_law_are_met" ["_law_home", "_law_shape", "_law_file"] (spFileTrue C) := by
  obtain ⟨f, fd, F, m⟩ := F.ex
  obtain ⟨f1, fd1, G_block_plate, M_block_plate, b_block_plate⟩ := h1.ex
  obtain ⟨f2, fd2, G_pointers_at, m_pointers_at, k_pointers_at, b_pointers_at⟩ := h2.ex
  obtain ⟨f3, fd3, G_met_below, m_met_below, k_met_below, b_met_below⟩ := h3.ex
  obtain ⟨f4, fd4, G_block_of, m_block_of, k_block_of, b_block_of⟩ := h4.ex
  obtain ⟨f5, fd5, G_met, m_met, k_met, b_met⟩ := h5.ex
  refine ⟨f, fd, F.ok scAreMet (fun vs H Q E h => ?_) (fun cdv A outer s H vs Q E hr h => ?_), m, F.kp, F.binds fun _ _ _ _ _ _ us hl => match us, hl with | [_, _, _], _ => rfl⟩
  · obtain ⟨h, sh, d, pl, k, rfl, _⟩ := h
    rfl
  · obtain ⟨h, sh, d, pl, k, rfl, hm, ⟨k0, k1⟩, q⟩ := h
    refine ⟨_, ((pss_cons (ps_set (i := 3) scAreMet.nd rfl (Or.inl rfl) (pe_lst pa_nil))
  (pss_cons (ps_for PassesOwn.never rfl (pi_list (pe_call G_pointers_at (hr.mono (by first | decide | omega)) rfl m_pointers_at k_pointers_at b_pointers_at .nil pass0 (pa_cons (pv 0) (pa_cons (pv 1) (pa_cons (pv 2) pa_nil))))) (pg_tup (by rfl) (pgs_cons (pg_name (i := 4) scAreMet.nd rfl (Or.inl rfl)) (pgs_cons (pg_name (i := 5) scAreMet.nd rfl (Or.inr rfl)) pgs_nil)))
  (pss_cons (ps_aug (i := 3) scAreMet.nd rfl (Or.inl rfl) (pe_call G_met_below (hr.mono (by first | decide | omega)) rfl m_met_below k_met_below b_met_below .nil pass0 (pa_cons (pv 0) (pa_cons (pv 1) (pa_cons (pv 4) (pa_cons (pv 5) pa_nil))))) ip_ext)
  (pss_cons (ps_set (i := 6) scAreMet.nd rfl (Or.inl rfl) (pe_call G_block_of (hr.mono (by first | decide | omega)) rfl m_block_of k_block_of b_block_of .nil pass0 (pa_cons (pv 1) (pa_cons (pv 4) pa_nil))))
  (pss_cons (ps_set (i := 7) scAreMet.nd rfl (Or.inl rfl) (pe_ifExp (pt_cmpR op_isN (pv 6) pe_non (nomark _)) pe_int pe_int))
  (pss_cons (ps_if (PW.pt (pw_and (pt_cmpR op_notN (pv 6) pe_non (nomark _)) (pw_and1 (pt_cmpR op_gt (pv 5) pe_int (nomark _)))))
  (pss_one (ps_aug (i := 7) scAreMet.nd rfl (Or.inl rfl) (pe_callB (cr_sum rfl) (by rfl) T.zsum (by decide +kernel) (pa_cons (pe_lc (own := [("_law_one", 8)]) (g := gName 8) (tt := tYes) (te := tCB (fun xs H Q => ∃ p ys, xs = [V.ref p] ∧ (SqL K H p ys ∨ SqT K H p ys) ∧ Q (.int ys.length) H) (tCons (tCall (spMetBelow C) [] E0 (tCons (tVar 0) (tCons (tVar 1) (tCons (tVar 8) (tCons (tOp (rI0 fun i j => V.int (i - j)) (tVar 5) (tC (.int 1))) tNil))))) tNil)) rfl scAreMet.nd (pi_tup (pe_dget (hu_of hr) (pv 0) (pe_meth (pv 1) T.cS M_block_plate G_block_plate (hr.mono (by first | decide | omega)) b_block_plate .nil pass0 (pa_cons (pv 6) pa_nil)) (fun _ _ => rfl))) (blkOk_by (own := [("_law_one", 8)]) (N := ["_law_home", "_law_shape", "_law_file", "_law_found", "_law_pointer", "_law_level", "_law_block", "_law_more", "_law_one"]) (sc := defScope sLawAreMet) (by decide +kernel)) (fun _ _ _ _ _ => (pg_name (i := 8) scAreMet.nd rfl (Or.inl rfl))) (fun _ _ _ _ _ => pts_nil) (fun _ _ _ _ _ => (pe_callB call_len_seq (by rfl) T.zlen (by decide +kernel) (pa_cons (pe_call G_met_below (hr.mono (by first | decide | omega)) rfl m_met_below k_met_below b_met_below .nil pass0 (pa_cons (pv 0) (pa_cons (pv 1) (pa_cons (pv 8) (pa_cons (pe_op op_sub (pv 5) pe_int) pa_nil))))) pa_nil)))) pa_nil)) ip_add))
  pss_nil)
  (pss_one (ps_if (pt_cmpR op_ne (pe_callB call_len_seq (by rfl) T.zlen (by decide +kernel) (pa_cons (pe_call G_met_below (hr.mono (by first | decide | omega)) rfl m_met_below k_met_below b_met_below .nil pass0 (pa_cons (pv 0) (pa_cons (pv 1) (pa_cons (pv 4) (pa_cons (pv 5) pa_nil))))) pa_nil)) (pv 7) (nomark _))
  (pss_one (ps_ret pe_bl))
  pss_nil)))))))
  (pss_one (ps_ret (pe_cmpR (op_eqD hr.units) (pv 3) (pe_call G_met (hr.mono (by first | decide | omega)) rfl m_met k_met b_met .nil pass0 (pa_cons (pv 0) (pa_cons (pv 1) (pa_cons (pv 2) pa_nil)))) (nomark _))))))), ?_⟩
    obtain ⟨dx, hs⟩ := hm.shape
    refine ⟨Nat.zero_le _, fun L nL => ?_⟩
    have s0 : Same H (upd H L (.lst [])) := same_upd nL
    refine ⟨_, rfl, _, rfl, _, rfl, h, sh, d, pl, k, rfl, hm.same s0, ⟨k0, k1⟩, fun H1 pq s1 hpt => ?_⟩
    obtain ⟨ts, hp, lt, hts⟩ := hpt
    have s01 := s0.trans s1
    refine ⟨pq, rfl, ⟨_, sl_of hp⟩, for_list (K := K) (a := pq) (xs := ts.map V.ref) (fun i σ H' => ∃ x4 x5 x6 x7 : Option V, σ = [some (.ref h), some (.ref sh), some (.int k), some (.ref L), x4, x5, x6, x7, none] ∧ Same H H' ∧ H' pq = some (.lst (ts.map V.ref)) ∧ (∀ (i : Nat) (t : Addr) (a : Int × Nat), ts[i]? = some t → (ptrs d pl k)[i]? = some a → H' t = some (.tup [.int a.1, .int (a.2 : Int)])) ∧ H' L = some (.lst ((metAll d pl ((ptrs d pl k).take i)).map V.int)))
      ⟨none, none, none, none, rfl, s01, hp, hts, s1 _ _ upd_same⟩ (fun i σ H' _ ⟨_, _, _, _, _, _, e, _⟩ => sl_of e) ?_ ?_⟩
    · rintro i y σ H' hi ⟨x4, x5, x6, x7, rfl, s2, hq, hq2, hL⟩
      obtain ⟨t, ht, rfl⟩ : ∃ t, ts[i]? = some t ∧ y = V.ref t := by
        rw [List.getElem?_map] at hi
        cases q1 : ts[i]? with
        | none => rw [q1] at hi; cases hi
        | some t => rw [q1] at hi; exact ⟨t, rfl, (Option.some.inj hi).symm⟩
      have hi5 : i < (ptrs d pl k).length := by
        have := (List.getElem?_eq_some_iff.mp ht).1
        omega
      have hi5' : i < 5 := hi5
      obtain ⟨a, ha⟩ : ∃ a, (ptrs d pl k)[i]? = some a := ⟨_, List.getElem?_eq_getElem hi5⟩
      have hta := hq2 i t a ht ha
      have a2 := ptrs_lvl ha
      have hle := metAll_le hm k i (by omega)
      have lm := met_len hm.o hm.len a.2 a.1
      have lb := mbound_le a2
      have more := metAll_more d pl ha
      refine ⟨t, _, rfl, st_of hta, rfl, _, _, rfl, _, _, rfl, rfl, ?_⟩
      refine ⟨_, rfl, _, rfl, _, rfl, _, rfl, _, rfl, a.2, a2, h, sh, d, pl, a.1, rfl, hm.same s2, fun H3 r s3 nr hr' => ?_⟩
      have hL3 := s3 _ _ hL
      refine ⟨L, r, _, _, rfl, rfl, hL3, hr', (by rw [List.length_map, List.length_map, sizeLine_eq]; omega), ?_⟩
      have s23 := s2.trans s3
      have sL : Same H (upd H3 L (.lst ((metAll d pl ((ptrs d pl k).take i)).map V.int ++ (metR d pl a.2 a.1).map V.int))) := same_mut s23 nL
      have nLq : pq ≠ L := fun z => by
        have e1 := s1 _ _ (upd_same (H := H) (a := L) (o := .lst []))
        rw [← z, hp] at e1
        cases ts with
        | nil => cases lt
        | cons _ _ => cases e1
      have hq4 : upd H3 L (.lst ((metAll d pl ((ptrs d pl k).take i)).map V.int ++ (metR d pl a.2 a.1).map V.int)) pq = some (.lst (ts.map V.ref)) := by
        rw [upd_ne nLq]
        exact s3 _ _ hq
      have hq24 : ∀ (i' : Nat) (t : Addr) (b : Int × Nat), ts[i']? = some t → (ptrs d pl k)[i']? = some b → upd H3 L (.lst ((metAll d pl ((ptrs d pl k).take i)).map V.int ++ (metR d pl a.2 a.1).map V.int)) t = some (.tup [.int b.1, .int (b.2 : Int)]) := fun i' t b e1 e2 => tup_stay hL3 (s3 _ _ (hq2 i' t b e1 e2))
      have hL4 : upd H3 L (.lst ((metAll d pl ((ptrs d pl k).take i)).map V.int ++ (metR d pl a.2 a.1).map V.int)) L = some (.lst ((metAll d pl ((ptrs d pl k).take (i + 1))).map V.int)) := by
        rw [upd_same, more, List.map_append]
      generalize upd H3 L (.lst ((metAll d pl ((ptrs d pl k).take i)).map V.int ++ (metR d pl a.2 a.1).map V.int)) = H4 at sL hq4 hq24 hL4
      -- the end of a turn
      have fin : ∀ (H5 : Hp), Same H4 H5 → ∃ x4 x5 x6 x7 : Option V, [some (V.ref h), some (.ref sh), some (.int k), some (.ref L), some (.int a.1), some (.int (a.2 : Int)), some (blkR d.B a.1), some (V.int ((metR d pl a.2 a.1).length : Int)), none] = [some (V.ref h), some (.ref sh), some (.int k), some (.ref L), x4, x5, x6, x7, none] ∧ Same H H5 ∧ H5 pq = some (.lst (ts.map V.ref)) ∧
          (∀ (i : Nat) (t : Addr) (a : Int × Nat), ts[i]? = some t → (ptrs d pl k)[i]? = some a → H5 t = some (.tup [.int a.1, .int (a.2 : Int)])) ∧ H5 L = some (.lst ((metAll d pl ((ptrs d pl k).take (i + 1))).map V.int)) :=
        fun H5 s5 => ⟨_, _, _, _, rfl, sL.trans s5, s5 _ _ hq4, fun i' t b e1 e2 => s5 _ _ (hq24 i' t b e1 e2), s5 _ _ hL4⟩
      refine ⟨_, rfl, _, rfl, sh, d, a.1, rfl, hm.shape.same sL, ?_⟩
      have hmR : a.2 = 0 ∨ ∃ n, a.2 = n + 1 := by cases a.2 with | zero => exact .inl rfl | succ n => exact .inr ⟨n, rfl⟩
      by_cases c : 1 ≤ a.1 ∧ a.1 ≤ d.B
      · have eb : blkR d.B a.1 = .int (a.1 - 1) := by unfold blkR; rw [if_pos c]
        rw [eb] at fin ⊢
        refine ⟨_, rfl, rfl, false, rfl, iteF ?_⟩
        refine ⟨_, rfl, rfl, true, rfl, iteT ⟨_, rfl, _, _, rfl, rfl, _, rfl, ?_⟩⟩
        rcases hmR with e0 | ⟨n, e0⟩
        · have z : ¬ (0 : Int) < (a.2 : Int) := by omega
          have em : metR d pl a.2 a.1 = [a.1 - 1] := by rw [e0]; unfold metR; rw [if_pos c]
          rw [decide_eq_false z]
          refine iteF ?_
          rw [em] at fin
          refine ⟨_, rfl, _, rfl, _, rfl, _, rfl, a.2, a2, h, sh, d, pl, a.1, rfl, hm.same sL, fun H5 r5 s5 nr5 hr5 => ⟨r5, _, rfl, .inl (sl_of hr5), _, rfl, rfl, false, ?_, iteF ?_⟩⟩
          · rw [em]; rfl
          · exact fin H5 s5
        · have z : (0 : Int) < (a.2 : Int) := by omega
          have em : metR d pl a.2 a.1 = (a.1 - 1) :: (pl (d.fb + (a.1 - 1))).flatMap (metR d pl n) := by rw [e0]; show (if 1 ≤ a.1 ∧ a.1 ≤ d.B then _ else _) = _; rw [if_pos c]
          rw [decide_eq_true z]
          obtain ⟨q0, q1⟩ := block_place hm.o (k := a.1 - 1) (by omega) (by omega)
          obtain ⟨t2, g2, ht2, l8⟩ := (hm.home.same sL).get q0 q1
          have hs4 := sL _ _ hs
          refine iteT ⟨_, rfl, _, rfl, _, rfl, sh, dx, _, rfl, hs4, (sf_none d).2.2.2.2.2.2, _, rfl, sh, d, _, rfl, hm.shape.same sL, h, _, rfl, g2, t2, rfl, ⟨_, st_of ht2⟩, fun D nD => ?_⟩
          refine lc_tup (K := K) (a := t2) (xs := (pl (d.fb + (a.1 - 1))).map V.int) (fun j H' => Same H4 H' ∧ H' D = some (.lst ((lens (metR d pl n) ((pl (d.fb + (a.1 - 1))).take j)).map V.int))) ⟨same_upd nD, upd_same⟩ (fun j H' _ ⟨s5, _⟩ => st_of (s5 _ _ ht2)) ?_ ?_
          · rintro j x H5 hj ⟨s5, hD⟩
            obtain ⟨jj, hjj, rfl⟩ : ∃ jj, (pl (d.fb + (a.1 - 1)))[j]? = some jj ∧ x = V.int jj := by
              rw [List.getElem?_map] at hj
              cases q1 : (pl (d.fb + (a.1 - 1)))[j]? with
              | none => rw [q1] at hj; cases hj
              | some jj => rw [q1] at hj; exact ⟨jj, rfl, (Option.some.inj hj).symm⟩
            have lv : ((a.2 : Int) - 1) = (n : Int) := by omega
            refine ⟨rfl, _, rfl, _, rfl, _, rfl, _, rfl, _, _, rfl, rfl, n, by omega, h, sh, d, pl, jj, ?_, hm.same (sL.trans s5), fun H6 r6 s6 nr6 hr6 => ⟨r6, _, rfl, .inl (sl_of hr6), _, s6 _ _ hD, ?_, same_mut (s5.trans s6) nD, ?_⟩⟩
            · show [V.ref h, V.ref sh, V.int jj, V.int ((a.2 : Int) - 1)] = [V.ref h, V.ref sh, V.int jj, V.int (n : Int)]
              rw [lv]
            · unfold lens
              rw [List.length_map, List.length_map, List.length_take, sizeLine_eq]
              omega
            · rw [upd_same, List.take_succ, hjj]
              unfold lens
              rw [List.map_append, List.map_append, List.length_map]
              rfl
          · rintro H5 ⟨s5, hD⟩
            rw [List.length_map, List.take_length] at hD
            refine ⟨D, _, rfl, sl_of hD, _, _, rfl, rfl, ?_⟩
            have el : (1 : Int) + (lens (metR d pl n) (pl (d.fb + (a.1 - 1)))).sum = ((metR d pl a.2 a.1).length : Int) := by
              rw [lens_sum, em, List.length_cons]
              omega
            rw [← el] at fin
            refine ⟨_, rfl, _, rfl, _, rfl, _, rfl, a.2, a2, h, sh, d, pl, a.1, rfl, hm.same (sL.trans s5), fun H6 r6 s6 nr6 hr6 => ⟨r6, _, rfl, .inl (sl_of hr6), _, rfl, rfl, false, ?_, iteF ?_⟩⟩
            · have ee : V.int (((metR d pl a.2 a.1).map V.int).length : Int) = V.int (1 + (lens (metR d pl n) (pl (d.fb + (a.1 - 1)))).sum) := by rw [List.length_map, el]
              exact (by rw [decide_eq_true ee]; rfl : V.bl (!decide (V.int (((metR d pl a.2 a.1).map V.int).length : Int) = V.int (1 + (lens (metR d pl n) (pl (d.fb + (a.1 - 1)))).sum))) = V.bl false)
            · exact fin H6 (s5.trans s6)
      · have eb : blkR d.B a.1 = .non := by unfold blkR; rw [if_neg c]
        have em : metR d pl a.2 a.1 = [] := by
          rcases hmR with e0 | ⟨n, e0⟩
          · rw [e0]; unfold metR; rw [if_neg c]
          · rw [e0]; unfold metR; rw [if_neg c]
        rw [eb] at fin ⊢
        refine ⟨_, rfl, rfl, true, rfl, iteT ?_⟩
        refine ⟨_, rfl, rfl, false, rfl, iteF ?_⟩
        rw [em] at fin
        refine ⟨_, rfl, _, rfl, _, rfl, _, rfl, a.2, a2, h, sh, d, pl, a.1, rfl, hm.same sL, fun H5 r5 s5 nr5 hr5 => ⟨r5, _, rfl, .inl (sl_of hr5), _, rfl, rfl, false, ?_, iteF ?_⟩⟩
        · rw [em]; rfl
        · exact fin H5 s5
    · rintro σ H' ⟨x4, x5, x6, x7, rfl, s2, hq, hq2, hL⟩
      have e6 : (ptrs d pl k).take (ts.map V.ref).length = ptrs d pl k := by rw [List.length_map, lt, List.take_length]
      rw [e6] at hL
      refine ⟨_, rfl, _, rfl, _, rfl, _, rfl, h, sh, d, pl, k, rfl, hm.same s2, ⟨k0, k1⟩, fun H2 r s3 nr hr' => ?_⟩
      refine ⟨dL (metAll d pl (ptrs d pl k)), dL (metAll d pl (ptrs d pl k)), dpL (s3 _ _ hL), dpL hr', shL _, shL _, ?_⟩
      rw [eqv_same (shL _)]
      exact q H2 (s2.trans s3)
end
end K70
namespace K70
open PySem PySem.Spec PyProof.Rows L2
section
variable {P : Program} {w : World} {K : PySem.W.Frag} {mg : Str → Option Value} {base : Heap} {C : Addr}
def spNames (C : Addr) : Sp := fun vs H Q _ => ∃ (h sh : Addr) (d : Dim) (pl : Int → List Int), vs = [.ref h, .ref sh] ∧ Hm C H h sh d pl ∧ RetV H (.bl true) Q
theorem scAreNames : FnScope ["_law_home", "_law_shape", "_law_number_here", "_law_files", "_law_value", "_law_told", "_law_plate", "_law_place"] ["_law_home", "_law_shape"] (defScope sLawAreNames) := ⟨rfl, rfl, rfl, by decide +kernel, rfl, by decide +kernel, by decide +kernel⟩
theorem ok_are_names (F : At K mg "_law_are_names" sLawAreNames) (T : Txt K mg C) (h1 : HasM P w K mg base CX0 1 C "dir_cell" ["self", "number"] (spDirCell C)) (h2 : HasM P w K mg base CX0 1 C "row_cell" ["self", "number"] (spRowCell C)) (h3 : Has P w K mg base CX0 2 "dir_at" ["home", "shape", "number"] (spDirAt C))
    (h4 : Has P w K mg base CX0 2 "row_at" ["home", "shape", "number"] (spRowAt C)) (h5 : Has P w K mg base CX0 3 "is_dir" ["home", "shape", "number"] (spIsDir C)) (h6 : Has P w K mg base CX0 4 "named_files" ["home", "shape"] (spNamedFiles C)) :
    Has P w K mg base CX0 5 "_law_are_names" ["_law_home", "_law_shape"] (spNames C) := by
  obtain ⟨f, fd, F, m⟩ := F.ex
  obtain ⟨f1, fd1, G_dir_cell, M_dir_cell, b_dir_cell⟩ := h1.ex
  obtain ⟨f2, fd2, G_row_cell, M_row_cell, b_row_cell⟩ := h2.ex
  obtain ⟨f3, fd3, G_dir_at, m_dir_at, k_dir_at, b_dir_at⟩ := h3.ex
  obtain ⟨f4, fd4, G_row_at, m_row_at, k_row_at, b_row_at⟩ := h4.ex
  obtain ⟨f5, fd5, G_is_dir, m_is_dir, k_is_dir, b_is_dir⟩ := h5.ex
  obtain ⟨f6, fd6, G_named_files, m_named_files, k_named_files, b_named_files⟩ := h6.ex
  refine ⟨f, fd, F.ok scAreNames (fun vs H Q E h => ?_) (fun cdv A outer s H vs Q E hr h => ?_), m, F.kp, F.binds fun _ _ _ _ _ _ us hl => match us, hl with | [_, _], _ => rfl⟩
  · obtain ⟨h, sh, d, pl, rfl, _⟩ := h
    rfl
  · obtain ⟨h, sh, d, pl, rfl, hm, q⟩ := h
    refine ⟨_, ((pss_cons (ps_for PassesOwn.never rfl (pi_range2 rfl T.zrange (pa_cons pe_int (pa_cons (pe_fld (pv 1) rfl) pa_nil))) (pg_name (i := 2) scAreNames.nd rfl (Or.inl rfl))
  (pss_cons (ps_asg (pe_meth (pv 1) T.cS M_dir_cell G_dir_cell (hr.mono (by first | decide | omega)) b_dir_cell .nil pass0 (pa_cons (pv 2) pa_nil)) (pg_tup (by rfl) (pgs_cons (pg_name (i := 6) scAreNames.nd rfl (Or.inl rfl)) (pgs_cons (pg_name (i := 7) scAreNames.nd rfl (Or.inl rfl)) pgs_nil))))
  (pss_cons (ps_set (i := 4) scAreNames.nd rfl (Or.inl rfl) (pe_ix ix_tup (pe_dget (hu_of hr) (pv 0) (pv 6) (fun _ _ => rfl)) (pv 7) (fun _ _ => rfl)))
  (pss_cons (ps_set (i := 5) scAreNames.nd rfl (Or.inl rfl) (pe_call G_dir_at (hr.mono (by first | decide | omega)) rfl m_dir_at k_dir_at b_dir_at .nil pass0 (pa_cons (pv 0) (pa_cons (pv 1) (pa_cons (pv 2) pa_nil)))))
  (pss_cons (ps_if (PW.pt (pw_or (pt_cmpR op_ne (pe_cmpR op_isN (pv 5) pe_non (nomark _)) (pe_cmpR op_lt (pv 4) pe_int (nomark _)) (nomark _)) (pw_or1 (pt_cmpR op_ne (pe_call G_is_dir (hr.mono (by first | decide | omega)) rfl m_is_dir k_is_dir b_is_dir .nil pass0 (pa_cons (pv 0) (pa_cons (pv 1) (pa_cons (pv 2) pa_nil)))) (pe_cmpR op_ge (pv 4) pe_int (nomark _)) (nomark _)))))
  (pss_one (ps_ret pe_bl))
  pss_nil)
  (pss_one (ps_if (PW.pt (pw_and (pt_cmpR op_notN (pv 5) pe_non (nomark _)) (pw_and1 (PW.pt (pw_or (pt_cmpR op_ne (pe_op op_add (pe_op op_add (pe_op op_mul (pe_ix ix_tup (pv 5) pe_int (fun _ _ => rfl)) (pe_gi rfl T.gNAMES)) (pe_ix ix_tup (pv 5) pe_int (fun _ _ => rfl))) pe_int) (pv 4) (nomark _)) (pw_or1 (pt_not (pt_chain op_le op_lt pe_int (pe_ix ix_tup (pv 5) pe_int (fun _ _ => rfl)) (pe_gi rfl T.gNAMES)))))))))
  (pss_one (ps_ret pe_bl))
  pss_nil)))))))
  (pss_cons (ps_set (i := 3) scAreNames.nd rfl (Or.inl rfl) pe_dnewK)
  (pss_cons (ps_for PassesOwn.never rfl (pi_range1 rfl T.zrange (pa_cons (pe_fld (pv 1) rfl) pa_nil)) (pg_name (i := 2) scAreNames.nd rfl (Or.inl rfl))
  (pss_cons (ps_asg (pe_tup (pa_cons (pe_call G_row_at (hr.mono (by first | decide | omega)) rfl m_row_at k_row_at b_row_at .nil pass0 (pa_cons (pv 0) (pa_cons (pv 1) (pa_cons (pv 2) pa_nil)))) (pa_cons (pe_meth (pv 1) T.cS M_row_cell G_row_cell (hr.mono (by first | decide | omega)) b_row_cell .nil pass0 (pa_cons (pv 2) pa_nil)) pa_nil))) (pg_tup (by rfl) (pgs_cons (pg_name (i := 5) scAreNames.nd rfl (Or.inl rfl)) (pgs_cons (pg_tup (by rfl) (pgs_cons (pg_name (i := 6) scAreNames.nd rfl (Or.inl rfl)) (pgs_cons (pg_name (i := 7) scAreNames.nd rfl (Or.inl rfl)) pgs_nil))) pgs_nil))))
  (pss_cons (ps_if (pt_cmpR op_ne (pe_cmpR op_isN (pv 5) pe_non (nomark _)) (pe_cmpR op_lt (pe_ix ix_tup (pe_dget (hu_of hr) (pv 0) (pv 6) (fun _ _ => rfl)) (pv 7) (fun _ _ => rfl)) pe_int (nomark _)) (nomark _))
  (pss_one (ps_ret pe_bl))
  pss_nil)
  (pss_one (ps_if (pt_cmpR op_notN (pv 5) pe_non (nomark _))
  (pss_cons (ps_dput (hu_of hr) (pv 3) (pe_ix ix_tup (pv 5) pe_int (fun _ _ => rfl)) pe_bl rfl)
  (pss_one (ps_if (pt_cmpR op_ne (pe_op op_add (pe_op op_add pe_int (pe_op op_mul (pe_op op_add (pe_op op_mul (pe_ix ix_tup (pv 5) pe_int (fun _ _ => rfl)) (pe_gi rfl T.gNAMES)) (pe_ix ix_tup (pv 5) pe_int (fun _ _ => rfl))) (pe_fld (pv 1) rfl))) (pe_ix ix_tup (pv 5) pe_int (fun _ _ => rfl))) (pe_ix ix_tup (pe_dget (hu_of hr) (pv 0) (pv 6) (fun _ _ => rfl)) (pv 7) (fun _ _ => rfl)) (nomark _))
  (pss_one (ps_ret pe_bl))
  pss_nil)))
  pss_nil)))))
  (pss_one (ps_ret (pe_cmpR (op_eqD hr.units) (pe_call G_named_files (hr.mono (by first | decide | omega)) rfl m_named_files k_named_files b_named_files .nil pass0 (pa_cons (pv 0) (pa_cons (pv 1) pa_nil))) (pe_callB (call_sortedDI rfl) (by rfl) T.zsorted (by decide +kernel) (pa_cons (pv 3) pa_nil)) (nomark _)))))))), ?_⟩
    obtain ⟨dx, hs⟩ := hm.shape
    obtain ⟨⟨dD1, dD2⟩, ⟨dR1, dR2⟩, ⟨dF1, dF2⟩, _, _⟩ := hm.o
    refine ⟨_, rfl, sh, C, dx, _, _, rfl, hs, T.cS, T.na, sf_dirs d, _, _, rfl, ⟨by decide, by decide, by omega, by omega⟩, ?_⟩
    refine for_range (lo := 2) (n := (d.D - 2).toNat) (fun i σ H' => ∃ (x2 x4 x5 x6 x7 : Option V), σ = [some (.ref h), some (.ref sh), x2, none, x4, x5, x6, x7] ∧ Same H H') ⟨none, none, none, none, none, rfl, Same.refl H⟩ ?_ ?_
    · rintro i σ H' hi ⟨x2, x4, x5, x6, x7, rfl, s1⟩
      have hk : 2 ≤ (2 : Int) + (i : Nat) ∧ (2 : Int) + (i : Nat) < d.D := by omega
      generalize (2 : Int) + (i : Nat) = k at hk ⊢
      obtain ⟨k2, kD⟩ := hk
      refine ⟨_, rfl, sh, dx, _, rfl, s1 _ _ hs, (sf_none d).2.2.1, _, rfl, sh, k, rfl, fun H1 p s2 np hp => ?_⟩
      refine ⟨p, _, rfl, st_of hp, rfl, _, _, rfl, _, _, rfl, rfl, ?_⟩
      have s12 := s1.trans s2
      obtain ⟨pa, pb⟩ := dir_place hm.o (k := k) (by omega) kD
      obtain ⟨t, g, ht, hl⟩ := (hm.home.same s12).get pa.1 pa.2
      refine ⟨_, rfl, _, rfl, h, _, rfl, g, _, rfl, t, _, _, _, rfl, rfl, st_of ht, plate_at hl pb.1 pb.2, ?_⟩
      have e0 : (pl (1 + k / 8)).getD (k % 8).toNat 0 = dirV pl k := rfl
      rw [e0]
      refine ⟨_, rfl, _, rfl, _, rfl, h, sh, d, pl, k, rfl, hm.same s12, ⟨by omega, kD⟩, fun H2 s3 => ?_⟩
      have s13 := s12.trans s3
      refine ⟨fun e => ?_, fun l u e nu hu => ?_⟩
      · have z : dirV pl k < 1 := by
          unfold dirR at e
          split at e
          · omega
          · cases e
        refine ⟨_, rfl, rfl, _, rfl, _, _, rfl, rfl, rfl, false, ?_, iteF ?_⟩
        · have q1 : V.bl (!decide (V.bl true = V.bl (decide (dirV pl k < 1)))) = V.bl false := by rw [decide_eq_true z]; rfl
          exact q1
        refine ⟨_, rfl, _, rfl, _, rfl, h, sh, d, pl, k, rfl, hm.same s13, ⟨k2, kD⟩, fun H3 s4 => ⟨_, rfl, _, _, rfl, rfl, rfl, false, ?_, iteF ?_⟩⟩
        · have q1 : V.bl (!decide (V.bl (decide (1 ≤ dirV pl k)) = V.bl (decide (1 ≤ dirV pl k)))) = V.bl false := by rw [decide_eq_true rfl]; rfl
          exact q1
        refine ⟨_, rfl, rfl, false, rfl, iteF ⟨_, _, _, _, _, rfl, s13.trans s4⟩⟩
      · have z : ¬ dirV pl k < 1 := fun z => by
          unfold dirR at e
          rw [if_pos (.inr (by omega))] at e
          cases e
        have el : l = [(dirV pl k - 1) / NM, (dirV pl k - 1) % NM] := by
          unfold dirR at e
          rw [if_neg (by omega)] at e
          exact (Option.some.inj e).symm
        rw [el] at hu
        refine ⟨_, rfl, rfl, _, rfl, _, _, rfl, rfl, rfl, false, ?_, iteF ?_⟩
        · have q1 : V.bl (!decide (V.bl false = V.bl (decide (dirV pl k < 1)))) = V.bl false := by rw [decide_eq_false z]; rfl
          exact q1
        refine ⟨_, rfl, _, rfl, _, rfl, h, sh, d, pl, k, rfl, hm.same s13, ⟨k2, kD⟩, fun H3 s4 => ⟨_, rfl, _, _, rfl, rfl, rfl, false, ?_, iteF ?_⟩⟩
        · have q1 : V.bl (!decide (V.bl (decide (1 ≤ dirV pl k)) = V.bl (decide (1 ≤ dirV pl k)))) = V.bl false := by rw [decide_eq_true rfl]; rfl
          exact q1
        have hu4 := s4 _ _ hu
        have m0 : (0 : Int) ≤ (dirV pl k - 1) % NM := Int.emod_nonneg _ (by decide)
        have m1 : (dirV pl k - 1) % NM < NM := Int.emod_lt_of_pos _ (by decide)
        have dm := Int.emod_add_mul_ediv (dirV pl k - 1) NM
        refine ⟨_, rfl, rfl, true, rfl, iteT ?_⟩
        refine ⟨_, rfl, u, _, 0, _, rfl, rfl, st_of hu4, atI_nat (j := 0) rfl, _, _, rfl, rfl, .inr ⟨by decide, by decide⟩, _, rfl, u, _, 1, _, rfl, rfl, st_of hu4, atI_nat (j := 1) rfl, _, _, rfl, rfl, _, _, rfl, rfl, _, rfl, rfl, false, ?_, iteF ?_⟩
        · have ee : V.int ((dirV pl k - 1) / NM * NM + (dirV pl k - 1) % NM + 1) = V.int (dirV pl k) := by
            have : (dirV pl k - 1) / NM * NM + (dirV pl k - 1) % NM + 1 = dirV pl k := by
              rw [Int.mul_comm]
              omega
            rw [this]
          exact (by rw [decide_eq_true ee]; rfl : V.bl (!decide (V.int ((dirV pl k - 1) / NM * NM + (dirV pl k - 1) % NM + 1) = V.int (dirV pl k))) = V.bl false)
        refine ⟨_, rfl, u, _, 1, _, rfl, rfl, st_of hu4, atI_nat (j := 1) rfl, _, _, rfl, rfl, _, rfl, ?_⟩
        rw [decide_eq_true m0]
        refine iteT ⟨_, _, rfl, rfl, _, rfl, ?_⟩
        rw [decide_eq_true m1]
        exact iteF ⟨_, _, _, _, _, rfl, s13.trans s4⟩
    · rintro σ H0 ⟨x2, x4, x5, x6, x7, rfl, s0⟩
      refine fun D nD0 => ?_
      have nD : H D = none := s0.free nD0
      have sI : Same H (upd H0 D (.dK [])) := s0.trans (same_upd nD0)
      refine ⟨_, rfl, sh, C, dx, _, _, rfl, sI _ _ hs, T.cS, T.na, sf_rows d, _, rfl, (by omega), (by omega), ?_⟩
      refine for_range (lo := 0) (n := d.R.toNat) (fun i σ H' => ∃ (x2 x4 x5 x6 x7 : Option V), σ = [some (.ref h), some (.ref sh), x2, some (.ref D), x4, x5, x6, x7] ∧ Same H H' ∧ H' D = some (.dK (kvT (firsts ((usedR d pl i).map third))))) ⟨_, _, _, _, _, rfl, sI, upd_same⟩ ?_ ?_
      · rintro i σ H' hi ⟨x2, x4, x5, x6, x7, rfl, s1, hD⟩
        have ei : (0 : Int) + (i : Nat) = (i : Int) := Int.zero_add _
        rw [ei]
        have iR : (i : Int) < d.R := by omega
        obtain ⟨pa, pb⟩ := row_place hm.o (k := (i : Int)) (by omega) iR
        have e0 : (pl (d.fr + (i : Int) / 8)).getD ((i : Int) % 8).toNat 0 = rowV d pl (i : Int) := rfl
        have l1 := firsts_len ((usedR d pl i).map third)
        have l2 := usedR_len d pl i
        rw [List.length_map] at l1
        refine ⟨_, rfl, _, rfl, _, rfl, h, sh, d, pl, (i : Int), rfl, hm.same s1, ⟨by omega, iR⟩, fun H1 s2 => ?_⟩
        have s12 := s1.trans s2
        refine ⟨fun e => ?_, fun l u e nu hu => ?_⟩
        · refine ⟨_, rfl, sh, dx, _, rfl, s12 _ _ hs, (sf_none d).2.2.2.1, _, rfl, sh, d, (i : Int), rfl, hm.shape.same s12, fun H2 p s3 np hp => ⟨(by show 2 ≤ sizeLine; decide), fun r nr => ?_⟩⟩
          have s4 := same_upd (o := .tup [.non, .ref p]) nr
          refine ⟨r, _, rfl, st_of upd_same, rfl, _, _, rfl, _, _, rfl, p, _, rfl, st_of (s4 _ _ hp), rfl, _, _, rfl, _, _, rfl, rfl, rfl, ?_⟩
          have s14 := (s12.trans s3).trans s4
          have hD4 := s4 _ _ (s3 _ _ (s2 _ _ hD))
          generalize upd H2 r (.tup [.non, .ref p]) = H4 at s14 hD4
          obtain ⟨t, g, ht, hl⟩ := (hm.home.same s14).get pa.1 pa.2
          have z : rowV d pl (i : Int) < 1 := by
            unfold rowR at e
            split at e
            · omega
            · cases e
          refine ⟨_, rfl, rfl, _, rfl, _, rfl, h, _, rfl, g, _, rfl, t, _, _, _, rfl, rfl, st_of ht, plate_at hl pb.1 pb.2, _, _, rfl, rfl, rfl, false, ?_, iteF ?_⟩
          · have q1 : V.bl (!decide (V.bl true = V.bl (decide (rowV d pl (i : Int) < 1)))) = V.bl false := by rw [decide_eq_true z]; rfl
            exact q1
          refine ⟨_, rfl, rfl, false, rfl, iteF ⟨_, _, _, _, _, rfl, s14, ?_⟩⟩
          rw [usedR_none e]
          exact hD4
        · have z : ¬ rowV d pl (i : Int) < 1 := fun z => by
            unfold rowR at e
            rw [if_pos (by omega)] at e
            cases e
          have el : l = [(rowV d pl (i : Int) - 1) / d.F / NM, (rowV d pl (i : Int) - 1) / d.F % NM, (rowV d pl (i : Int) - 1) % d.F] := by
            unfold rowR at e
            rw [if_neg (by omega)] at e
            exact (Option.some.inj e).symm
          rw [el] at hu
          refine ⟨_, rfl, sh, dx, _, rfl, s12 _ _ hs, (sf_none d).2.2.2.1, _, rfl, sh, d, (i : Int), rfl, hm.shape.same s12, fun H2 p s3 np hp => ⟨(by show 2 ≤ sizeLine; decide), fun r nr => ?_⟩⟩
          have s4 := same_upd (o := .tup [.ref u, .ref p]) nr
          refine ⟨r, _, rfl, st_of upd_same, rfl, _, _, rfl, _, _, rfl, p, _, rfl, st_of (s4 _ _ hp), rfl, _, _, rfl, _, _, rfl, rfl, rfl, ?_⟩
          have s14 := (s12.trans s3).trans s4
          have hD4 := s4 _ _ (s3 _ _ (s2 _ _ hD))
          have hu4 := s4 _ _ (s3 _ _ hu)
          generalize upd H2 r (.tup [.ref u, .ref p]) = H4 at s14 hD4 hu4
          obtain ⟨t, g, ht, hl⟩ := (hm.home.same s14).get pa.1 pa.2
          refine ⟨_, rfl, rfl, _, rfl, _, rfl, h, _, rfl, g, _, rfl, t, _, _, _, rfl, rfl, st_of ht, plate_at hl pb.1 pb.2, _, _, rfl, rfl, rfl, false, ?_, iteF ?_⟩
          · have q1 : V.bl (!decide (V.bl false = V.bl (decide (rowV d pl (i : Int) < 1)))) = V.bl false := by rw [decide_eq_false z]; rfl
            exact q1
          refine ⟨_, rfl, rfl, true, rfl, iteT ?_⟩
          refine ⟨_, rfl, _, rfl, u, _, 2, _, rfl, rfl, st_of hu4, atI_nat (j := 2) rfl, D, _, rfl, DPut.k (k := Sum.inl ((rowV d pl (i : Int) - 1) % d.F)) hD4 (by unfold kvT; rw [List.length_map, sizeLine_eq]; omega), ?_⟩
          have s15 : Same H (upd H4 D (.dK (putK (kvT (firsts ((usedR d pl i).map third))) (Sum.inl ((rowV d pl (i : Int) - 1) % d.F)) (.bl true)))) := same_mut s14 nD
          have hD5 : upd H4 D (.dK (putK (kvT (firsts ((usedR d pl i).map third))) (Sum.inl ((rowV d pl (i : Int) - 1) % d.F)) (.bl true))) D = some (.dK (kvT (firsts ((usedR d pl (i + 1)).map third)))) := by
            rw [upd_same, kvT_put, usedR_some e, List.map_append, List.map_singleton, firsts_snoc, el]
            rfl
          have hu5 : upd H4 D (.dK (putK (kvT (firsts ((usedR d pl i).map third))) (Sum.inl ((rowV d pl (i : Int) - 1) % d.F)) (.bl true))) u = some (.tup (List.map V.int [(rowV d pl (i : Int) - 1) / d.F / NM, (rowV d pl (i : Int) - 1) / d.F % NM, (rowV d pl (i : Int) - 1) % d.F])) := by
            rw [upd_ne (ne_of hu4 hD4 (fun z => nomatch z))]
            exact hu4
          generalize upd H4 D (.dK (putK (kvT (firsts ((usedR d pl i).map third))) (Sum.inl ((rowV d pl (i : Int) - 1) % d.F)) (.bl true))) = H5 at s15 hD5 hu5
          obtain ⟨t5, g5, ht5, hl5⟩ := (hm.home.same s15).get pa.1 pa.2
          refine ⟨_, rfl, u, _, 0, _, rfl, rfl, st_of hu5, atI_nat (j := 0) rfl, _, _, rfl, rfl, .inr ⟨by decide, by decide⟩, _, rfl, u, _, 1, _, rfl, rfl, st_of hu5, atI_nat (j := 1) rfl, _, _, rfl, rfl, _, rfl, sh, C, dx, _, _, rfl, s15 _ _ hs, T.cS, T.na, sf_files d, _, _, rfl, rfl, .inr ⟨by omega, by omega⟩, _, _, rfl, rfl, _, rfl, u, _, 2, _, rfl, rfl, st_of hu5, atI_nat (j := 2) rfl, _, _, rfl, rfl,
            _, rfl, _, rfl, h, _, rfl, g5, _, rfl, t5, _, _, _, rfl, rfl, st_of ht5, plate_at hl5 pb.1 pb.2, rfl, false, ?_, iteF ⟨_, _, _, _, _, rfl, s15, hD5⟩⟩
          have a1 := Int.emod_add_mul_ediv ((rowV d pl (i : Int) - 1) / d.F) NM
          have a2 := Int.emod_add_mul_ediv (rowV d pl (i : Int) - 1) d.F
          have ee : V.int (1 + ((rowV d pl (i : Int) - 1) / d.F / NM * NM + (rowV d pl (i : Int) - 1) / d.F % NM) * d.F + (rowV d pl (i : Int) - 1) % d.F) = V.int (rowV d pl (i : Int)) := by
            have : (rowV d pl (i : Int) - 1) / d.F / NM * NM + (rowV d pl (i : Int) - 1) / d.F % NM = (rowV d pl (i : Int) - 1) / d.F := by
              rw [Int.mul_comm]
              omega
            rw [this, Int.mul_comm]
            congr 1
            omega
          exact (by rw [decide_eq_true ee]; rfl : V.bl (!decide (V.int (1 + ((rowV d pl (i : Int) - 1) / d.F / NM * NM + (rowV d pl (i : Int) - 1) / d.F % NM) * d.F + (rowV d pl (i : Int) - 1) % d.F) = V.int (rowV d pl (i : Int)))) = V.bl false)
      · rintro σ H' ⟨x2, x4, x5, x6, x7, rfl, s1, hD⟩
        refine ⟨_, rfl, _, rfl, h, sh, d, pl, rfl, hm.same s1, fun H2 q2 ys s2 pm srt hq => ?_⟩
        have l1 := firsts_len ((usedR d pl d.R.toNat).map third)
        have l2 := usedR_len d pl d.R.toNat
        rw [List.length_map] at l1
        refine ⟨_, rfl, D, _, firsts ((usedR d pl d.R.toNat).map third), rfl, .of (s2 _ _ hD), kvT_keys _, by omega, fun ys2 r2 pm2 srt2 nr2 => ?_⟩
        have ey : ys2 = ys := sorted_one srt2 srt (pm2.trans pm.symm)
        rw [ey]
        have s3 := same_upd (o := .lst (ys.map V.int)) nr2
        refine ⟨dL ys, dL ys, dpL (s3 _ _ hq), dpL upd_same, shL _, shL _, ?_⟩
        rw [eqv_same (shL _)]
        exact q _ ((s1.trans s2).trans s3)
end
end K70
namespace K70
open PySem PySem.Spec PyProof.Rows L2
/-! ### the plain facts of the law -/
def pr (x : List Int) : Int × Int := (x.getD 0 0, x.getD 1 0)
/-- strictly before -/
def Bef (x y : List Int) : Prop := (pr x).1 < (pr y).1 ∨ ((pr x).1 = (pr y).1 ∧ (pr x).2 < (pr y).2)
def Two (x : List Int) : Prop := ∃ a b, x = [a, b]
/-- the first number lies in lo .. hi - 1 -/
def InB (lo hi : Int) (x : List Int) : Prop := Two x ∧ lo ≤ (pr x).1 ∧ (pr x).1 < hi
structure Part (lo hi : Int) (l : List (List Int)) : Prop where
  inb : ∀ x ∈ l, InB lo hi x
  ord : l.Pairwise Bef
theorem Part.app {a b c : Int} {l m : List (List Int)} (x : Part a b l) (y : Part b c m) (h1 : a ≤ b) (h2 : b ≤ c) : Part a c (l ++ m) := by
  refine ⟨fun z hz => ?_, List.pairwise_append.mpr ⟨x.ord, y.ord, fun u hu v hv => ?_⟩⟩
  · rcases List.mem_append.mp hz with hz | hz
    · obtain ⟨t, e1, e2⟩ := x.inb z hz
      exact ⟨t, e1, by omega⟩
    · obtain ⟨t, e1, e2⟩ := y.inb z hz
      exact ⟨t, by omega, e2⟩
  · have e1 := (x.inb u hu).2
    have e2 := (y.inb v hv).2
    exact .inl (by omega)
theorem part_8 {c hi : Int} {m : Nat} (h : ∀ n : Nat, n < m → c + (n : Int) / 8 < hi) : Part c hi ((List.range m).map fun n : Nat => [c + (n : Int) / 8, (n : Int) % 8]) := by
  refine ⟨fun z hz => ?_, ?_⟩
  · obtain ⟨n, hn, rfl⟩ := List.mem_map.mp hz
    have hn := List.mem_range.mp hn
    exact ⟨⟨_, _, rfl⟩, by show c ≤ c + (n : Int) / 8; omega, h n hn⟩
  · rw [List.pairwise_map]
    refine List.Pairwise.imp (fun {i j} hij => ?_) List.pairwise_lt_range
    show c + (i : Int) / 8 < c + (j : Int) / 8 ∨ (c + (i : Int) / 8 = c + (j : Int) / 8 ∧ (i : Int) % 8 < (j : Int) % 8)
    omega
theorem part_1 {c : Int} {m : Nat} : Part c (c + (m : Int)) ((List.range m).map fun n : Nat => [c + (n : Int), 0]) := by
  refine ⟨fun z hz => ?_, ?_⟩
  · obtain ⟨n, hn, rfl⟩ := List.mem_map.mp hz
    have hn := List.mem_range.mp hn
    exact ⟨⟨_, _, rfl⟩, by show c ≤ c + (n : Int); omega, by show c + (n : Int) < c + (m : Int); omega⟩
  · rw [List.pairwise_map]
    refine List.Pairwise.imp (fun {i j} hij => ?_) List.pairwise_lt_range
    show c + (i : Int) < c + (j : Int) ∨ _
    omega
theorem cells_part {d : Dim} (o : d.ok) : Part 0 d.pl (cellsL d) := by
  obtain ⟨⟨a1, a2, a3⟩, ⟨b1, b2, b3⟩, ⟨c1, c2, c3⟩⟩ := Dim.bounds o
  obtain ⟨⟨x1, x2⟩, ⟨y1, y2⟩, ⟨f1, f2⟩, ⟨g1, g2⟩, ⟨u1, u2⟩⟩ := o
  have p0 : Part 0 1 [[0, 0]] := ⟨fun z hz => by rw [List.mem_singleton.mp hz]; exact ⟨⟨0, 0, rfl⟩, by decide, by decide⟩, List.pairwise_singleton _ _⟩
  have pD : Part 1 d.fr (cD d) := part_8 fun n hn => by unfold Dim.fr; omega
  have pR : Part d.fr d.fu (cR d) := part_8 fun n hn => by unfold Dim.fu; omega
  have pU : Part d.fu d.ff (cU d) := part_8 fun n hn => by unfold Dim.ff; omega
  have pF : Part d.ff d.fb (cF d) := by
    have := part_1 (c := d.ff) (m := d.F.toNat)
    have e : d.ff + (d.F.toNat : Int) = d.fb := by unfold Dim.fb; omega
    rw [e] at this
    exact this
  have pB : Part d.fb d.pl (cB d) := by
    have := part_1 (c := d.fb) (m := d.B.toNat)
    have e : d.fb + (d.B.toNat : Int) = d.pl := by unfold Dim.pl; omega
    rw [e] at this
    exact this
  have e1 : (1 : Int) ≤ d.fr := by unfold Dim.fr; omega
  have e2 : d.fr ≤ d.fu := by unfold Dim.fu; omega
  have e3 : d.fu ≤ d.ff := by unfold Dim.ff; omega
  have e4 : d.ff ≤ d.fb := by unfold Dim.fb; omega
  have e5 : d.fb ≤ d.pl := by unfold Dim.pl; omega
  exact ((p0.app ((pD.app pR e1 e2).app pU (by omega) e3) (by omega) (by omega)).app pF (by omega) e4).app pB (by omega) e5
theorem cells_nodup {d : Dim} (o : d.ok) : (cellsL d).Nodup := by
  refine List.Pairwise.imp (fun {x y} h => ?_) (cells_part o).ord
  rintro rfl
  rcases h with h | ⟨_, h⟩ <;> omega
theorem cells_len {d : Dim} (o : d.ok) : (cellsL d).length = 1 + (d.D.toNat + d.R.toNat + d.U.toNat) + d.F.toNat + d.B.toNat := by
  obtain ⟨l1, l2, l3, l4, l5⟩ := c_len d
  unfold cellsL
  simp only [List.length_append, List.length_cons, List.length_nil, l1, l2, l3, l4, l5]
theorem cells_last {d : Dim} (o : d.ok) : (cellsL d)[(cellsL d).length - 1]? = some [d.pl - 1, 0] := by
  have hl := cells_len o
  obtain ⟨l1, l2, l3, l4, l5⟩ := c_len d
  have hB := o.2.2.2.1
  have e : cellsL d = ([[0, 0]] ++ (cD d ++ cR d ++ cU d) ++ cF d) ++ cB d := rfl
  have el : ([[0, 0]] ++ (cD d ++ cR d ++ cU d) ++ cF d).length = 1 + (d.D.toNat + d.R.toNat + d.U.toNat) + d.F.toNat := by
    simp only [List.length_append, List.length_cons, List.length_nil, l1, l2, l3, l4]
  rw [hl, e, List.getElem?_append_right (by omega), el]
  have i : 1 + (d.D.toNat + d.R.toNat + d.U.toNat) + d.F.toNat + d.B.toNat - 1 - (1 + (d.D.toNat + d.R.toNat + d.U.toNat) + d.F.toNat) = d.B.toNat - 1 := by omega
  rw [i]
  unfold cB
  rw [List.getElem?_map, List.getElem?_range (by omega)]
  show some [d.fb + ((d.B.toNat - 1 : Nat) : Int), 0] = some [d.pl - 1, 0]
  have : d.fb + ((d.B.toNat - 1 : Nat) : Int) = d.pl - 1 := by unfold Dim.pl; omega
  rw [this]
def spotsL : List (List Int) := (List.range 75).map fun n : Nat => spotR (n : Int)
theorem spots_nodup : spotsL.Nodup := by decide +kernel
theorem spots_ne : ∀ n ∈ spotsL, n ≠ [] := by decide +kernel
theorem spots_len : spotsL.length = 75 := by decide +kernel
/-- what the two ints of a tracked pair are -/
def kOf (H : Hp) : V → Int × Int
  | .ref t => match H t with
    | some (.tup [.int a, .int b]) => (a, b)
    | _ => (0, 0)
  | _ => (0, 0)
theorem kOf_at {H : Hp} {t : Addr} {x : List Int} (h : H t = some (.tup (x.map V.int))) (hx : Two x) : kOf H (.ref t) = pr x := by
  obtain ⟨a, b, rfl⟩ := hx
  show (match H t with
    | some (.tup [.int a, .int b]) => (a, b)
    | _ => (0, 0)) = pr [a, b]
  rw [h]
  rfl
theorem tups_srtd {H : Hp} {ts : List Addr} {l : List (List Int)} {lo hi : Int} (hl : ts.length = l.length) (hts : ∀ (i : Nat) (t : Addr) (x : List Int), ts[i]? = some t → l[i]? = some x → H t = some (.tup (x.map V.int))) (p : Part lo hi l) : SrtO.Srtd (ltP (kOf H)) (ts.map V.ref) := by
  refine List.pairwise_iff_getElem.mpr fun i j hi hj hij => ?_
  have hi' : i < ts.length := by simpa using hi
  have hj' : j < ts.length := by simpa using hj
  rw [List.getElem_map, List.getElem_map]
  have ei := hts i ts[i] l[i] (List.getElem?_eq_getElem hi') (List.getElem?_eq_getElem (by omega))
  have ej := hts j ts[j] l[j] (List.getElem?_eq_getElem hj') (List.getElem?_eq_getElem (by omega))
  have b := List.pairwise_iff_getElem.mp p.ord i j (by omega) (by omega) hij
  show SrtO.lexB (kOf H (.ref ts[j])) (kOf H (.ref ts[i])) = false
  rw [kOf_at ei (p.inb _ (List.getElem_mem _)).1, kOf_at ej (p.inb _ (List.getElem_mem _)).1]
  refine SrtO.lexB_no.mpr ?_
  unfold Bef at b
  omega
/-! ### the words of a bad shape -/
def badL (j : Int) (v : V) : List V := ([.int 2, .int 1, .int 1, .int 1, .int 1] : List V).set j.toNat v
def wordsL : List Str := ["dirs", "rows", "files", "blocks", "users"]
def rowsL (l : List V) : List (Str × V × Int × Int) := rowsB (l.getD 0 .non) (l.getD 1 .non) (l.getD 2 .non) (l.getD 3 .non) (l.getD 4 .non)
def pyV : V → PyData
  | .int i => .int i
  | .bl b => .bool b
  | .str s => .str s
  | _ => .none
def poolA : List V := [.int 0, .int (-3), .int 201, .int 61, .str "2", .bl true, .non]
def poolB : List V := [.int 1, .int 41, .non, .bl true]
/-- either the pair that is let pass, or a refused one -/
def caseOk (j : Int) (v : V) : Bool := PyData.eqv (.tuple [.int j, pyV v]) (.tuple [.int 3, .int 61]) || decide (firstBad (rowsL (badL j v)) = wordsL[j.toNat]?)
theorem case_a : ∀ v ∈ poolA, caseOk 1 v = true ∧ caseOk 2 v = true ∧ caseOk 3 v = true ∧ caseOk 4 v = true := by
  intro v hv
  simp only [poolA, List.mem_cons, List.not_mem_nil, or_false] at hv
  rcases hv with rfl | rfl | rfl | rfl | rfl | rfl | rfl <;> exact ⟨by decide +kernel, by decide +kernel, by decide +kernel, by decide +kernel⟩
theorem case_b : ∀ v ∈ poolB, caseOk 0 v = true := by
  intro v hv
  simp only [poolB, List.mem_cons, List.not_mem_nil, or_false] at hv
  rcases hv with rfl | rfl | rfl | rfl <;> decide +kernel
end K70
namespace K70
open PySem PySem.Spec PyProof.Rows L2
theorem ifE_via {b : Bool} {ta tb : TE} {σ : L2.St} {H : Hp} {Q : VK} (Good : V → Hp → Prop) (hK : ∀ v H', Good v H' → Q v H') (hA : b = true → ∀ Q' : VK, (∀ v H', Good v H' → Q' v H') → ta σ H Q') (hB : b = false → ∀ Q' : VK, (∀ v H', Good v H' → Q' v H') → tb σ H Q') :
    if b = true then ta σ H Q else tb σ H Q := by
  cases b with
  | true => exact iteT (hA rfl Q hK)
  | false => exact iteF (hB rfl Q hK)
theorem ifS_via {tt : TT} {ta u : TS} {D : Ends} {σ : L2.St} {H : Hp} (Good : Hp → Prop) (hK : ∀ H', Good H' → u D σ H') (h : ∀ Q : Bool → Hp → Prop, (∀ H', Good H' → Q false H') → tt σ H Q) : tSeq (tIfS tt ta tNext) u D σ H := by
  refine h _ fun H' g => iteF ?_
  exact hK H' g
theorem at_last {α : Type} {xs : List α} {v : α} (h : xs[xs.length - 1]? = some v) : atI xs (-1) = some v := by
  have hlt := (List.getElem?_eq_some_iff.mp h).1
  have e : ixN xs.length (-1) = some (xs.length - 1) := by
    unfold ixN
    rw [if_neg (by decide), if_pos (by omega)]
    congr 1
    omega
  unfold atI
  rw [e]
  exact h
theorem fb_none {d : Dim} (o : d.ok) : firstBad (rowsB (.int d.D) (.int d.R) (.int d.F) (.int d.B) (.int d.U)) = none := by
  obtain ⟨⟨a1, a2⟩, ⟨b1, b2⟩, ⟨c1, c2⟩, ⟨e1, e2⟩, ⟨f1, f2⟩⟩ := o
  have g : ∀ r ∈ rowsB (.int d.D) (.int d.R) (.int d.F) (.int d.B) (.int d.U), okB r = true := by
    intro r hr
    unfold rowsB at hr
    simp only [List.mem_cons, List.not_mem_nil, or_false] at hr
    rcases hr with rfl | rfl | rfl | rfl | rfl
    · show (decide (2 ≤ d.D) && decide (d.D ≤ 40)) = true
      rw [decide_eq_true a1, decide_eq_true a2]; rfl
    · show (decide (1 ≤ d.R) && decide (d.R ≤ 60)) = true
      rw [decide_eq_true b1, decide_eq_true b2]; rfl
    · show (decide (1 ≤ d.F) && decide (d.F ≤ 40)) = true
      rw [decide_eq_true c1, decide_eq_true c2]; rfl
    · show (decide (1 ≤ d.B) && decide (d.B ≤ 200)) = true
      rw [decide_eq_true e1, decide_eq_true e2]; rfl
    · show (decide (1 ≤ d.U) && decide (d.U ≤ 4)) = true
      rw [decide_eq_true f1, decide_eq_true f2]; rfl
  unfold firstBad
  rw [Option.map_eq_none_iff, List.find?_eq_none]
  intro r hr
  rw [g r hr]
  decide
/-- a shape just made: what stood stands -/
theorem made_same {H H' : Hp} {x dx C : Addr} (nx : H x = none) (ndx : H dx = none) (ne : dx ≠ x) (s : SameB x (upd (upd H dx (.own x)) x (.ins C dx [])) H') : Same H H' := fun b o e => by
  have bx : b ≠ x := fun z => by rw [z, nx] at e; cases e
  refine s b o bx ?_
  rw [upd_ne bx, upd_ne (ne_of_none e ndx)]
  exact e
section
variable {P : Program} {w : World} {K : PySem.W.Frag} {mg : Str → Option Value} {base : Heap} {C CB fB : Addr}
def spLaw (K : PySem.W.Frag) : Sp := fun vs H Q _ => ∃ (a : Addr) (ns : List Int), vs = [.ref a] ∧ SqL K H a (ns.map V.int) ∧ ns.length ≤ 63 ∧ ∀ H', Q (.bl true) H'
theorem scLaw : FnScope ["_law_script", "_law_draw", "_law_shape", "_law_cells", "_law_told", "_law_at", "_law_bad", "_law_home", "_law_files", "_law_number_here", "_law_file"] ["_law_script"] (defScope sLaw) := ⟨rfl, rfl, rfl, by decide +kernel, rfl, by decide +kernel, by decide +kernel⟩
theorem ok_law {f : Addr} {fd : FuncData} (F : Fun K "law" "law" sLaw f fd) (T : Txt K mg C) (TE : EqTxt K C) (h1 : HasMk P w K mg base C CB) (h2 : Has P w K mg base CX0 2 "_law_take" ["_law_draw", "_law_many"] (spLawTake K)) (h3 : Has P w K mg base CX0 2 "_law_cells_of" ["_law_shape"] (spLawCells C))
    (h4 : Has P w K mg base CX0 1 "_law_unlike" ["_law_items"] spLawUnlike) (h5 : Has P w K mg base CX0 1 "spot_of" ["number"] spSpotOf) (h6 : HasM P w K mg base CX0 1 C "told" ["self"] (spTold C)) (h7 : HasM P w K mg base CX0 2 C "__eq__" ["self", "other"] (spEqS C)) (h8 : Has P w K mg base CX0 3 "_law_pick" ["_law_draw", "_law_items"] (spLawPick K))
    (h9 : Has P w K mg base CX0 6 "_law_is_refused" ["_law_numbers", "_law_word"] spIsRefused) (h10 : Has P w K mg base CX0 4 "_law_any" ["_law_draw", "_law_shape"] (spLawAny K C)) (h11 : Has P w K mg base CX0 5 "_law_are_names" ["_law_home", "_law_shape"] (spNames C))
    (h12 : Has P w K mg base CX0 5 "_law_is_read" ["_law_home", "_law_shape", "_law_file"] (spFileTrue C)) (h13 : Has P w K mg base CX0 6 "_law_are_met" ["_law_home", "_law_shape", "_law_file"] (spFileTrue C)) :
    FnOk P w K mg base CX0 7 f fd ["_law_script"] (spLaw K) := by
  obtain ⟨f1, fd1, G_Shape, M_Shape, b_Shape⟩ := h1.ex
  obtain ⟨f2, fd2, G_law_take, m_law_take, k_law_take, b_law_take⟩ := h2.ex
  obtain ⟨f3, fd3, G_law_cells_of, m_law_cells_of, k_law_cells_of, b_law_cells_of⟩ := h3.ex
  obtain ⟨f4, fd4, G_law_unlike, m_law_unlike, k_law_unlike, b_law_unlike⟩ := h4.ex
  obtain ⟨f5, fd5, G_spot_of, m_spot_of, k_spot_of, b_spot_of⟩ := h5.ex
  obtain ⟨f6, fd6, G_told, M_told, b_told⟩ := h6.ex
  obtain ⟨f7, fd7, G_eq, M_eq, b_eq⟩ := h7.ex
  obtain ⟨f8, fd8, G_law_pick, m_law_pick, k_law_pick, b_law_pick⟩ := h8.ex
  obtain ⟨f9, fd9, G_law_is_refused, m_law_is_refused, k_law_is_refused, b_law_is_refused⟩ := h9.ex
  obtain ⟨f10, fd10, G_law_any, m_law_any, k_law_any, b_law_any⟩ := h10.ex
  obtain ⟨f11, fd11, G_law_are_names, m_law_are_names, k_law_are_names, b_law_are_names⟩ := h11.ex
  obtain ⟨f12, fd12, G_law_is_read, m_law_is_read, k_law_is_read, b_law_is_read⟩ := h12.ex
  obtain ⟨f13, fd13, G_law_are_met, m_law_are_met, k_law_are_met, b_law_are_met⟩ := h13.ex
  refine F.ok scLaw (fun vs H Q E h => ?_) (fun cdv A outer s H vs Q E hr h => ?_)
  · obtain ⟨a, ns, rfl, _⟩ := h
    rfl
  · obtain ⟨a, ns, rfl, hs, hl, q⟩ := h
    refine ⟨_, ((pss_cons (ps_set (i := 1) scLaw.nd rfl (Or.inl rfl) (pe_lst (pa_cons (pv 0) (pa_cons pe_int pa_nil))))
  (pss_cons (ps_set (i := 2) scLaw.nd rfl (Or.inr rfl) (pe_make M_Shape G_Shape (hr.mono (by first | decide | omega)) rfl T.gShape b_Shape .nil passL (pa_cons (pe_op op_add pe_int (pe_call G_law_take (hr.mono (by first | decide | omega)) rfl m_law_take k_law_take b_law_take .nil pass0 (pa_cons (pv 1) (pa_cons pe_int pa_nil)))) (pa_cons (pe_op op_add pe_int (pe_call G_law_take (hr.mono (by first | decide | omega)) rfl m_law_take k_law_take b_law_take .nil pass0 (pa_cons (pv 1) (pa_cons pe_int pa_nil)))) (pa_cons (pe_op op_add pe_int (pe_call G_law_take (hr.mono (by first | decide | omega)) rfl m_law_take k_law_take b_law_take .nil pass0 (pa_cons (pv 1) (pa_cons pe_int pa_nil)))) (pa_cons (pe_op op_add pe_int (pe_call G_law_take (hr.mono (by first | decide | omega)) rfl m_law_take k_law_take b_law_take .nil pass0 (pa_cons (pv 1) (pa_cons pe_int pa_nil)))) (pa_cons (pe_op op_add pe_int (pe_call G_law_take (hr.mono (by first | decide | omega)) rfl m_law_take k_law_take b_law_take .nil pass0 (pa_cons (pv 1) (pa_cons pe_int pa_nil)))) pa_nil)))))))
  (pss_cons (ps_set (i := 3) scLaw.nd rfl (Or.inl rfl) (pe_call G_law_cells_of (hr.mono (by first | decide | omega)) rfl m_law_cells_of k_law_cells_of b_law_cells_of .nil pass0 (pa_cons (pv 2) pa_nil)))
  (pss_cons (ps_if (PW.pt (pw_or (pt_cmpR (op_neD hr.units) (pv 3) (pe_callB cr_sortedPO (by rfl) T.zsorted (by decide +kernel) (pa_cons (pv 3) pa_nil)) (nomark _)) (pw_or (pt_cmpR op_ne (pe_callB call_len_seq (by rfl) T.zlen (by decide +kernel) (pa_cons (pe_call G_law_unlike (hr.mono (by first | decide | omega)) rfl m_law_unlike k_law_unlike b_law_unlike .nil pass0 (pa_cons (pv 3) pa_nil)) pa_nil)) (pe_callB call_len_seq (by rfl) T.zlen (by decide +kernel) (pa_cons (pv 3) pa_nil)) (nomark _)) (pw_or1 (pt_cmpR op_ne (pe_ix ix_tup (pe_ix ix_list (pv 3) (pe_un un_neg pe_int) (fun _ _ => rfl)) pe_int (fun _ _ => rfl)) (pe_op op_sub (pe_fld (pv 2) rfl) pe_int) (nomark _))))))
  (pss_one (ps_ret pe_bl))
  pss_nil)
  (pss_cons (ps_if (pt_cmpR op_ne (pe_callB call_len_seq (by rfl) T.zlen (by decide +kernel) (pa_cons (pe_call G_law_unlike (hr.mono (by first | decide | omega)) rfl m_law_unlike k_law_unlike b_law_unlike .nil pass0 (pa_cons (pe_lc (own := [("_law_number_here", 9)]) (g := gName 9) (tt := tYes) rfl scLaw.nd (pi_range1 rfl T.zrange (pa_cons (pe_gi rfl T.gMOST_BLOCKS) pa_nil)) (blkOk_by (own := [("_law_number_here", 9)]) (N := ["_law_script", "_law_draw", "_law_shape", "_law_cells", "_law_told", "_law_at", "_law_bad", "_law_home", "_law_files", "_law_number_here", "_law_file"]) (sc := defScope sLaw) (by decide +kernel)) (fun _ _ _ _ _ => (pg_name (i := 9) scLaw.nd rfl (Or.inl rfl))) (fun _ _ _ _ _ => pts_nil) (fun _ _ _ _ _ => (pe_call G_spot_of (hr.mono (by first | decide | omega)) rfl m_spot_of k_spot_of b_spot_of .nil pass0 (pa_cons (pv 9) pa_nil)))) pa_nil)) pa_nil)) (pe_gi rfl T.gMOST_BLOCKS) (nomark _))
  (pss_one (ps_ret pe_bl))
  pss_nil)
  (pss_cons (ps_set (i := 4) scLaw.nd rfl (Or.inl rfl) (pe_meth0 (pv 2) T.cS M_told G_told (hr.mono (by first | decide | omega)) b_told .nil pass0))
  (pss_cons (ps_if (pt_cmpR (op_neS G_eq (hr.mono (by decide)) TE.hm TE.ne M_eq.at_ M_eq.fn b_eq) (pv 2) (pe_make M_Shape G_Shape (hr.mono (by first | decide | omega)) rfl T.gShape b_Shape .nil passL (pa_cons (pe_ix ix_tup (pv 4) pe_int (fun _ _ => rfl)) (pa_cons (pe_ix ix_tup (pv 4) pe_int (fun _ _ => rfl)) (pa_cons (pe_ix ix_tup (pv 4) pe_int (fun _ _ => rfl)) (pa_cons (pe_ix ix_tup (pv 4) pe_int (fun _ _ => rfl)) (pa_cons (pe_ix ix_tup (pv 4) pe_int (fun _ _ => rfl)) pa_nil)))))) (nomark _))
  (pss_one (ps_ret pe_bl))
  pss_nil)
  (pss_cons (ps_set (i := 5) scLaw.nd rfl (Or.inl rfl) (pe_call G_law_take (hr.mono (by first | decide | omega)) rfl m_law_take k_law_take b_law_take .nil pass0 (pa_cons (pv 1) (pa_cons pe_int pa_nil))))
  (pss_cons (ps_set (i := 6) scLaw.nd rfl (Or.inl rfl) (pe_lst (pa_cons pe_int (pa_cons pe_int (pa_cons pe_int (pa_cons pe_int (pa_cons pe_int pa_nil)))))))
  (pss_cons (ps_asg (pe_ifExp (pt_cmpR op_gt (pv 5) pe_int (nomark _)) (pe_call G_law_pick (hr.mono (by first | decide | omega)) rfl m_law_pick k_law_pick b_law_pick .nil pass0 (pa_cons (pv 1) (pa_cons (pe_lst (pa_cons pe_int (pa_cons (pe_un un_neg pe_int) (pa_cons pe_int (pa_cons pe_int (pa_cons pe_str (pa_cons pe_bl (pa_cons pe_non pa_nil)))))))) pa_nil))) (pe_call G_law_pick (hr.mono (by first | decide | omega)) rfl m_law_pick k_law_pick b_law_pick .nil pass0 (pa_cons (pv 1) (pa_cons (pe_lst (pa_cons pe_int (pa_cons pe_int (pa_cons pe_non (pa_cons pe_bl pa_nil))))) pa_nil)))) (pg_sub (pv 6) (pv 5) set_list))
  (pss_cons (ps_if (PW.pt (pw_and (pt_cmpR (op_neD hr.units) (pe_tup (pa_cons (pv 5) (pa_cons (pe_ix ix_list (pv 6) (pv 5) (fun _ _ => rfl)) pa_nil))) (pe_tup (pa_cons pe_int (pa_cons pe_int pa_nil))) (nomark _)) (pw_and1 (pt_not (pt_val (pe_call G_law_is_refused (hr.mono (by first | decide | omega)) rfl m_law_is_refused k_law_is_refused b_law_is_refused .nil pass0 (pa_cons (pv 6) (pa_cons (pe_ix ix_list (pe_lst (pa_cons pe_str (pa_cons pe_str (pa_cons pe_str (pa_cons pe_str (pa_cons pe_str pa_nil)))))) (pv 5) (fun _ _ => rfl)) pa_nil))))))))
  (pss_one (ps_ret pe_bl))
  pss_nil)
  (pss_cons (ps_set (i := 7) scLaw.nd rfl (Or.inr rfl) (pe_call G_law_any (hr.mono (by first | decide | omega)) rfl m_law_any k_law_any b_law_any .nil pass0 (pa_cons (pv 1) (pa_cons (pv 2) pa_nil))))
  (pss_cons (ps_set (i := 8) scLaw.nd rfl (Or.inl rfl) (pe_slice sl_list (pe_listRg rfl rfl T.zlist (prg_1 rfl T.zrange (pe_fld (pv 2) rfl))) po_none (po_some pe_int)))
  (pss_one (ps_ret (pe_and (pe_call G_law_are_names (hr.mono (by first | decide | omega)) rfl m_law_are_names k_law_are_names b_law_are_names .nil pass0 (pa_cons (pv 7) (pa_cons (pv 2) pa_nil))) (pe_one (pe_callB (cr_all rfl) (by rfl) T.zall (by decide +kernel) (pa_cons (pe_lc (own := [("_law_file", 10)]) (g := gName 10) (tt := tYes) rfl scLaw.nd (pi_list (pv 8)) (blkOk_by (own := [("_law_file", 10)]) (N := ["_law_script", "_law_draw", "_law_shape", "_law_cells", "_law_told", "_law_at", "_law_bad", "_law_home", "_law_files", "_law_number_here", "_law_file"]) (sc := defScope sLaw) (by decide +kernel)) (fun _ _ _ _ _ => (pg_name (i := 10) scLaw.nd rfl (Or.inl rfl))) (fun _ _ _ _ _ => pts_nil) (fun _ _ _ _ _ => (pe_and (pe_call G_law_is_read (hr.mono (by first | decide | omega)) rfl m_law_is_read k_law_is_read b_law_is_read .nil pass0 (pa_cons (pv 7) (pa_cons (pv 2) (pa_cons (pv 10) pa_nil)))) (pe_one (pe_call G_law_are_met (hr.mono (by first | decide | omega)) rfl m_law_are_met k_law_are_met b_law_are_met .nil pass0 (pa_cons (pv 7) (pa_cons (pv 2) (pa_cons (pv 10) pa_nil)))))))) pa_nil)))))))))))))))))))), ?_⟩
    refine ⟨_, rfl, (by show 2 ≤ sizeLine; decide), fun dr ndr => ?_⟩
    have s0 : Same H (upd H dr (.lst [.ref a, .int 0])) := same_upd ndr
    have d0 : DrawOk K (upd H dr (.lst [.ref a, .int 0])) dr a := by
      refine ⟨⟨ns, fun H' s' => ?_⟩, 0, Int.le_refl _, upd_same⟩
      rcases hs with (e | ⟨o, e⟩) | e
      · have n : a ≠ dr := fun z => by rw [z, ndr] at e; cases e
        exact .inl (.inl (s' _ _ n (s0 _ _ e)))
      · have n : a ≠ dr := fun z => by rw [z, ndr] at e; cases e
        exact .inl (.inr ⟨o, s' _ _ n (s0 _ _ e)⟩)
      · exact .inr e
    have hsc : (∀ H', SqL K H' a (ns.map V.int)) ∨ (∃ o, upd H dr (.lst [.ref a, .int 0]) a = some o ∧ a ≠ dr ∧ ∀ H', H' a = some o → SqL K H' a (ns.map V.int)) := by
      rcases hs with (e | ⟨o, e⟩) | e
      · exact .inr ⟨_, s0 _ _ e, (fun z => by rw [z, ndr] at e; cases e), fun H' e' => .inl (.inl e')⟩
      · exact .inr ⟨_, s0 _ _ e, (fun z => by rw [z, ndr] at e; cases e), fun H' e' => .inl (.inr ⟨o, e'⟩)⟩
      · exact .inl fun _ => .inr e
    generalize upd H dr (.lst [.ref a, .int 0]) = H0 at d0 hsc
    -- the shape
    refine ⟨_, rfl, dr, a, 39, rfl, d0, by decide, fun r0 H1 r0a r0b sB1 dI1 => ⟨_, _, rfl, rfl, ?_⟩⟩
    have d1 := d0.next sB1 dI1
    refine ⟨_, rfl, dr, a, 60, rfl, d1, by decide, fun r1 H2 r1a r1b sB2 dI2 => ⟨_, _, rfl, rfl, ?_⟩⟩
    have d2 := d1.next sB2 dI2
    refine ⟨_, rfl, dr, a, 9, rfl, d2, by decide, fun r2 H3 r2a r2b sB3 dI3 => ⟨_, _, rfl, rfl, ?_⟩⟩
    have d3 := d2.next sB3 dI3
    refine ⟨_, rfl, dr, a, 40, rfl, d3, by decide, fun r3 H4 r3a r3b sB4 dI4 => ⟨_, _, rfl, rfl, ?_⟩⟩
    have d4 := d3.next sB4 dI4
    refine ⟨_, rfl, dr, a, 4, rfl, d4, by decide, fun r4 H5 r4a r4b sB5 dI5 => ⟨_, _, rfl, rfl, ?_⟩⟩
    have d5 := d4.next sB5 dI5
    have od : (⟨2 + r0, 1 + r1, 1 + r2, 1 + r3, 1 + r4⟩ : Dim).ok := by
      unfold Dim.ok
      refine ⟨⟨?_, ?_⟩, ⟨?_, ?_⟩, ⟨?_, ?_⟩, ⟨?_, ?_⟩, ⟨?_, ?_⟩⟩ <;> dsimp only <;> omega
    refine fun x dx nx ndx ne => ?_
    refine ⟨x, dx, _, _, _, _, _, rfl, ⟨rfl, rfl, rfl, rfl, rfl⟩, upd_same, fun wd e => ?_, fun _ d g0 g1 g2 g3 g4 o H6 sBx hx => ⟨rfl, ?_⟩⟩
    · have z := fb_none od
      dsimp only at z e
      rw [z] at e
      cases e
    have s56 := made_same nx ndx ne sBx
    have d6 := d5.same s56
    have sh6 : ShapeAt C H6 x d := ⟨dx, hx⟩
    have lF : d.F ≤ 9 := by
      have := V.int.inj g2
      omega
    clear g0 g1 g2 g3 g4 od
    -- the cells
    refine ⟨_, rfl, x, d, rfl, sh6, o, fun H7 cq s67 tC => ?_⟩
    have d7 := d6.same s67
    have sh7 := sh6.same s67
    obtain ⟨ts, hc, lt, hts⟩ := tC
    have part := cells_part o
    have clen := cells_len o
    obtain ⟨⟨oD1, oD2⟩, ⟨oR1, oR2⟩, ⟨oF1, oF2⟩, ⟨oB1, oB2⟩, ⟨oU1, oU2⟩⟩ := id o
    have le500 : (cellsL d).length ≤ 500 := by omega
    refine ⟨_, rfl, _, rfl, cq, ts.map V.ref, kOf H7, rfl, sl_of hc, fun z hz => ?_, fun ys p srt stb np => ?_⟩
    · obtain ⟨t, ht, rfl⟩ := List.mem_map.mp hz
      obtain ⟨i, hi⟩ := List.mem_iff_getElem?.mp ht
      have hlt := (List.getElem?_eq_some_iff.mp hi).1
      have hlt2 : i < (cellsL d).length := by omega
      have hx' : (cellsL d)[i]? = some ((cellsL d)[i]'hlt2) := List.getElem?_eq_getElem hlt2
      have e := hts i t _ hi hx'
      have two := (part.inb _ (List.getElem_mem hlt2)).1
      have k := kOf_at e two
      refine ⟨t, rfl, ?_⟩
      rw [k, e]
      obtain ⟨u, v, e2⟩ := two
      rw [e2]
      rfl
    have ey : ys = ts.map V.ref := SrtO.stb_uniq (ltP_swo _) srt (tups_srtd lt hts part) stb
    rw [ey]
    have s78 : Same H7 (upd H7 p (.lst (ts.map V.ref))) := same_upd np
    have hp : upd H7 p (.lst (ts.map V.ref)) p = some (.lst (ts.map V.ref)) := upd_same
    have hc8 := s78 _ _ hc
    have hts8 : ∀ (i : Nat) (t : Addr) (y : List Int), ts[i]? = some t → (cellsL d)[i]? = some y → upd H7 p (.lst (ts.map V.ref)) t = some (.tup (y.map V.int)) := fun i t y e1 e2 => s78 _ _ (hts i t y e1 e2)
    have d8 := d7.same s78
    have sh8 := sh7.same s78
    generalize upd H7 p (.lst (ts.map V.ref)) = H8 at s78 hp hc8 hts8 d8 sh8
    refine ⟨dLT (cellsL d), dLT (cellsL d), .lst (sl_of hc8) (dp_tups ts _ lt hts8), .lst (sl_of hp) (dp_tups ts _ lt hts8), shLT _, shLT _, ?_⟩
    rw [eqv_same (shLT _)]
    refine ⟨false, rfl, iteF ?_⟩
    have cne : ∀ n ∈ cellsL d, n ≠ [] := fun n hn => by
      obtain ⟨_, _, rfl⟩ := (part.inb n hn).1
      exact fun z => by cases z
    refine ⟨_, rfl, cq, cellsL d, rfl, ⟨ts, hc8, lt, hts8⟩, cells_nodup o, cne, by omega, fun H9 r ys' s89 hl9 hr9 => ?_⟩
    have hc9 := s89 _ _ hc8
    refine ⟨r, ys', rfl, .inl (sl_of hr9), _, rfl, cq, _, rfl, .inl (sl_of hc9), rfl, false, ?_, iteF ?_⟩
    · have ee : V.int (ys'.length : Int) = V.int ((ts.map V.ref).length : Int) := by rw [hl9, List.length_map, lt]
      exact (by rw [decide_eq_true ee]; rfl : V.bl (!decide (V.int (ys'.length : Int) = V.int ((ts.map V.ref).length : Int))) = V.bl false)
    have d9 := d8.same s89
    have sh9 := sh8.same s89
    -- the last cell
    obtain ⟨tl, htl, hlast⟩ : ∃ tl, (ts.map V.ref)[(ts.map V.ref).length - 1]? = some (V.ref tl) ∧ H9 tl = some (.tup ([d.pl - 1, 0].map V.int)) := by
      have hlt : ts.length - 1 < ts.length := by omega
      refine ⟨ts[ts.length - 1], ?_, s89 _ _ (hts8 _ _ _ (List.getElem?_eq_getElem hlt) (by rw [lt]; exact cells_last o))⟩
      rw [List.length_map, List.getElem?_map, List.getElem?_eq_getElem hlt]
      rfl
    obtain ⟨dx9, hx9⟩ := id sh9
    refine ⟨_, rfl, _, rfl, cq, _, -1, _, rfl, rfl, sl_of hc9, at_last htl, tl, _, 0, _, rfl, rfl, st_of hlast, atI_nat (j := 0) rfl, _, rfl, x, C, dx9, _, _, rfl, hx9, T.cS, T.na, sf_plates d, _, _, rfl, rfl, rfl, false, ?_, iteF ?_⟩
    · exact (by rw [decide_eq_true rfl]; rfl : V.bl (!decide (V.int (d.pl - 1) = V.int (d.pl - 1))) = V.bl false)
    -- the spots
    refine ⟨_, rfl, (by decide), (by decide), fun D nD => ?_⟩
    refine lc_range (lo := 0) (n := Int.toNat 75) (fun i H' => Same H9 H' ∧ TupsAt H' D ((List.range i).map fun n : Nat => spotR (n : Int))) ⟨same_upd nD, tups_nil⟩ ?_ ?_
    · rintro i Hi hi ⟨t1, tp⟩
      have ei : (0 : Int) + (i : Nat) = (i : Int) := Int.zero_add _
      rw [ei]
      have hi75 : i < 75 := hi
      refine ⟨rfl, _, rfl, (i : Int), rfl, fun H3 p s3 np hp => ?_⟩
      have st := tups_step (x := spotR (i : Int)) nD t1 tp s3 hp (by rw [List.length_map, List.length_range]; omega)
      rw [← rmap_more] at st
      exact st
    rintro H10 ⟨s910, tS⟩
    have d10 := d9.same s910
    have sh10 := sh9.same s910
    refine ⟨D, spotsL, rfl, tS, spots_nodup, spots_ne, by rw [spots_len]; decide, fun H11 r11 ys11 s1011 hl11 hr11 => ⟨r11, ys11, rfl, .inl (sl_of hr11), rfl, false, ?_, iteF ?_⟩⟩
    · have ee : V.int (ys11.length : Int) = V.int 75 := by rw [hl11, spots_len]; rfl
      exact (by rw [decide_eq_true ee]; rfl : V.bl (!decide (V.int (ys11.length : Int) = V.int 75)) = V.bl false)
    have d11 := d10.same s1011
    have sh11 := sh10.same s1011
    -- a second shape of the same numbers
    obtain ⟨dx11, hx11⟩ := id sh11
    refine ⟨_, rfl, x, dx11, _, rfl, hx11, (sf_none d).1, x, d, rfl, sh11, fun H12 p12 s1112 np12 hp12 => ?_⟩
    have d12 := d11.same s1112
    have sh12 := sh11.same s1112
    have tl12 : H12 p12 = some (.tup [.int d.D, .int d.R, .int d.F, .int d.B, .int d.U]) := hp12
    refine ⟨_, rfl, _, rfl, p12, _, 0, _, rfl, rfl, st_of tl12, atI_nat (j := 0) rfl, _, rfl, p12, _, 1, _, rfl, rfl, st_of tl12, atI_nat (j := 1) rfl, _, rfl, p12, _, 2, _, rfl, rfl, st_of tl12, atI_nat (j := 2) rfl, _, rfl, p12, _, 3, _, rfl, rfl, st_of tl12, atI_nat (j := 3) rfl, _, rfl, p12, _, 4, _, rfl, rfl, st_of tl12, atI_nat (j := 4) rfl, fun y dy ny ndy ney => ?_⟩
    refine ⟨y, dy, _, _, _, _, _, rfl, ⟨rfl, rfl, rfl, rfl, rfl⟩, upd_same, fun wd e => ?_, fun _ d' g0 g1 g2 g3 g4 o' H13 sBy hy => ⟨rfl, ?_⟩⟩
    · have z := fb_none o
      rw [z] at e
      cases e
    have s1213 := made_same ny ndy ney sBy
    have ed : d' = d := by
      cases d
      cases d'
      simp only [V.int.injEq] at g0 g1 g2 g3 g4
      simp only [Dim.mk.injEq]
      exact ⟨g0.symm, g1.symm, g2.symm, g3.symm, g4.symm⟩
    rw [ed] at hy
    have d13 := d12.same s1213
    have sh13 := sh12.same s1213
    obtain ⟨dx13, hx13⟩ := id sh13
    refine ⟨x, y, dx13, dy, _, _, rfl, rfl, hx13, hy, x, y, d, rfl, sh13, ⟨dy, hy⟩, fun H14 s1314 => ⟨true, rfl, false, rfl, iteF ?_⟩⟩
    have d14 := d13.same s1314
    have sh14 := sh13.same s1314
    -- the bad shape
    refine ⟨_, rfl, dr, a, 5, rfl, d14, by decide, fun at5 H15 ata atb sB15 dI15 => ?_⟩
    have d15 := d14.next sB15 dI15
    have ndx : x ≠ dr := fun z => by
      obtain ⟨_, hx⟩ := sh14
      obtain ⟨_, _, e⟩ := d14.at_
      rw [z, e] at hx
      cases hx
    have sh15 : ShapeAt C H15 x d := by
      obtain ⟨dd, hx⟩ := sh14
      exact ⟨dd, sB15 _ _ ndx hx⟩
    refine ⟨(by show 5 ≤ sizeLine; decide), fun bd nbd => ?_⟩
    have s1516 : Same H15 (upd H15 bd (.lst [.int 2, .int 1, .int 1, .int 1, .int 1])) := same_upd nbd
    have hbd : upd H15 bd (.lst [.int 2, .int 1, .int 1, .int 1, .int 1]) bd = some (.lst [.int 2, .int 1, .int 1, .int 1, .int 1]) := upd_same
    have d16 := d15.same s1516
    have sh16 := sh15.same s1516
    generalize upd H15 bd (.lst [.int 2, .int 1, .int 1, .int 1, .int 1]) = H16 at s1516 hbd d16 sh16
    have nbdr : bd ≠ dr := fun z => by
      obtain ⟨_, _, e⟩ := d16.at_
      rw [z, e] at hbd
      cases hbd
    refine ⟨_, rfl, _, _, rfl, rfl, _, rfl, ifE_via (fun v H' => caseOk at5 v = true ∧ (v ∈ poolA ∨ v ∈ poolB) ∧ H' bd = some (.lst [.int 2, .int 1, .int 1, .int 1, .int 1]) ∧ DrawOk K H' dr a ∧ ShapeAt C H' x d ∧ SameB dr H16 H') ?k10 ?a10 ?b10⟩
    case a10 =>
      intro hb Q' hQ
      have h0 : (0 : Int) < at5 := of_decide_eq_true hb
      refine ⟨_, rfl, _, rfl, (by show 7 ≤ sizeLine; decide), fun pp npp => ?_⟩
      have npd : pp ≠ dr := fun z => by
        obtain ⟨_, _, e⟩ := d16.at_
        rw [z, e] at npp
        cases npp
      have sp := same_upd (o := .lst poolA) npp
      refine ⟨dr, a, pp, poolA, rfl, d16.same sp, sl_of upd_same, npd, (by simp [poolA]), fun v hv H17 sB17 dI17 => hQ v H17 ⟨?_, .inl hv, sB17 _ _ nbdr (sp _ _ hbd), (d16.same sp).next sB17 dI17, ?_, (SameB.of sp).trans sB17⟩⟩
      · obtain ⟨c1, c2, c3, c4⟩ := case_a v hv
        have h4 : at5 = 1 ∨ at5 = 2 ∨ at5 = 3 ∨ at5 = 4 := by omega
        rcases h4 with e | e | e | e
        · rw [e]; exact c1
        · rw [e]; exact c2
        · rw [e]; exact c3
        · rw [e]; exact c4
      · obtain ⟨dd, hx⟩ := sh16.same sp
        exact ⟨dd, sB17 _ _ ndx hx⟩
    case b10 =>
      intro hb Q' hQ
      have h0 : ¬ (0 : Int) < at5 := of_decide_eq_false hb
      have e0 : at5 = 0 := by omega
      refine ⟨_, rfl, (by show 4 ≤ sizeLine; decide), fun pp npp => ?_⟩
      have npd : pp ≠ dr := fun z => by
        obtain ⟨_, _, e⟩ := d16.at_
        rw [z, e] at npp
        cases npp
      have sp := same_upd (o := .lst poolB) npp
      refine ⟨dr, a, pp, poolB, rfl, d16.same sp, sl_of upd_same, npd, (by simp [poolB]), fun v hv H17 sB17 dI17 => hQ v H17 ⟨?_, .inr hv, sB17 _ _ nbdr (sp _ _ hbd), (d16.same sp).next sB17 dI17, ?_, (SameB.of sp).trans sB17⟩⟩
      · rw [e0]; exact case_b v hv
      · obtain ⟨dd, hx⟩ := sh16.same sp
        exact ⟨dd, sB17 _ _ ndx hx⟩
    case k10 =>
      rintro v H17 ⟨ck, hv, hbd17, d17, sh17, sB1617⟩
      have hix : ixN 5 at5 = some at5.toNat := by
        unfold ixN
        rw [if_pos ata, if_pos (show at5 < ((5 : Nat) : Int) from atb)]
      refine ⟨_, rfl, _, rfl, bd, _, at5, at5.toNat, rfl, rfl, hbd17, hix, ?_⟩
      have eb : upd H17 bd (.lst (([.int 2, .int 1, .int 1, .int 1, .int 1] : List V).set at5.toNat v)) bd = some (.lst (badL at5 v)) := upd_same
      have d18 : DrawOk K (upd H17 bd (.lst (([.int 2, .int 1, .int 1, .int 1, .int 1] : List V).set at5.toNat v))) dr a := by
        refine ⟨⟨ns, fun H' s' => ?_⟩, drI_upd d17.at_ nbdr⟩
        rcases hsc with e | ⟨o, e, ne', k⟩
        · exact e H'
        · have e15 := sB15 _ _ ne' (s1314 _ _ (s1213 _ _ (s1112 _ _ (s1011 _ _ (s910 _ _ (s89 _ _ (s78 _ _ (s67 _ _ (s56 _ _ (sB5 _ _ ne' (sB4 _ _ ne' (sB3 _ _ ne' (sB2 _ _ ne' (sB1 _ _ ne' e))))))))))))))
          have nab : a ≠ bd := fun z => by rw [z, nbd] at e15; cases e15
          have e17 := sB1617 _ _ ne' (s1516 _ _ e15)
          exact k H' (s' _ _ ne' (by rw [upd_ne nab]; exact e17))
      have sh18 : ShapeAt C (upd H17 bd (.lst (([.int 2, .int 1, .int 1, .int 1, .int 1] : List V).set at5.toNat v))) x d := by
        obtain ⟨dd, hx⟩ := sh17
        exact ⟨dd, by rw [upd_ne (ne_of hx hbd17 (fun z => nomatch z))]; exact hx⟩
      generalize upd H17 bd (.lst (([.int 2, .int 1, .int 1, .int 1, .int 1] : List V).set at5.toNat v)) = H18 at eb d18 sh18
      dsimp only
      refine ifS_via (fun H' => Same H18 H') ?k11 ?a11
      case a11 =>
        intro Q2 hQ2
        have hav : atI (badL at5 v) at5 = some v := by
          have h5 : at5 = 0 ∨ at5 = 1 ∨ at5 = 2 ∨ at5 = 3 ∨ at5 = 4 := by omega
          rcases h5 with e | e | e | e | e <;> rw [e] <;> rfl
        refine ⟨_, rfl, _, rfl, _, rfl, bd, _, at5, v, rfl, rfl, sl_of eb, hav, (by show 2 ≤ sizeLine; decide), fun t1 n1 => ⟨(by show 2 ≤ sizeLine; decide), fun t2 n2 => ?_⟩⟩
        have st1 := same_upd (o := .tup [.int at5, v]) n1
        have st2 := same_upd (o := .tup [.int 3, .int 61]) n2
        have st := st1.trans st2
        have dv : Dp K (upd (upd H18 t1 (.tup [.int at5, v])) t2 (.tup [.int 3, .int 61])) v (pyV v) := by
          rcases hv with hv | hv
          · simp only [poolA, List.mem_cons, List.not_mem_nil, or_false] at hv
            rcases hv with rfl | rfl | rfl | rfl | rfl | rfl | rfl
            · exact .int _
            · exact .int _
            · exact .int _
            · exact .int _
            · exact .str _
            · exact .bl _
            · exact .non
          · simp only [poolB, List.mem_cons, List.not_mem_nil, or_false] at hv
            rcases hv with rfl | rfl | rfl | rfl
            · exact .int _
            · exact .int _
            · exact .non
            · exact .bl _
        have fv : flat4 v = true ∧ SeqAt.shaped (.tuple [.int at5, pyV v]) = true := by
          rcases hv with hv | hv
          · simp only [poolA, List.mem_cons, List.not_mem_nil, or_false] at hv
            rcases hv with rfl | rfl | rfl | rfl | rfl | rfl | rfl <;> exact ⟨rfl, by simp [SeqAt.shaped, pyV, PyData.canLay0, PyData.canLayAll0, PyData.depth, PyData.depthAll] <;> decide +kernel⟩
          · simp only [poolB, List.mem_cons, List.not_mem_nil, or_false] at hv
            rcases hv with rfl | rfl | rfl | rfl <;> exact ⟨rfl, by simp [SeqAt.shaped, pyV, PyData.canLay0, PyData.canLayAll0, PyData.depth, PyData.depthAll]⟩
        refine ⟨.tuple [.int at5, pyV v], .tuple [.int 3, .int 61], .tup (st_of (st2 _ _ upd_same)) (.cons (.int _) (.cons dv .nil)), .tup (st_of upd_same) (.cons (.int _) (.cons (.int _) .nil)), fv.2, shT [3, 61], ?_⟩
        cases he : PyData.eqv (.tuple [.int at5, pyV v]) (.tuple [.int 3, .int 61]) with
        | true => exact ⟨false, rfl, iteF (hQ2 _ st)⟩
        | false =>
          have hfb : firstBad (rowsL (badL at5 v)) = wordsL[at5.toNat]? := by
            unfold caseOk at ck
            rw [he] at ck
            simpa using ck
          refine ⟨true, rfl, iteT ?_⟩
          obtain ⟨wd, ew1, ew2⟩ : ∃ wd, wordsL[at5.toNat]? = some wd ∧ atI (wordsL.map V.str) at5 = some (V.str wd) := by
            have h5 : at5 = 0 ∨ at5 = 1 ∨ at5 = 2 ∨ at5 = 3 ∨ at5 = 4 := by omega
            rcases h5 with e | e | e | e | e <;> rw [e] <;> exact ⟨_, rfl, rfl⟩
          obtain ⟨v0, v1, v2, v3, v4, e5, fl5⟩ : ∃ v0 v1 v2 v3 v4, badL at5 v = [v0, v1, v2, v3, v4] ∧ (flat4 v0 = true ∧ flat4 v1 = true ∧ flat4 v2 = true ∧ flat4 v3 = true ∧ flat4 v4 = true) := by
            have h5 : at5 = 0 ∨ at5 = 1 ∨ at5 = 2 ∨ at5 = 3 ∨ at5 = 4 := by omega
            have f1 := fv.1
            rcases h5 with e | e | e | e | e <;> rw [e] <;> exact ⟨_, _, _, _, _, rfl, by first | exact f1 | rfl, by first | exact f1 | rfl, by first | exact f1 | rfl, by first | exact f1 | rfl, by first | exact f1 | rfl⟩
          rw [e5] at eb hfb
          have hfb' : firstBad (rowsB v0 v1 v2 v3 v4) = some wd := by rw [← ew1]; exact hfb
          refine ⟨_, rfl, (by show 5 ≤ sizeLine; decide), fun t3 n3 => ?_⟩
          have st3 := same_upd (o := .lst (wordsL.map V.str)) n3
          refine ⟨_, rfl, t3, wordsL.map V.str, at5, .str wd, rfl, rfl, sl_of upd_same, ew2, bd, wd, v0, v1, v2, v3, v4, rfl, st3 _ _ (st _ _ eb), fl5, hfb', fun H' s' => ⟨true, rfl, ?_⟩⟩
          exact hQ2 _ ((st.trans st3).trans s')
      case k11 =>
        intro H19 s1819
        have d19 := d18.same s1819
        have sh19 := sh18.same s1819
        refine ⟨_, rfl, _, rfl, dr, a, x, d, rfl, d19, sh19, o, fun H20 hh pl sB20 dI20 hhm => ?_⟩
        have sh20 : ShapeAt C H20 x d := by
          obtain ⟨dd, hx⟩ := sh19
          exact ⟨dd, sB20 _ _ ndx hx⟩
        have hm : Hm C H20 hh x d pl := ⟨o, hhm, sh20⟩
        obtain ⟨dx20, hx20⟩ := id sh20
        refine ⟨_, rfl, x, C, dx20, _, _, rfl, hx20, T.cS, T.na, sf_files d, _, rfl, ⟨by decide, by decide, by omega, by omega, by omega⟩, fun l1 nl1 => ?_⟩
        refine ⟨_, rfl, l1, _, rfl, sl_of upd_same, fun fl nfl => ?_⟩
        have s2021 := (same_upd (o := .lst (rgV 0 d.F)) nl1).trans (same_upd (o := .lst (cutV (rgV 0 d.F) none (some 3))) nfl)
        have hfl : upd (upd H20 l1 (.lst (rgV 0 d.F))) fl (.lst (cutV (rgV 0 d.F) none (some 3))) fl = some (.lst (cutV (rgV 0 d.F) none (some 3))) := upd_same
        generalize upd (upd H20 l1 (.lst (rgV 0 d.F))) fl (.lst (cutV (rgV 0 d.F) none (some 3))) = H21 at s2021 hfl
        have hin : ∀ v ∈ cutV (rgV 0 d.F) none (some 3), ∃ j, v = V.int j ∧ 0 ≤ j ∧ j < d.F := by
          intro v hv
          unfold cutV at hv
          have hv := List.mem_of_mem_drop (List.mem_of_mem_take hv)
          unfold rgV at hv
          obtain ⟨n, hn, rfl⟩ := List.mem_map.mp hv
          have hn := List.mem_range.mp hn
          exact ⟨0 + (n : Int), rfl, by omega, by omega⟩
        refine ⟨_, rfl, _, rfl, hh, x, d, pl, rfl, hm.same s2021, fun H22 s2122 => ⟨true, rfl, iteT ?_⟩⟩
        have s2022 := s2021.trans s2122
        have hfl22 := s2122 _ _ hfl
        have hlen : (cutV (rgV 0 d.F) none (some 3)).length ≤ 300 := by
          have e1 := cutV_length (rgV 0 d.F) none (some 3)
          rw [rgV_length] at e1
          omega
        refine ⟨_, rfl, fl, rfl, ⟨_, sl_of hfl22⟩, fun D nD => ?_⟩
        refine lc_list (K := K) (a := fl) (xs := cutV (rgV 0 d.F) none (some 3)) (fun i H' => Same H22 H' ∧ H' D = some (.lst ((List.replicate i true).map V.bl))) ⟨same_upd nD, upd_same⟩ (fun i H' _ ⟨s, _⟩ => sl_of (s _ _ hfl22)) ?_ ?_
        · rintro i v H' hi ⟨s', hD⟩
          obtain ⟨j, rfl, j0, j1⟩ := hin v (List.mem_of_getElem? hi)
          have hi' := (List.getElem?_eq_some_iff.mp hi).1
          have hm' := hm.same (s2022.trans s')
          refine ⟨rfl, _, rfl, _, rfl, _, rfl, hh, x, d, pl, j, rfl, hm', ⟨j0, j1⟩, fun Ha sa => ⟨true, rfl, iteT ⟨_, rfl, _, rfl, _, rfl, hh, x, d, pl, j, rfl, hm'.same sa, ⟨j0, j1⟩, fun Hb sb => ⟨_, sb _ _ (sa _ _ hD), ?_, same_mut ((s'.trans sa).trans sb) nD, ?_⟩⟩⟩⟩
          · rw [List.length_map, List.length_replicate, sizeLine_eq]
            omega
          · rw [upd_same, List.replicate_succ', List.map_append]
            rfl
        · rintro H' ⟨s', hD⟩
          refine ⟨D, _, rfl, sl_of hD, ?_⟩
          have e1 : (List.replicate (cutV (rgV 0 d.F) none (some 3)).length true).all id = true := by simp
          rw [e1]
          exact q H'
end
end K70
namespace K70
open PySem PySem.Spec PyProof.Rows L2
/-! ### what the top has written, the end -/
section
variable {K : PySem.W.Frag} {h : Heap} {mg : Str → Option Value} {C f : Addr} {x q : Str} {st : Stmt} {oc kV dc pm cd ct dV : Value} {od an : Option Addr} {sl : Array (Option Value)}
theorem at_mk (X : K.In h) (G : h.Ns mainGlobals mg) (a : PySem.W.nsIn K mainGlobals x = some (some (.ref f))) (l : K.lookup f = some ⟨oc, od, .func (PySem.W.fnOf x x (defArgs st) (defBody st) (defScope st) .none kV dc pm an cd ct), sl⟩) (c : PySem.W.codeIn K cd x = true) (k : PySem.W.keepIn K (.ref f) = true) : At K mg x st :=
  ⟨f, _, fun_mk l c k, PySem.W.mg_of X G a⟩
theorem atM_mk (a : PySem.W.findIn K (.ref C) x = some (some (.ref f))) (i : PySem.W.isFn K (.ref f) = true) (l : K.lookup f = some ⟨oc, od, .func (PySem.W.fnOf x q (defArgs st) (defBody st) (defScope st) .none kV dc pm an cd ct), sl⟩) (c : PySem.W.codeIn K cd q = true) (k : PySem.W.keepIn K (.ref f) = true) : AtM K C x q st :=
  ⟨f, _, fun_mk l c k, a, i, k⟩
theorem atD_mk {T : Addr} {o : Obj} {m : Nat} (X : K.In h) (G : h.Ns mainGlobals mg) (a : PySem.W.nsIn K mainGlobals "is_whole" = some (some (.ref f))) (l : K.lookup f = some ⟨oc, od, .func (PySem.W.fnOf "is_whole" "is_whole" (defArgs sIsWhole) (defBody sIsWhole) (defScope sIsWhole) (.ref T) kV dc pm an cd ct), sl⟩) (c : PySem.W.codeIn K cd "is_whole" = true) (k : PySem.W.keepIn K (.ref f) = true)
    (lT : K.lookup T = some o) (hT : o.data = .seq #[.none, .none] m) : AtD K mg :=
  ⟨f, _, ⟨⟨oc, od, _, kV, dc, pm, an, cd, ct, sl, rfl, l, c, .inr ⟨by simp, T, o, [.none, .none], m, rfl, lT, hT, .cons rfl (.cons rfl .nil)⟩, .inl rfl⟩, k⟩, PySem.W.mg_of X G a⟩
/-- an error of the class at S is what «except S» names -/
theorem exm_one {S : Addr} (h1 : PySem.W.subIn K (.ref S) (.type "BaseException") = some true) (h2 : PySem.W.isClsIn K S = true) (h3 : PySem.W.typeIn K (.ref S) = some (.type "type")) (h4 : PySem.W.subIn K (.ref S) (.ref S) = some true) : PySem.W.exmOne K (.ref S) (.ref S) = some true := by
  have e1 : (PySem.W.subIn K (.ref S) (.type "BaseException") == some true) = true := by rw [h1] <;> rfl
  have e2 : ((PySem.W.clsIn K S).isSome && PySem.W.typeIn K (.ref S) == some (.type "type")) = true := by
    have h2' : (PySem.W.clsIn K S).isSome = true := h2
    rw [h2', h3] <;> rfl
  show (if (PySem.W.subIn K (.ref S) (.type "BaseException") == some true) = true then (if ((PySem.W.clsIn K S).isSome && PySem.W.typeIn K (.ref S) == some (.type "type")) = true then PySem.W.subIn K (.ref S) (.ref S) else none) else none) = some true
  rw [if_pos e1, if_pos e2]
  exact h4
theorem bad_mk {P : Program} {fI : Addr} (X : K.In h) (G : h.Ns mainGlobals mg)
    {nm qn : Str} {N : Addr} {bs bm : List Value} {sn : List Str} {sub : List Value} {ab : Bool} {col : Option Bool} {dd : Option Addr} {k0 k1 k2 k3 k5 : Option Value}
    {cda cc : Addr} {ccl : Value} {cdd : Option Addr} {vs : Array Value} {ccs : Array (Option Value)} {file : Str} {tf : Tok} {cl : Value} {cld : Option Addr} {csl : Array (Option Value)}
    (aC : PySem.W.nsIn K mainGlobals "BadShape" = some (some (.ref C)))
    (xL : K.lookup C = some (excClassObj nm qn C N bs bm true sn sub ab col dd k0 k1 k2 k3 k5 "Exception.__new__")) (xt : PySem.W.excTail exT bm = true)
    (sa : PySem.W.findIn K (.ref C) "__setattr__" = some (some (.builtin "object.__setattr__"))) (ga : PySem.W.findIn K (.ref C) "__getattribute__" = some (some (.builtin "BaseException.__getattribute__"))) (gg : PySem.W.findIn K (.ref C) "__getattr__" = some none)
    (eC : PySem.W.subIn K (.ref C) (.type "BaseException") = some true) (hC : PySem.W.hasDictIn K C = true) (nb : PySem.W.findIn K (.ref C) "word" = some none)
    (a1 : PySem.W.findIn K (.ref C) "__init__" = some (some (.ref fI))) (t1 : PySem.W.typeIn K (.ref fI) = some (.type "function")) (kC : PySem.W.keepIn K (.ref C) = true) (eX : PySem.W.subIn K (.ref C) (.type "Exception") = some true) (tC : PySem.W.typeIn K (.ref C) = some (.type "type")) (iC : PySem.W.isClsIn K C = true) (sC : PySem.W.subIn K (.ref C) (.ref C) = some true)
    (op : PySem.W.nsIn K cStatics "thirdparty.any" = some none) (su : PySem.W.ks_superIn K C C "__init__" = some (some (.builtin "Exception.__init__"))) (mr : PySem.W.mroIn K C (.ref C) = some true) (ns : PySem.W.nsIn K mainGlobals "super" = some none)
    (l1 : K.lookup fI = some ⟨oc, od, .func (PySem.W.fnX "__init__" "BadShape.__init__" (defArgs sBadInit) (defBody sBadInit) (defScope sBadInit) [("__class__", cc)] .none .none dc pm an (.ref cda) ct), sl⟩) (c1 : PySem.W.codeIn K (.ref cda) "BadShape.__init__" = true)
    (lc : K.lookup cda = some ⟨ccl, cdd, .fields vs, ccs⟩) (hv : vs[2]? = some (.str file tf)) (hf : (P.main.file == file) = true) (lx : K.lookup cc = some ⟨cl, cld, .cell (some (.ref C)), csl⟩) (tp : (P.main.scope.names.lookup ("super" : Str)).isSome = false) : BadTxt P K mg C fI :=
  { gC := PySem.W.mg_of X G aC, cls := ⟨nm, qn, N, bs, bm, sn, sub, ab, col, dd, k0, k1, k2, k3, k5, xL, xt⟩, sa := sa, xf := ⟨ga, gg, eC, hC⟩, noN := nb, iC := a1, tC := t1, kC := kC, exX := eX, tyC := tC, te := exm_one eC iC tC sC, op := op, su := su, mr := mr, ns := PySem.W.mg_none_of X G ns,
    fn := ⟨oc, od, dc, pm, an, cda, cc, ct, sl, ccl, cdd, vs, ccs, file, tf, cl, cld, csl, l1, c1, lc, hv, hf, lx⟩, top := tp }
theorem gi_mk {i : Int} (X : K.In h) (G : h.Ns mainGlobals mg) {t : Tok} (a : PySem.W.nsIn K mainGlobals x = some (some (.int i t))) : ∃ t, mg x = some (.int i t) := ⟨t, PySem.W.mg_of X G a⟩
theorem na_mk (n1 : PySem.W.findIn K (.ref C) "dirs" = some none) (n2 : PySem.W.findIn K (.ref C) "rows" = some none) (n3 : PySem.W.findIn K (.ref C) "files" = some none) (n4 : PySem.W.findIn K (.ref C) "blocks" = some none) (n5 : PySem.W.findIn K (.ref C) "users" = some none) (n6 : PySem.W.findIn K (.ref C) "first_row" = some none) (n7 : PySem.W.findIn K (.ref C) "first_user" = some none)
    (n8 : PySem.W.findIn K (.ref C) "first_file" = some none) (n9 : PySem.W.findIn K (.ref C) "first_block" = some none) (n10 : PySem.W.findIn K (.ref C) "plates" = some none) : ∀ f ∈ (["dirs", "rows", "files", "blocks", "users", "first_row", "first_user", "first_file", "first_block", "plates"] : List Str), NoAttr K C f := by
  intro f hf
  simp only [List.mem_cons, List.not_mem_nil, or_false] at hf
  rcases hf with rfl | rfl | rfl | rfl | rfl | rfl | rfl | rfl | rfl | rfl
  · exact n1
  · exact n2
  · exact n3
  · exact n4
  · exact n5
  · exact n6
  · exact n7
  · exact n8
  · exact n9
  · exact n10
end
theorem all_mk {P : Program} {w : World} {K : PySem.W.Frag} {mg : Str → Option Value} {fa C CB fB : Addr} (hfa : mg "law" = some (.ref fa)) (T : Txt K mg C) (TE : EqTxt K C) (mk : PySem.W.makesIn K C = true) (kc : PySem.W.keepIn K (.ref C) = true) (TB : BadTxt P K mg CB fB) (dW : AtD K mg)
    (t0 : At K mg "plates_for" sPlatesFor) (t1 : At K mg "cell_at" sCellAt) (t2 : At K mg "dir_at" sDirAt) (t3 : At K mg "row_at" sRowAt) (t4 : At K mg "is_dir" sIsDir) (t5 : At K mg "rows_of" sRowsOf) (t6 : At K mg "named_files" sNamedFiles) (t7 : At K mg "size_at" sSizeAt) (t8 : At K mg "owner_at" sOwnerAt) (t9 : At K mg "block_of" sBlockOf) (t10 : At K mg "pointers_at" sPointersAt) (t11 : At K mg "met_below" sMetBelow) (t12 : At K mg "met" sMet) (t13 : At K mg "spot_of" sSpotOf) (t14 : At K mg "data_block" sDataBlock) (t15 : At K mg "numbers_at" sNumbersAt) (t16 : At K mg "content_of" sContentOf) (t17 : At K mg "_law_number" sLawNumber) (t18 : At K mg "_law_take" sLawTake) (t19 : At K mg "_law_pick" sLawPick) (t20 : At K mg "_law_unlike" sLawUnlike) (t21 : At K mg "_law_cells_of" sLawCellsOf) (t22 : At K mg "_law_any" sLawAny) (t23 : At K mg "_law_is_read" sLawIsRead) (t24 : At K mg "_law_are_met" sLawAreMet) (t25 : At K mg "_law_are_names" sLawAreNames) (t26 : At K mg "_law_is_refused" sLawIsRefused) (t27 : At K mg "law" sLaw) (m0 : AtM K C "__init__" "Shape.__init__" sShInit) (m1 : AtM K C "__eq__" "Shape.__eq__" sShEq) (m2 : AtM K C "told" "Shape.told" sTold) (m3 : AtM K C "clock_cell" "Shape.clock_cell" sClockCell) (m4 : AtM K C "dir_cell" "Shape.dir_cell" sDirCell) (m5 : AtM K C "row_cell" "Shape.row_cell" sRowCell) (m6 : AtM K C "user_cell" "Shape.user_cell" sUserCell) (m7 : AtM K C "file_plate" "Shape.file_plate" sFilePlate) (m8 : AtM K C "block_plate" "Shape.block_plate" sBlockPlate) :
    ∃ fd : FuncData, (∀ (s : Shared) (v : Value), BindsTo s fd ⟨[v], []⟩ [("_law_script", v)]) ∧ ∀ base : Heap, K.In base → base.Ns mainGlobals mg → FnOk P w K mg base CX0 7 fa fd ["_law_script"] (spLaw K) := by
  obtain ⟨f, fd, F, m⟩ := t27.ex
  have e := hfa.symm.trans m
  cases e
  obtain ⟨oc, od, kV, doc, pm, an, cdv, ct, osl, efd, lk, hcd⟩ := F.ex
  refine ⟨fd, fun s v => ?_, fun base _ _ => ?_⟩
  · rw [efd]
    exact .of_eq rfl
  have a_plates_for := ok_plates_for (P := P) (w := w) (base := base) t0 T
  have a_is_whole := has_is_whole (P := P) (w := w) (base := base) dW T
  have b_told := ok_told (P := P) (w := w) (base := base) m2 T
  have b_clock := ok_clock_cell (P := P) (w := w) (base := base) m3 T
  have b_dir := ok_dir_cell (P := P) (w := w) (base := base) m4 T
  have b_row := ok_row_cell (P := P) (w := w) (base := base) m5 T
  have b_user := ok_user_cell (P := P) (w := w) (base := base) m6 T
  have b_file := ok_file_plate (P := P) (w := w) (base := base) m7 T
  have b_block := ok_block_plate (P := P) (w := w) (base := base) m8 T
  have b_eq := ok_sh_eq m1 T TE b_told
  have a_cell_at := ok_cell_at (P := P) (w := w) (base := base) t1 T
  have a_dir_at := ok_dir_at t2 T a_cell_at b_dir
  have a_row_at := ok_row_at t3 T a_cell_at b_row
  have a_is_dir := ok_is_dir t4 T a_dir_at
  have a_rows_of := ok_rows_of t5 T a_row_at
  have a_named := ok_named_files t6 T a_rows_of
  have a_size := ok_size_at t7 T b_file
  have a_owner := ok_owner_at t8 T b_file
  have a_block := ok_block_of (P := P) (w := w) (base := base) t9 T
  have a_spot := ok_spot_of (P := P) (w := w) (base := base) t13 T
  have a_data := ok_data_block t14 T b_file b_block a_spot a_block
  have a_numbers := ok_numbers_at t15 T b_block a_data
  have a_content := ok_content_of t16 T a_size a_numbers
  have a_below := ok_met_below t11 T b_block a_block
  have a_pointers := ok_pointers_at t10 T b_file
  have a_met := ok_met t12 T a_pointers a_below
  obtain ⟨fi, fdi, Gi, Mi, bi⟩ := ok_sh_init m0 T TB a_is_whole a_plates_for
  have a_mk : HasMk P w K mg base C CB := ⟨fi, fdi, Gi, ⟨mk, Mi.at_, Mi.fn, kc⟩, bi⟩
  have l_refused := ok_is_refused t26 T TB a_mk
  have l_number := ok_law_number (P := P) (w := w) (base := base) t17 T
  have l_take := ok_law_take t18 T l_number
  have l_pick := ok_law_pick t19 T l_take
  have l_unlike := ok_law_unlike (P := P) (w := w) (base := base) t20 T
  have l_cells := ok_law_cells t21 T b_clock b_dir b_row b_user b_file b_block
  have l_any := ok_law_any t22 T l_pick
  have l_read := ok_is_read t23 T b_file b_block a_spot a_data a_size a_content a_numbers a_owner
  have l_met := ok_are_met t24 T b_block a_pointers a_below a_block a_met
  have l_names := ok_are_names t25 T b_dir b_row a_dir_at a_row_at a_is_dir a_named
  exact ok_law F T TE a_mk l_take l_cells l_unlike a_spot b_told b_eq l_pick l_refused l_any l_names l_read l_met
theorem walk {l : PySem.W.OpenLaw} {q : Program} {loose : List Str} {XP : (Str → Option Value) → Heap → Prop} {YP : World → Heap → Prop} {d : DefRec} {K : Params → PySem.W.Frag} (hn : l.most = some 63) (hdf : d.params.defaults = [])
    (hY : ∀ (w : World) (h : Heap), YP w h → (K w.params).In h)
    (F : ∀ (w : World) (mg : Str → Option Value) (fa : Addr) (h : Heap), (K w.params).In h → h.Ns mainGlobals mg → mg d.name = some (.ref fa) →
      ∃ fd : FuncData, (∀ (s : Shared) (u : Value), BindsTo s fd ⟨[u], []⟩ [("_law_script", u)]) ∧ ∀ base : Heap, (K w.params).In base → base.Ns mainGlobals mg → FnOk l.prog w (K w.params) mg base CX0 7 fa fd ["_law_script"] (spLaw (K w.params))) :
    PySem.W.WalkO q loose XP YP l.row.toRowW d [] (fun f vs => PySem.call f vs) :=
  L2.walk_of (n := 63) (k := 7) (x := "_law_script") (CX := fun _ => CX0) (sp := fun w => spLaw (K w.params)) hn (by decide) hdf ⟨rfl, by decide, by decide⟩ hY F (fun _ _ a ns hl _ hS => ⟨a, ns, rfl, hS, hl, fun _ => rfl⟩) fun _ _ _ _ _ z => z
end K70
open PySem PySem.W PyProof.Rows in
set_option maxRecDepth 100000 in
set_option maxHeartbeats 0 in
theorem PySem.Challenge.cw_plugproof_k70_whole_readings_holds : PySem.Challenge.rw_plugproof_k70_whole_readings.Holds := by
  w_on; o_law; k_head; (case hw => w_witness2)
  k_fill
  refine K70.walk (l := PySem.Challenge.rw_plugproof_k70_whole_readings) rfl rfl (fun w h Y => PySem.W.kIn_of Y) ?F
  case F =>
    intro w mg fa h KX G hmg
    replace hmg : mg "law" = some (.ref fa) := hmg
    refine' K70.all_mk hmg ?T ?TE ?mk ?kc ?TB ?dW ?t0 ?t1 ?t2 ?t3 ?t4 ?t5 ?t6 ?t7 ?t8 ?t9 ?t10 ?t11 ?t12 ?t13 ?t14 ?t15 ?t16 ?t17 ?t18 ?t19 ?t20 ?t21 ?t22 ?t23 ?t24 ?t25 ?t26 ?t27 ?m0 ?m1 ?m2 ?m3 ?m4 ?m5 ?m6 ?m7 ?m8
    case T =>
      refine' ⟨K70.gi_mk KX G ?ug0, K70.gi_mk KX G ?ug1, K70.gi_mk KX G ?ug2, K70.gi_mk KX G ?ug3, K70.gi_mk KX G ?ug4, K70.gi_mk KX G ?ug5, PySem.W.mg_of KX G ?gS, ⟨?pg, ?hd, ?po, ?sa⟩, PySem.W.mg_none_of KX G ?z0, PySem.W.mg_none_of KX G ?z1, PySem.W.mg_none_of KX G ?z2, PySem.W.mg_none_of KX G ?z3, PySem.W.mg_none_of KX G ?z4, PySem.W.mg_none_of KX G ?z5, PySem.W.mg_none_of KX G ?z6, PySem.W.mg_none_of KX G ?z7, PySem.W.mg_none_of KX G ?z8, PySem.W.mg_none_of KX G ?z9, PySem.W.mg_none_of KX G ?z10, PySem.W.mg_none_of KX G ?z11, PySem.W.mg_none_of KX G ?z12, PySem.W.mg_none_of KX G ?z13, K70.na_mk ?n0 ?n1 ?n2 ?n3 ?n4 ?n5 ?n6 ?n7 ?n8 ?n9⟩
      (case ug0 => k_is)
      (case ug1 => k_is)
      (case ug2 => k_is)
      (case ug3 => k_is)
      (case ug4 => k_is)
      (case ug5 => k_is)
      (case gS => k_is)
      (case pg => k_is)
      (case hd => k_is)
      (case po => k_is)
      (case sa => k_is)
      (case z0 => k_is)
      (case z1 => k_is)
      (case z2 => k_is)
      (case z3 => k_is)
      (case z4 => k_is)
      (case z5 => k_is)
      (case z6 => k_is)
      (case z7 => k_is)
      (case z8 => k_is)
      (case z9 => k_is)
      (case z10 => k_is)
      (case z11 => k_is)
      (case z12 => k_is)
      (case z13 => k_is)
      (case n0 => k_is)
      (case n1 => k_is)
      (case n2 => k_is)
      (case n3 => k_is)
      (case n4 => k_is)
      (case n5 => k_is)
      (case n6 => k_is)
      (case n7 => k_is)
      (case n8 => k_is)
      (case n9 => k_is)
    case TE =>
      refine' ⟨?e1, ?e2, ?e3, ?e4, ?e5⟩
      (case e1 => k_is)
      (case e2 => k_is)
      (case e3 => k_is)
      (case e4 => k_is)
      (case e5 => k_is)
    (case mk => k_is)
    (case kc => k_is)
    case TB =>
      refine' K70.bad_mk KX G ?b_aC ?b_xL ?b_xt ?b_sa ?b_ga ?b_gg ?b_eC ?b_hC ?b_nb ?b_a1 ?b_t1 ?b_kC ?b_eX ?b_tC ?b_iC ?b_sC ?b_op ?b_su ?b_mr ?b_ns ?b_l1 ?b_c1 ?b_lc ?b_hv ?b_hf ?b_lx ?b_tp
      (case b_aC => k_is)
      (case b_xL => k_is)
      (case b_xt => rfl)
      (case b_sa => k_is)
      (case b_ga => k_is)
      (case b_gg => k_is)
      (case b_eC => k_is)
      (case b_hC => k_is)
      (case b_nb => k_is)
      (case b_a1 => k_is)
      (case b_t1 => k_is)
      (case b_kC => k_is)
      (case b_eX => k_is)
      (case b_tC => k_is)
      (case b_iC => k_is)
      (case b_sC => first | rfl | k_is)
      (case b_op => k_is)
      (case b_su => ks_is)
      (case b_mr => k_is)
      (case b_ns => k_is)
      (case b_l1 => k_is)
      (case b_c1 => k_is)
      (case b_lc => k_is)
      (case b_hv => rfl)
      (case b_hf => decide +kernel)
      (case b_lx => k_is)
      (case b_tp => decide +kernel)
    case dW =>
      refine' K70.atD_mk KX G ?a ?l ?c ?k ?lT ?hT
      (case a => k_is)
      (case l => k_is)
      (case c => k_is)
      (case k => k_is)
      (case lT => k_is)
      (case hT => rfl)
    case t0 =>
      refine' K70.at_mk KX G ?a ?l ?c ?k
      (case a => k_is)
      (case l => k_is)
      (case c => k_is)
      (case k => k_is)
    case t1 =>
      refine' K70.at_mk KX G ?a ?l ?c ?k
      (case a => k_is)
      (case l => k_is)
      (case c => k_is)
      (case k => k_is)
    case t2 =>
      refine' K70.at_mk KX G ?a ?l ?c ?k
      (case a => k_is)
      (case l => k_is)
      (case c => k_is)
      (case k => k_is)
    case t3 =>
      refine' K70.at_mk KX G ?a ?l ?c ?k
      (case a => k_is)
      (case l => k_is)
      (case c => k_is)
      (case k => k_is)
    case t4 =>
      refine' K70.at_mk KX G ?a ?l ?c ?k
      (case a => k_is)
      (case l => k_is)
      (case c => k_is)
      (case k => k_is)
    case t5 =>
      refine' K70.at_mk KX G ?a ?l ?c ?k
      (case a => k_is)
      (case l => k_is)
      (case c => k_is)
      (case k => k_is)
    case t6 =>
      refine' K70.at_mk KX G ?a ?l ?c ?k
      (case a => k_is)
      (case l => k_is)
      (case c => k_is)
      (case k => k_is)
    case t7 =>
      refine' K70.at_mk KX G ?a ?l ?c ?k
      (case a => k_is)
      (case l => k_is)
      (case c => k_is)
      (case k => k_is)
    case t8 =>
      refine' K70.at_mk KX G ?a ?l ?c ?k
      (case a => k_is)
      (case l => k_is)
      (case c => k_is)
      (case k => k_is)
    case t9 =>
      refine' K70.at_mk KX G ?a ?l ?c ?k
      (case a => k_is)
      (case l => k_is)
      (case c => k_is)
      (case k => k_is)
    case t10 =>
      refine' K70.at_mk KX G ?a ?l ?c ?k
      (case a => k_is)
      (case l => k_is)
      (case c => k_is)
      (case k => k_is)
    case t11 =>
      refine' K70.at_mk KX G ?a ?l ?c ?k
      (case a => k_is)
      (case l => k_is)
      (case c => k_is)
      (case k => k_is)
    case t12 =>
      refine' K70.at_mk KX G ?a ?l ?c ?k
      (case a => k_is)
      (case l => k_is)
      (case c => k_is)
      (case k => k_is)
    case t13 =>
      refine' K70.at_mk KX G ?a ?l ?c ?k
      (case a => k_is)
      (case l => k_is)
      (case c => k_is)
      (case k => k_is)
    case t14 =>
      refine' K70.at_mk KX G ?a ?l ?c ?k
      (case a => k_is)
      (case l => k_is)
      (case c => k_is)
      (case k => k_is)
    case t15 =>
      refine' K70.at_mk KX G ?a ?l ?c ?k
      (case a => k_is)
      (case l => k_is)
      (case c => k_is)
      (case k => k_is)
    case t16 =>
      refine' K70.at_mk KX G ?a ?l ?c ?k
      (case a => k_is)
      (case l => k_is)
      (case c => k_is)
      (case k => k_is)
    case t17 =>
      refine' K70.at_mk KX G ?a ?l ?c ?k
      (case a => k_is)
      (case l => k_is)
      (case c => k_is)
      (case k => k_is)
    case t18 =>
      refine' K70.at_mk KX G ?a ?l ?c ?k
      (case a => k_is)
      (case l => k_is)
      (case c => k_is)
      (case k => k_is)
    case t19 =>
      refine' K70.at_mk KX G ?a ?l ?c ?k
      (case a => k_is)
      (case l => k_is)
      (case c => k_is)
      (case k => k_is)
    case t20 =>
      refine' K70.at_mk KX G ?a ?l ?c ?k
      (case a => k_is)
      (case l => k_is)
      (case c => k_is)
      (case k => k_is)
    case t21 =>
      refine' K70.at_mk KX G ?a ?l ?c ?k
      (case a => k_is)
      (case l => k_is)
      (case c => k_is)
      (case k => k_is)
    case t22 =>
      refine' K70.at_mk KX G ?a ?l ?c ?k
      (case a => k_is)
      (case l => k_is)
      (case c => k_is)
      (case k => k_is)
    case t23 =>
      refine' K70.at_mk KX G ?a ?l ?c ?k
      (case a => k_is)
      (case l => k_is)
      (case c => k_is)
      (case k => k_is)
    case t24 =>
      refine' K70.at_mk KX G ?a ?l ?c ?k
      (case a => k_is)
      (case l => k_is)
      (case c => k_is)
      (case k => k_is)
    case t25 =>
      refine' K70.at_mk KX G ?a ?l ?c ?k
      (case a => k_is)
      (case l => k_is)
      (case c => k_is)
      (case k => k_is)
    case t26 =>
      refine' K70.at_mk KX G ?a ?l ?c ?k
      (case a => k_is)
      (case l => k_is)
      (case c => k_is)
      (case k => k_is)
    case t27 =>
      refine' K70.at_mk KX G ?a ?l ?c ?k
      (case a => k_is)
      (case l => k_is)
      (case c => k_is)
      (case k => k_is)
    case m0 =>
      refine' K70.atM_mk ?a ?i ?l ?c ?k
      (case a => k_is)
      (case i => k_is)
      (case l => k_is)
      (case c => k_is)
      (case k => k_is)
    case m1 =>
      refine' K70.atM_mk ?a ?i ?l ?c ?k
      (case a => k_is)
      (case i => k_is)
      (case l => k_is)
      (case c => k_is)
      (case k => k_is)
    case m2 =>
      refine' K70.atM_mk ?a ?i ?l ?c ?k
      (case a => k_is)
      (case i => k_is)
      (case l => k_is)
      (case c => k_is)
      (case k => k_is)
    case m3 =>
      refine' K70.atM_mk ?a ?i ?l ?c ?k
      (case a => k_is)
      (case i => k_is)
      (case l => k_is)
      (case c => k_is)
      (case k => k_is)
    case m4 =>
      refine' K70.atM_mk ?a ?i ?l ?c ?k
      (case a => k_is)
      (case i => k_is)
      (case l => k_is)
      (case c => k_is)
      (case k => k_is)
    case m5 =>
      refine' K70.atM_mk ?a ?i ?l ?c ?k
      (case a => k_is)
      (case i => k_is)
      (case l => k_is)
      (case c => k_is)
      (case k => k_is)
    case m6 =>
      refine' K70.atM_mk ?a ?i ?l ?c ?k
      (case a => k_is)
      (case i => k_is)
      (case l => k_is)
      (case c => k_is)
      (case k => k_is)
    case m7 =>
      refine' K70.atM_mk ?a ?i ?l ?c ?k
      (case a => k_is)
      (case i => k_is)
      (case l => k_is)
      (case c => k_is)
      (case k => k_is)
    case m8 =>
      refine' K70.atM_mk ?a ?i ?l ?c ?k
      (case a => k_is)
      (case i => k_is)
      (case l => k_is)
      (case c => k_is)
      (case k => k_is)
